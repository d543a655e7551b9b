import PyProof.Rows.All
import Wide.All
import OpenK.AllK
import Wide.FinOn
import PySem.Challenge.RW_on0013_01
open PySem PySem.W PyProof.Rows
set_option Elab.async false
namespace Mine
theorem same_find : @Manifest.find? = @Manifest.find? := rfl
end Mine
name_quick tw8075568018651887793 for Manifest.find? by Mine.same_find
name_quick tw11045969416838239377 for Manifest.find? by Mine.same_find
name_quick tw7151152220419049475 for Manifest.find? by Mine.same_find
name_quick tw14979626087600564940 for Manifest.find? by Mine.same_find
name_quick tw4919607303878514444 for Manifest.find? by Mine.same_find
name_quick tw6476718242876238587 for Manifest.find? by Mine.same_find
name_quick tw10939607955317197324 for Manifest.find? by Mine.same_find
name_quick tw10427553783773113541 for Manifest.find? by Mine.same_find
name_quick tw851788092915810840 for Manifest.find? by Mine.same_find
name_quick tw2554192105039267796 for Manifest.find? by Mine.same_find
name_quick tw7299303143086499733 for Manifest.find? by Mine.same_find
name_quick tw14553827428707814869 for Manifest.find? by Mine.same_find
name_quick tw18101931140130867144 for Manifest.find? by Mine.same_find
name_quick tw3093977132361051618 for Manifest.find? by Mine.same_find
name_quick tw16643706677886111943 for Manifest.find? by Mine.same_find
name_quick tw16643379632663270332 for Manifest.find? by Mine.same_find
name_quick tw10706342367453228570 for Manifest.find? by Mine.same_find
name_quick tw136631920214876835 for Manifest.find? by Mine.same_find
name_quick tw11853533878840232495 for Manifest.find? by Mine.same_find
name_quick tw17164873540382356111 for Manifest.find? by Mine.same_find
name_quick tw5268983451555188008 for Manifest.find? by Mine.same_find
name_quick tw11317593695737139937 for Manifest.find? by Mine.same_find
name_quick tw8719427161674164953 for Manifest.find? by Mine.same_find
name_quick tw11452132507678324671 for Manifest.find? by Mine.same_find
name_quick tw2611137233208623240 for Manifest.find? by Mine.same_find
name_quick tw13317431791736044220 for Manifest.find? by Mine.same_find
name_quick tw14530364306720264245 for Manifest.find? by Mine.same_find
name_quick tw392140993173905013 for Manifest.find? by Mine.same_find
name_quick tw16817318245366136608 for Manifest.find? by Mine.same_find
name_quick tw17730428716208468724 for Manifest.find? by Mine.same_find
name_quick tw9862997608875712007 for Manifest.find? by Mine.same_find
name_quick tw15278061642289888581 for Manifest.find? by Mine.same_find
name_quick tw460243522976405022 for Manifest.find? by Mine.same_find
name_quick tw3152983702415266003 for Manifest.find? by Mine.same_find
name_quick tw16241802466949684156 for Manifest.find? by Mine.same_find
name_quick tw12268644228514654432 for Manifest.find? by Mine.same_find
name_quick tw14714103240675001986 for Manifest.find? by Mine.same_find
name_quick tw11306939235166856333 for Manifest.find? by Mine.same_find
name_quick tw8703263022893421829 for Manifest.find? by Mine.same_find
name_quick tw16214148842636244229 for Manifest.find? by Mine.same_find
name_quick tw16414604833108395602 for Manifest.find? by Mine.same_find
name_quick tw4978915544186085027 for Manifest.find? by Mine.same_find
name_quick tw4658958612460137192 for Manifest.find? by Mine.same_find
name_quick tw14386061602966655976 for Manifest.find? by Mine.same_find
name_quick tw14326252917377295143 for Manifest.find? by Mine.same_find
name_quick tw5032809538720368765 for Manifest.find? by Mine.same_find
name_quick tw2627984346626558326 for Manifest.find? by Mine.same_find
name_quick tw11543547407058413889 for Manifest.find? by Mine.same_find
name_quick tw15742981410569661332 for Manifest.find? by Mine.same_find
name_quick tw1377046205977697930 for Manifest.find? by Mine.same_find
name_quick tw4280405083889116848 for Manifest.find? by Mine.same_find
name_quick tw117213463901210413 for Manifest.find? by Mine.same_find
name_quick tw1503297043503765363 for Manifest.find? by Mine.same_find
name_quick tw9467589175468403638 for Manifest.find? by Mine.same_find
name_quick tw3282434896037501709 for Manifest.find? by Mine.same_find
name_quick tw7745614565497352828 for Manifest.find? by Mine.same_find
name_quick tw17354465474357448390 for Manifest.find? by Mine.same_find
name_quick tw15894407043143930727 for Manifest.find? by Mine.same_find
name_quick tw14126943448341045398 for Manifest.find? by Mine.same_find
name_quick tw14333388528381170442 for Manifest.find? by Mine.same_find
name_quick tw6654550962395885724 for Manifest.find? by Mine.same_find
name_quick tw10029231156530900338 for Manifest.find? by Mine.same_find
name_quick tw13145125596335152023 for Manifest.find? by Mine.same_find
name_quick tw11420187438672877268 for Manifest.find? by Mine.same_find
name_quick tw16049961110935095269 for Manifest.find? by Mine.same_find
name_quick tw17111948838632640456 for Manifest.find? by Mine.same_find
name_quick tw4527066259768149269 for Manifest.find? by Mine.same_find
name_quick tw4980102563643897964 for Manifest.find? by Mine.same_find
name_quick tw11270796479367742343 for Manifest.find? by Mine.same_find
name_quick tw8727135674562949291 for Manifest.find? by Mine.same_find
name_quick tw8693227569615203950 for Manifest.find? by Mine.same_find
name_quick tw17497748084772794779 for Manifest.find? by Mine.same_find
name_quick tw8860024209350480642 for Manifest.find? by Mine.same_find
name_quick tw3577408171920636059 for Manifest.find? by Mine.same_find
name_quick tw14433975572909055671 for Manifest.find? by Mine.same_find
name_quick tw4302124980754421698 for Manifest.find? by Mine.same_find
name_quick tw17100903815162463580 for Manifest.find? by Mine.same_find
name_quick tw5189142188285759775 for Manifest.find? by Mine.same_find
name_quick tw3766158894648301139 for Manifest.find? by Mine.same_find
name_quick tw6929956602132211858 for Manifest.find? by Mine.same_find
name_quick tw13981391230805400906 for Manifest.find? by Mine.same_find
name_quick tw11729385059970357855 for Manifest.find? by Mine.same_find
name_quick tw9948023125614773506 for Manifest.find? by Mine.same_find
name_quick tw15112985482279097393 for Manifest.find? by Mine.same_find
name_quick tw13900631225919944168 for Manifest.find? by Mine.same_find
name_quick tw5200128776193632040 for Manifest.find? by Mine.same_find
name_quick tw2039238271031011813 for Manifest.find? by Mine.same_find
name_quick tw8424611434330503625 for Manifest.find? by Mine.same_find
name_quick tw11333186260410459676 for Manifest.find? by Mine.same_find
name_quick tw11445135464325071761 for Manifest.find? by Mine.same_find
name_quick tw18056578402003937789 for Manifest.find? by Mine.same_find
name_quick tw3891137856419664920 for Manifest.find? by Mine.same_find
name_quick tw4797165386629745026 for Manifest.find? by Mine.same_find
name_quick tw6589095468515690095 for Manifest.find? by Mine.same_find
name_quick tw10010936943081839664 for Manifest.find? by Mine.same_find
name_quick tw2408619945344806742 for Manifest.find? by Mine.same_find
name_quick tw3972328310683599613 for Manifest.find? by Mine.same_find
name_quick tw682011567655089306 for Manifest.find? by Mine.same_find
name_quick tw14821650378409806113 for Manifest.find? by Mine.same_find
name_quick tw900395245841561262 for Manifest.find? by Mine.same_find
name_quick tw4558998842232669794 for Manifest.find? by Mine.same_find
name_quick tw12635297910168745909 for Manifest.find? by Mine.same_find
name_quick tw7392212959928792091 for Manifest.find? by Mine.same_find
name_quick tw6792406925840432001 for Manifest.find? by Mine.same_find
name_quick tw1092655722715705105 for Manifest.find? by Mine.same_find
name_quick tw8206430501311747189 for Manifest.find? by Mine.same_find
name_quick tw1333364371103165705 for Manifest.find? by Mine.same_find
name_quick tw3362959441861295915 for Manifest.find? by Mine.same_find
name_quick tw7232422423428716515 for Manifest.find? by Mine.same_find
name_quick tw11277716924127702174 for Manifest.find? by Mine.same_find
name_quick tw3131671291697673992 for Manifest.find? by Mine.same_find
name_quick tw1414301608579184545 for Manifest.find? by Mine.same_find
name_quick tw17476080006546285661 for Manifest.find? by Mine.same_find
name_quick tw2283851925072248500 for Manifest.find? by Mine.same_find
name_quick tw5978237884098788730 for Manifest.find? by Mine.same_find
name_quick tw16741492637210864865 for Manifest.find? by Mine.same_find
name_quick tw12945451867199242903 for Manifest.find? by Mine.same_find
name_quick tw6245536207120538393 for Manifest.find? by Mine.same_find
name_quick tw16916688483869632129 for Manifest.find? by Mine.same_find
name_quick tw5529568453561195837 for Manifest.find? by Mine.same_find
name_quick tw10887116778572429059 for Manifest.find? by Mine.same_find
name_quick tw13180171748994924942 for Manifest.find? by Mine.same_find
name_quick tw6004533443673955352 for Manifest.find? by Mine.same_find
name_quick tw14311459727803291754 for Manifest.find? by Mine.same_find
name_quick tw3560238982266916124 for Manifest.find? by Mine.same_find
name_quick tw8603108125212654177 for Manifest.find? by Mine.same_find
name_quick tw1402947280878808549 for Manifest.find? by Mine.same_find
name_quick tw10424941004445345732 for Manifest.find? by Mine.same_find
name_quick tw2664551874359636763 for Manifest.find? by Mine.same_find
name_quick tw17532718790514356516 for Manifest.find? by Mine.same_find
name_quick tw10833955939284561965 for Manifest.find? by Mine.same_find
name_quick tw17672482021469178181 for Manifest.find? by Mine.same_find
name_quick tw6122645084068987007 for Manifest.find? by Mine.same_find
name_quick tw12233582284571471492 for Manifest.find? by Mine.same_find
name_quick tw2670528217467546775 for Manifest.find? by Mine.same_find
name_quick tw10948738476641704880 for Manifest.find? by Mine.same_find
name_quick tw8579058602437062094 for Manifest.find? by Mine.same_find
name_quick tw17000155066101142889 for Manifest.find? by Mine.same_find
name_quick tw11588390666370768167 for Manifest.find? by Mine.same_find
name_quick tw10942035263794033107 for Manifest.find? by Mine.same_find
name_quick tw13236226663087606529 for Manifest.find? by Mine.same_find
name_quick tw1258299570235058372 for Manifest.find? by Mine.same_find
name_quick tw17988542015724977305 for Manifest.find? by Mine.same_find
name_quick tw10227693086864044499 for Manifest.find? by Mine.same_find
name_quick tw8537084889766193716 for Manifest.find? by Mine.same_find
name_quick tw10938465397075749097 for Manifest.find? by Mine.same_find
name_quick tw2719445374943340272 for Manifest.find? by Mine.same_find
name_quick tw13335737130258781183 for Manifest.find? by Mine.same_find
name_quick tw9759809726879904816 for Manifest.find? by Mine.same_find
name_quick tw16481903440285949192 for Manifest.find? by Mine.same_find
name_quick tw14537914154153760125 for Manifest.find? by Mine.same_find
name_quick tw1355338860687761863 for Manifest.find? by Mine.same_find
name_quick tw951843321253372498 for Manifest.find? by Mine.same_find
name_quick tw7275051467321613617 for Manifest.find? by Mine.same_find
name_quick tw13607416678640721797 for Manifest.find? by Mine.same_find
name_quick tw5706481520468235054 for Manifest.find? by Mine.same_find
name_quick tw18260038339965228139 for Manifest.find? by Mine.same_find
name_quick tw13559156169165276386 for Manifest.find? by Mine.same_find
name_quick tw17018628822417861297 for Manifest.find? by Mine.same_find
name_quick tw13215998728584607739 for Manifest.find? by Mine.same_find
name_quick tw5770868932273138760 for Manifest.find? by Mine.same_find
name_quick tw7250012664060256230 for Manifest.find? by Mine.same_find
name_quick tw5349121933718820234 for Manifest.find? by Mine.same_find
name_quick tw3105397867545767578 for Manifest.find? by Mine.same_find
name_quick tw17069979004554194336 for Manifest.find? by Mine.same_find
name_quick tw5111356299099525756 for Manifest.find? by Mine.same_find
name_quick tw6448080314894763839 for Manifest.find? by Mine.same_find
name_quick tw1829445100760108279 for Manifest.find? by Mine.same_find
name_quick tw3778451253796500701 for Manifest.find? by Mine.same_find
name_quick tw16350708796919097252 for Manifest.find? by Mine.same_find
name_quick tw1962928258387122110 for Manifest.find? by Mine.same_find
name_quick tw4636218855388986860 for Manifest.find? by Mine.same_find
name_quick tw15480198773659482676 for Manifest.find? by Mine.same_find
name_quick tw13016732220969518872 for Manifest.find? by Mine.same_find
name_quick tw7892128664451923741 for Manifest.find? by Mine.same_find
name_quick tw18345786424863182364 for Manifest.find? by Mine.same_find
name_quick tw14223099787259518943 for Manifest.find? by Mine.same_find
name_quick tw18220123701641295943 for Manifest.find? by Mine.same_find
name_quick tw13512673800721320934 for Manifest.find? by Mine.same_find
name_quick tw704327219915372674 for Manifest.find? by Mine.same_find
name_quick tw16593013826814733010 for Manifest.find? by Mine.same_find
name_quick tw2862820112641550484 for Manifest.find? by Mine.same_find
name_quick tw7269565832213808900 for Manifest.find? by Mine.same_find
name_quick tw4552823106982906706 for Manifest.find? by Mine.same_find
name_quick tw11186114360453789277 for Manifest.find? by Mine.same_find
name_quick tw15490439104401381959 for Manifest.find? by Mine.same_find
name_quick tw17888162413812561239 for Manifest.find? by Mine.same_find
name_quick tw4679858250743294509 for Manifest.find? by Mine.same_find
name_quick tw12290603225136948437 for Manifest.find? by Mine.same_find
name_quick tw18350330562280901221 for Manifest.find? by Mine.same_find
name_quick tw9908251947323293946 for Manifest.find? by Mine.same_find
name_quick tw9136488742655976645 for Manifest.find? by Mine.same_find
name_quick tw17532440430192770315 for Manifest.find? by Mine.same_find
name_quick tw505943868828395459 for Manifest.find? by Mine.same_find
name_quick tw9315938663221665524 for Manifest.find? by Mine.same_find
name_quick tw1537898542681612871 for Manifest.find? by Mine.same_find
name_quick tw2478078296215019888 for Manifest.find? by Mine.same_find
name_quick tw14108194823987119177 for Manifest.find? by Mine.same_find
name_quick tw9011979029575296479 for Manifest.find? by Mine.same_find
name_quick tw1218959903707654005 for Manifest.find? by Mine.same_find
name_quick tw10205541121877940668 for Manifest.find? by Mine.same_find
name_quick tw9285146279643344392 for Manifest.find? by Mine.same_find
name_quick tw11130039905162102590 for Manifest.find? by Mine.same_find
name_quick tw470574548607681690 for Manifest.find? by Mine.same_find
name_quick tw3976722010076183465 for Manifest.find? by Mine.same_find
name_quick tw151948405760981731 for Manifest.find? by Mine.same_find
name_quick tw1620339239838986703 for Manifest.find? by Mine.same_find
name_quick tw15007238320947547705 for Manifest.find? by Mine.same_find
name_quick tw16846860572762119324 for Manifest.find? by Mine.same_find
name_quick tw9501820088010722379 for Manifest.find? by Mine.same_find
name_quick tw1291980286583624508 for Manifest.find? by Mine.same_find
name_quick tw8376441433122354887 for Manifest.find? by Mine.same_find
name_quick tw9763268239775435451 for Manifest.find? by Mine.same_find
name_quick tw1258717718454355964 for Manifest.find? by Mine.same_find
name_quick tw4292500188555128830 for Manifest.find? by Mine.same_find
name_quick tw16531745337717519161 for Manifest.find? by Mine.same_find
name_quick tw932993149863042379 for Manifest.find? by Mine.same_find
name_quick tw8595292554425487202 for Manifest.find? by Mine.same_find
name_quick tw13678640442995254988 for Manifest.find? by Mine.same_find
name_quick tw17975652961387846372 for Manifest.find? by Mine.same_find
name_quick tw1702518465993881591 for Manifest.find? by Mine.same_find
name_quick tw4549333791460862111 for Manifest.find? by Mine.same_find
name_quick tw14834023430324568649 for Manifest.find? by Mine.same_find
name_quick tw9564595351457756722 for Manifest.find? by Mine.same_find
name_quick tw387338674003428930 for Manifest.find? by Mine.same_find
name_quick tw17954471519018878134 for Manifest.find? by Mine.same_find
name_quick tw16145008321745377990 for Manifest.find? by Mine.same_find
name_quick tw17730448691065144110 for Manifest.find? by Mine.same_find
name_quick tw18211773271919218964 for Manifest.find? by Mine.same_find
name_quick tw15066959818950650227 for Manifest.find? by Mine.same_find
name_quick tw662354867322794072 for Manifest.find? by Mine.same_find
name_quick tw4090926877573551719 for Manifest.find? by Mine.same_find
name_quick tw4775785305629353868 for Manifest.find? by Mine.same_find
name_quick tw15263041282635125899 for Manifest.find? by Mine.same_find
name_quick tw5902227825499142635 for Manifest.find? by Mine.same_find
name_quick tw3764465048917985505 for Manifest.find? by Mine.same_find
name_quick tw17279654841073493023 for Manifest.find? by Mine.same_find
name_quick tw11566699232636054958 for Manifest.find? by Mine.same_find
name_quick tw16018607276475445134 for Manifest.find? by Mine.same_find
namespace Mine
set_option maxRecDepth 100000 in
set_option maxHeartbeats 8000000 in
open_top hd for PySem.Challenge.rw_on0013_01
end Mine
open PySem.Calls
set_option maxRecDepth 100000
set_option rowWalk.seconds 0
namespace Mine
/-- an opaque post: what it holds is kept apart -/
def Pop {α : Type} (Q Q' : α → Shared → Prop) : Prop := ∀ f s', Q f s' → Q' f s'
theorem pop_ {α : Type} {Q Q' : α → Shared → Prop} {f : α} {s' : Shared} (h : Pop Q Q') (g : Q f s') : Q' f s' := h f s' g
theorem consO {M : Model} {A : Around} {E : Value → Shared → Prop} {s : Shared} {st : Stmt} {rest : List Stmt} {env : Env} {Q : Flow → Shared → Prop}
    (h : ∀ Q' : Flow → Shared → Prop, Pop (fun f s' => match f with | .next => wpAny M A (execs rest env) Q E s' | f => Q f s') Q' → wpAny M A (exec st env) Q' E s) : wpAny M A (execs (st :: rest) env) Q E s :=
  wpAny_execs_cons (h _ fun _ _ h => h)
theorem lastO {M : Model} {A : Around} {E : Value → Shared → Prop} {s : Shared} {st : Stmt} {env : Env} {Q : Flow → Shared → Prop}
    (h : wpAny M A (exec st env) Q E s) : wpAny M A (execs [st] env) Q E s :=
  wpAny_execs_cons (wpAny_mono h (fun f s' h => by cases f <;> first | exact wpAny_execs_nil h | exact h) fun _ _ e => e)
theorem opQ {α : Type} {M : Model} {A : Around} {E : Value → Shared → Prop} {s : Shared} {x : Sem α} {Q : α → Shared → Prop}
    (h : ∀ Q' : α → Shared → Prop, Pop Q Q' → wpAny M A x Q' E s) : wpAny M A x Q E s := h Q fun _ _ h => h
theorem opQE {α : Type} {M : Model} {A : Around} {env : Env} {E : Value → Shared → Prop} {s : Shared} {x : Sem α} {Q : α → Shared → Prop} (p : PassesOwn M A env E)
    (h : ∀ (Q' : α → Shared → Prop) (E' : Value → Shared → Prop), Pop Q Q' → Pop E E' → PassesOwn M A env E' → wpAny M A x Q' E' s) : wpAny M A x Q E s := h Q E (fun _ _ h => h) (fun _ _ h => h) p
theorem opT {α : Type} {M : Model} {A : Around} {E : Value → Shared → Prop} {s : Shared} {x : Sem Unit} {y : Sem α} {Q : α → Shared → Prop}
    (h : ∀ Q' : α → Shared → Prop, Pop Q Q' → wpAny M A x (fun _ s₂ => wpAny M A y Q' E s₂) E s) : wpAny M A x (fun _ s₂ => wpAny M A y Q E s₂) E s := h Q fun _ _ h => h
theorem segO {M : Model} {A : Around} {E : Value → Shared → Prop} {s : Shared} {st : Stmt} {rest : List Stmt} {env : Env} {Q : Flow → Shared → Prop} (P : Shared → Prop)
    (h1 : ∀ Q' : Flow → Shared → Prop, Pop (fun f s' => match f with | .next => P s' | f => Q f s') Q' → wpAny M A (exec st env) Q' E s) (h2 : ∀ s', P s' → wpAny M A (execs rest env) Q E s') : wpAny M A (execs (st :: rest) env) Q E s :=
  wpAny_execs_cons (wpAny_mono (h1 _ fun _ _ h => h) (fun f s' h => by cases f <;> first | exact h2 _ h | exact h) fun _ _ e => e)
/-- a state's account, by what follows from it -/
inductive HeldC (F : Prop → Prop) : Prop
  | mk (h : ∀ G : Prop, F G → G)
theorem heldC_ {F : Prop → Prop} {G : Prop} (h : HeldC F) (k : F G) : G := by cases h with | mk h => exact h G k
inductive Stop (P : Prop) : Prop
  | mk (h : P)
theorem Stop.out {P : Prop} (h : Stop P) : P := by cases h; assumption
theorem seg0 {M : Model} {A : Around} {E : Value → Shared → Prop} {s : Shared} {st : Stmt} {rest : List Stmt} {env : Env} {Q : Flow → Shared → Prop}
    (h : wpAny M A (exec st env) (fun f s' => match f with | .next => Stop (wpAny M A (execs rest env) Q E s') | f => Q f s') E s) : wpAny M A (execs (st :: rest) env) Q E s :=
  wpAny_execs_cons (wpAny_mono h (fun f s' h => by cases f <;> first | exact h.out | exact h) fun _ _ e => e)
section
variable {M : Model} {A : Around} {env : Env} {E : Value → Shared → Prop} {hp : Heap} {gn : Array GenState} {dr : Drawn} {tk : Nat} {os : OsState} {pos : Pos} {Q : Value → Shared → Prop} {prog : Program} {w : World} {a b : Int} {t u : Tok}
theorem kstr {x : PySem.Str} {k : Nat} (h : Q (.str x tk) ⟨hp, gn, dr, tk + 1, os⟩) : wpAny M A (eval (.Constant (.str x) k pos) env) Q E ⟨hp, gn, dr, tk, os⟩ := Calls.Constant_str h
theorem kint {k : Nat} (h : Q (.int a tk) ⟨hp, gn, dr, tk + 1, os⟩) : wpAny M A (eval (.Constant (.int a) k pos) env) Q E ⟨hp, gn, dr, tk, os⟩ := wpAny_Constant_int h
theorem kbyt {x : List UInt8} {k : Nat} (h : Q (.bytes x.toArray tk) ⟨hp, gn, dr, tk + 1, os⟩) : wpAny M A (eval (.Constant (.bytes x) k pos) env) Q E ⟨hp, gn, dr, tk, os⟩ := PySem.W.Constant_bytes h
theorem kadd (h : Q (.int (a + b) tk) ⟨hp, gn, dr, tk + 1, os⟩) : wpAny (model prog w) A (binaryOp .Add (.int a t) (.int b u)) Q E ⟨hp, gn, dr, tk, os⟩ := PyProof.Rows.add_int h
theorem ksub (h : Q (.int (a - b) tk) ⟨hp, gn, dr, tk + 1, os⟩) : wpAny (model prog w) A (binaryOp .Sub (.int a t) (.int b u)) Q E ⟨hp, gn, dr, tk, os⟩ := PyProof.Rows.sub_int h
theorem kneg (h : Q (.int (-a) tk) ⟨hp, gn, dr, tk + 1, os⟩) : wpAny (model prog w) A (unaryOp .USub (.int a t)) Q E ⟨hp, gn, dr, tk, os⟩ := PyProof.Rows.neg_int h
theorem kwith {K : Frag} {f : Value} {h₀ : Heap} {e : PySem.Expr} {rest : List PySem.Expr} (X : K.In h₀) (hk : keepIn K f = true) (h : wpAny M A (spliced (backTo pos (starEach (e :: rest) env))) (fun vs s₁ => K.In s₁.heap ∧ wpAny M A (call f vs) Q E s₁) E ⟨hp, gn, dr, tk, os⟩)
    (he : starEach (e :: rest) env = (false, eval e env) :: starEach rest env := by rfl) (hplain : (backTo pos (starEach rest env)).any (·.1) = false := by rfl) :
    wpAny M A (callWith pos f [] (backTo pos (starEach (e :: rest) env)) []) Q E ⟨hp, gn, dr, tk, os⟩ := callWith_K X hk h he hplain
end
section
variable {M : Model} {A : Around} {E : Value → Shared → Prop} {hp h₀ : Heap} {gn : Array GenState} {dr : Drawn} {tk : Nat} {os : OsState} {L : Addr} {m : PySem.Str → Option Value} {news : List (Addr × Obj)} {x cn : PySem.Str} {cs : Scope} {a : Addr} {ccd v : Value} {cl : List (PySem.Str × Addr)}
theorem kstL {Q : Unit → Shared → Prop} (F : Fr h₀ L hp m) (N : News h₀ L hp news)
    (h : ∀ h', Fr h₀ L h' (fun y => if y = x then some v else m y) → News h₀ L h' news → Q () ⟨h', gn, dr, tk + 1, os⟩)
    (hk : cs.kind = .function := by rfl) (hx : (envX cn cs L a ccd cl).kindOf x = some .local := by rfl) : wpAny M A (storeName (envX cn cs L a ccd cl) x v) Q E ⟨hp, gn, dr, tk, os⟩ := storeX_L F N h hk hx
theorem kstC {Q : Unit → Shared → Prop} {c : Addr} {o : Obj} {g : Obj → List (Addr × Obj)} {v₀ : Option Value} (F : Fr h₀ L hp m) (N : News h₀ L hp news) (hc : cl.lookup x = some c) (U : UpdF c o news g) (hd : o.data = .cell v₀)
    (h : ∀ h' o', Fr h₀ L h' m → News h₀ L h' (g o') → o'.data = .cell (some v) → Q () ⟨h', gn, dr, tk, os⟩)
    (hk : cs.kind = .function := by rfl) (hx : (envX cn cs L a ccd cl).kindOf x = some .cell := by rfl) : wpAny M A (storeName (envX cn cs L a ccd cl) x v) Q E ⟨hp, gn, dr, tk, os⟩ := storeX_C F N hc U hd h hk hx
theorem kltK {vs : List Value} {Q : Value → Shared → Prop} (F : Fr h₀ L hp m) (N : News h₀ L hp news)
    (h : ∀ l h', Fr h₀ L h' m → News h₀ L h' ((l, listOf vs.toArray 0) :: news) → (∀ p ∈ news, p.1 < l) → Q (.ref l) ⟨h', gn, dr, tk, os⟩) (hz : vs.length ≤ sizeLine) : wpAny M A (newList vs) Q E ⟨hp, gn, dr, tk, os⟩ := newList_K F N h hz
theorem ktuK {vs : List Value} {Q : Value → Shared → Prop} (F : Fr h₀ L hp m) (N : News h₀ L hp news)
    (h : ∀ D h', Fr h₀ L h' m → News h₀ L h' ((D, ({ cls := .type "tuple", data := .seq vs.toArray } : Obj)) :: news) → (∀ p ∈ news, p.1 < D) → Q (.ref D) ⟨h', gn, dr, tk, os⟩) (hz : vs.length ≤ sizeLine) : wpAny M A (newTuple vs) Q E ⟨hp, gn, dr, tk, os⟩ := kup_newTuple F N h hz
end
theorem popN {P : Shared → Prop} {Q Q' : Flow → Shared → Prop} {s' : Shared} (h : Pop (fun f s' => match f with | .next => P s' | f => Q f s') Q') (g : P s') : Q' .next s' := h _ _ g
theorem popR {P : Shared → Prop} {Q Q' : Flow → Shared → Prop} {v : Value} {s' : Shared} (h : Pop (fun f s' => match f with | .next => P s' | f => Q f s') Q') (g : Q (.ret v) s') : Q' (.ret v) s' := h _ _ g
abbrev Binds1 (s : Shared) (fd : FuncData) (x : PySem.Str) (v : Value) : Prop := BindsTo s fd ⟨[v], []⟩ [(x, v)]
abbrev Binds2 (s : Shared) (fd : FuncData) (x y : PySem.Str) (v u : Value) : Prop := BindsTo s fd ⟨[v, u], []⟩ [(x, v), (y, u)]
abbrev Binds3 (s : Shared) (fd : FuncData) (x y z : PySem.Str) (v u t : Value) : Prop := BindsTo s fd ⟨[v, u, t], []⟩ [(x, v), (y, u), (z, t)]
abbrev Binds4 (s : Shared) (fd : FuncData) (x y z r : PySem.Str) (v u t q : Value) : Prop := BindsTo s fd ⟨[v, u, t, q], []⟩ [(x, v), (y, u), (z, t), (r, q)]
theorem rl0 {d b K N : Nat} (h : d + K < N) (e : b ≤ K) : d + b < N := Nat.lt_of_le_of_lt (Nat.add_le_add_left e d) h
theorem rl1 {d a b K N : Nat} (h : d + K < N) (e : a + b ≤ K) : d + a + b < N := by rw [Nat.add_assoc]; exact rl0 h e
theorem rl2 {d a b c K N : Nat} (h : d + K < N) (e : a + b + c ≤ K) : d + a + b + c < N := by rw [Nat.add_assoc, Nat.add_assoc, ← Nat.add_assoc a b c]; exact rl0 h e
theorem rlz {d K N : Nat} (h : d + K < N) : d < N := Nat.lt_of_le_of_lt (Nat.le_add_right d K) h
theorem lt_tr {a X I : Nat} (h2 : X < I) (h1 : a < X) : a < I := Nat.lt_trans h1 h2
theorem cj0 {g r : Prop} (h : g ∧ r) : g := h.1
theorem cj1 {a0 g r : Prop} (h : a0 ∧ g ∧ r) : g := h.2.1
theorem cj2 {a0 a1 g r : Prop} (h : a0 ∧ a1 ∧ g ∧ r) : g := h.2.2.1
theorem cj3 {a0 a1 a2 g r : Prop} (h : a0 ∧ a1 ∧ a2 ∧ g ∧ r) : g := h.2.2.2.1
theorem cj4 {a0 a1 a2 a3 g r : Prop} (h : a0 ∧ a1 ∧ a2 ∧ a3 ∧ g ∧ r) : g := h.2.2.2.2.1
theorem cj5 {a0 a1 a2 a3 a4 g r : Prop} (h : a0 ∧ a1 ∧ a2 ∧ a3 ∧ a4 ∧ g ∧ r) : g := h.2.2.2.2.2.1
theorem cj6 {a0 a1 a2 a3 a4 a5 g r : Prop} (h : a0 ∧ a1 ∧ a2 ∧ a3 ∧ a4 ∧ a5 ∧ g ∧ r) : g := h.2.2.2.2.2.2.1
theorem cj7 {a0 a1 a2 a3 a4 a5 a6 g r : Prop} (h : a0 ∧ a1 ∧ a2 ∧ a3 ∧ a4 ∧ a5 ∧ a6 ∧ g ∧ r) : g := h.2.2.2.2.2.2.2.1
theorem cj8 {a0 a1 a2 a3 a4 a5 a6 a7 g r : Prop} (h : a0 ∧ a1 ∧ a2 ∧ a3 ∧ a4 ∧ a5 ∧ a6 ∧ a7 ∧ g ∧ r) : g := h.2.2.2.2.2.2.2.2.1
theorem cj9 {a0 a1 a2 a3 a4 a5 a6 a7 a8 g r : Prop} (h : a0 ∧ a1 ∧ a2 ∧ a3 ∧ a4 ∧ a5 ∧ a6 ∧ a7 ∧ a8 ∧ g ∧ r) : g := h.2.2.2.2.2.2.2.2.2.1
theorem cj10 {a0 a1 a2 a3 a4 a5 a6 a7 a8 a9 g r : Prop} (h : a0 ∧ a1 ∧ a2 ∧ a3 ∧ a4 ∧ a5 ∧ a6 ∧ a7 ∧ a8 ∧ a9 ∧ g ∧ r) : g := h.2.2.2.2.2.2.2.2.2.2.1
theorem cj11 {a0 a1 a2 a3 a4 a5 a6 a7 a8 a9 a10 g r : Prop} (h : a0 ∧ a1 ∧ a2 ∧ a3 ∧ a4 ∧ a5 ∧ a6 ∧ a7 ∧ a8 ∧ a9 ∧ a10 ∧ g ∧ r) : g := h.2.2.2.2.2.2.2.2.2.2.2.1
theorem cj12 {a0 a1 a2 a3 a4 a5 a6 a7 a8 a9 a10 a11 g r : Prop} (h : a0 ∧ a1 ∧ a2 ∧ a3 ∧ a4 ∧ a5 ∧ a6 ∧ a7 ∧ a8 ∧ a9 ∧ a10 ∧ a11 ∧ g ∧ r) : g := h.2.2.2.2.2.2.2.2.2.2.2.2.1
theorem cj13 {a0 a1 a2 a3 a4 a5 a6 a7 a8 a9 a10 a11 a12 g r : Prop} (h : a0 ∧ a1 ∧ a2 ∧ a3 ∧ a4 ∧ a5 ∧ a6 ∧ a7 ∧ a8 ∧ a9 ∧ a10 ∧ a11 ∧ a12 ∧ g ∧ r) : g := h.2.2.2.2.2.2.2.2.2.2.2.2.2.1
theorem cj14 {a0 a1 a2 a3 a4 a5 a6 a7 a8 a9 a10 a11 a12 a13 g r : Prop} (h : a0 ∧ a1 ∧ a2 ∧ a3 ∧ a4 ∧ a5 ∧ a6 ∧ a7 ∧ a8 ∧ a9 ∧ a10 ∧ a11 ∧ a12 ∧ a13 ∧ g ∧ r) : g := h.2.2.2.2.2.2.2.2.2.2.2.2.2.2.1
theorem cj15 {a0 a1 a2 a3 a4 a5 a6 a7 a8 a9 a10 a11 a12 a13 a14 g r : Prop} (h : a0 ∧ a1 ∧ a2 ∧ a3 ∧ a4 ∧ a5 ∧ a6 ∧ a7 ∧ a8 ∧ a9 ∧ a10 ∧ a11 ∧ a12 ∧ a13 ∧ a14 ∧ g ∧ r) : g := h.2.2.2.2.2.2.2.2.2.2.2.2.2.2.2.1
local macro_rules | `(tactic| k_mem) => `(tactic| walk_at "mem9")
local macro_rules | `(tactic| k_all) => `(tactic| walk_at "all9")
local macro_rules | `(tactic| ktr_room) => `(tactic| walk_at "room9")
local macro_rules | `(tactic| ktr_units) => `(tactic| walk_at "room9")
local macro_rules | `(tactic| k_ne) => `(tactic| walk_at "ne9")
local macro_rules | `(tactic| k_steps) => `(tactic| walk_at "steps9")
local macro_rules | `(tactic| k_room) => `(tactic| ktr_room)
local macro_rules | `(tactic| passes_own) => `(tactic| assumption)
local macro_rules | `(tactic| walk_at $s:str) => `(tactic| k_extra $s)
-- group 0
section

-- EX
section
theorem start_EX : True := by
  w_top off
  k_with_none
  (k_with "eval Constant str" => refine kstr ?_)
  (k_with "eval Constant int" => refine kint ?_)
  (k_with "eval Constant bytes" => refine kbyt ?_)
  (k_with "binaryOp Add int int" => with_reducible refine kadd ?_)
  (k_with "binaryOp Sub int int" => with_reducible refine ksub ?_)
  (k_with "unaryOp USub int" => with_reducible refine kneg ?_)
  (k_with "storeName" => (k_here; k_dflt (refine kstL (by k_asm) (by k_asm) ?_ (rfl) (rfl); k_whole; intro h9 F9 N9; (try k_sweep))))
  (k_with "newTuple" => (k_here; k_dflt (refine ktuK (by k_asm) (by k_asm) ?_ (by kmk_size)); intro D7 h7 F7 N7 l7; (try k_lt l7); (try k_sweep)))
  (k_with "newList" => (k_here; k_dflt (refine kltK (by k_asm) (by k_asm) ?_ (by size_fits)); intro D7 h7 F7 N7 l7; (try k_lt l7); (try k_sweep)))
  (k_with "steps9" => repeat' (first | (k_unfold; (try dsimp only)) | (k_end; wrow_close) | (walk1 <;> (try dsimp only)) | (dsimp only; walk1) | (leave1; walk_say "STEP leave1"; try dsimp only) | (with_reducible refine popN (by assumption) ?_) | (with_reducible refine popR (by assumption) ?_) | ((refine pop_ (by assumption) ?_); (try dsimp only)) | fail "no step"))
  (k_with "all9" => focus ((repeat (first | exact List.forall_mem_nil _ | with_reducible assumption | (refine List.forall_mem_cons.mpr ⟨by k_ne, ?_⟩))); done))
  (k_with "room9" => first | exact rl1 (by with_reducible assumption) (Nat.le_of_ble_eq_true rfl) | exact rl0 (by with_reducible assumption) (Nat.le_of_ble_eq_true rfl) | exact rl2 (by with_reducible assumption) (Nat.le_of_ble_eq_true rfl) | exact rlz (by assumption))
  (k_with "ne9" => (refine neN ?_; (try dsimp only); first | (refine Nat.ne_of_lt ?_; focus ((repeat (first | with_reducible assumption | exact cj0 (by with_reducible assumption) | exact cj1 (by with_reducible assumption) | exact cj2 (by with_reducible assumption) | exact cj3 (by with_reducible assumption) | exact cj4 (by with_reducible assumption) | exact cj5 (by with_reducible assumption) | exact cj6 (by with_reducible assumption) | exact cj7 (by with_reducible assumption) | exact cj8 (by with_reducible assumption) | exact cj9 (by with_reducible assumption) | exact cj10 (by with_reducible assumption) | exact cj11 (by with_reducible assumption) | exact cj12 (by with_reducible assumption) | exact cj13 (by with_reducible assumption) | exact cj14 (by with_reducible assumption) | exact cj15 (by with_reducible assumption) | (refine lt_tr (by with_reducible assumption) ?_))); done)) | (refine Nat.ne_of_gt ?_; focus ((repeat (first | with_reducible assumption | exact cj0 (by with_reducible assumption) | exact cj1 (by with_reducible assumption) | exact cj2 (by with_reducible assumption) | exact cj3 (by with_reducible assumption) | exact cj4 (by with_reducible assumption) | exact cj5 (by with_reducible assumption) | exact cj6 (by with_reducible assumption) | exact cj7 (by with_reducible assumption) | exact cj8 (by with_reducible assumption) | exact cj9 (by with_reducible assumption) | exact cj10 (by with_reducible assumption) | exact cj11 (by with_reducible assumption) | exact cj12 (by with_reducible assumption) | exact cj13 (by with_reducible assumption) | exact cj14 (by with_reducible assumption) | exact cj15 (by with_reducible assumption) | (refine lt_tr (by with_reducible assumption) ?_))); done))))
  (k_with "mem9" => focus ((repeat (first | with_reducible assumption | exact List.Mem.head _ | refine List.mem_cons_of_mem _ ?_)); done))
  trivial

/-- an object of ConstFault, new: its args' tuple at t, no dict -/
abbrev excObj (t : Addr) : Obj := { cls := .ref 45, data := .fields #[.ref t, .none, .none, .none, .bool false, .none] }
section
variable {prog : Program} {w : World} {A : Around} {E : Value → Shared → Prop} {s : Shared} {K : Frag} {h₀ : Heap} {L : Addr} {m : PySem.Str → Option Value} {news : List (Addr × Obj)}

theorem getm_exc {pl : Sem Bool} {Q : Value × List Value → Shared → Prop} (X : K.In s.heap)
    (e : findCls K (.type "Exception") (.type "type") (PySem.Str.ofString "__init__") = some (.val (.builtin "Exception.__init__")))
    (h : Q (.builtin "Exception.__init__", []) { s with toks := s.toks + 1 }) :
    wpAny (model prog w) A (getMethod (.type "Exception") (PySem.Str.ofString "__init__") pl) Q E s := by
  have hstub : opaqueClassAbove (.type "Exception") = pure none := by unfold opaqueClassAbove; dsimp only; rw [show Manifest.isStub "Exception" = false by decide +kernel]; rfl
  have ht : typeOf (.type "Exception") = pure (.type "type") := by first | rfl | kernel_rfl
  have L0 : Looks (model prog w) s.heap (typeOf (.type "Exception")) (.type "type") := Looks.of_pure ht
  have hg : findIn K (.type "type") "__getattribute__" = some (some (.builtin "type.__getattribute__")) := type_tga
  unfold getMethod specialOf
  refine wpAny_bind (wpAny_bind (L0.here ((looks_findIn X hg).here ?_)))
  dsimp only
  rw [if_pos canon_tga]
  refine wpAny_bind (wpAny_mono (Q := fun v => Q (v, [])) (E := E) ?_ (fun _ _ z => wpAny_pure z) fun _ _ z => z)
  have LO : Looks (model prog w) s.heap (opaqueClassAbove (.type "Exception")) none := Looks.of_pure hstub
  refine cls_open X LO L0 hg (looks_hook X (r := none) (by rfl)) (by show subIn K _ _ = _; rfl) e ?_
  exact wpAny_pure (by show wpAny _ _ (handedOut _) _ _ _; rw [handedOut_of (by decide +kernel)]; exact wpAny_pure h)
end

theorem find_exc_init (P : Params) : findCls (Mine.hd.heap_39 P) (.type "Exception") (.type "type") (PySem.Str.ofString "__init__") = some (.val (.builtin "Exception.__init__")) := by kernel_rfl


/-- the class ConstFault as it lies in the heap -/
abbrev faultCls : Obj := excClassObj (PySem.Str.ofString "ConstFault") (PySem.Str.ofString "ConstFault") 45 44 [.ref 32] [.ref 32, .type "Exception", .type "BaseException", .type "object"] true [] [] false none none
  (some (.ref 36)) none (some (.str (PySem.Str.ofString "ConstFault") 221)) (some (.str (PySem.Str.ofString "ConstFault") 229)) (some (.bool true)) "Exception.__new__"
theorem lookup_45 (P : Params) : (Mine.hd.heap_39 P).lookup 45 = some faultCls := by kernel_rfl
theorem find_45_init (P : Params) : findIn (Mine.hd.heap_39 P) (.ref 45) "__init__" = some (some (.ref 29)) := by kernel_rfl

section
variable {prog : Program} {w : World} {A : Around} {E : Value → Shared → Prop} {h : Heap} {g : Array GenState} {d : Drawn} {t : Nat} {os : OsState}

theorem fault_check_new {rest : List Value} {Q : Unit → Shared → Prop} {M : Model} (hC : h.get? 45 = some faultCls) (hq : Q () ⟨h, g, d, t, os⟩) :
    wpAny M A (checkBuiltinCall "Exception.__new__" ⟨.ref 45 :: rest, []⟩) Q E ⟨h, g, d, t, os⟩ :=
  wpAny_check_new_subU PySem.F.excBase_Exception (bmB := [.ref 32, .type "Exception", .type "BaseException", .type "object"]) (by decide +kernel) .base hC hq

theorem fault_new {rest : List Value} {R : Result → Shared → Prop} (hC : h.get? 45 = some faultCls) (hrest : rest.length ≤ sizeLine)
    (hq : R (.ok (.ret (.ref (h.objs.size + 1)))) ⟨(h.push { cls := .type "tuple", data := .seq rest.toArray }).push (excObj h.objs.size), g, d, t, os⟩) :
    codeAny (model prog w) A (.builtin "Exception.__new__" ⟨.ref 45 :: rest, []⟩) R ⟨h, g, d, t, os⟩ := by
  have Fn := PySem.F.excBase_Exception
  have hends := Fn.ends
  have hcB : ([.ref 45, .ref 32, .type "Exception", .type "BaseException", .type "object"] : List Value).contains (.type "Exception") = true := by decide +kernel
  have hcA : ([.ref 45, .ref 32, .type "Exception", .type "BaseException", .type "object"] : List Value).contains (.type "AttributeError") = false := by decide +kernel
  have hcN : ([.ref 45, .ref 32, .type "Exception", .type "BaseException", .type "object"] : List Value).contains (.type "NameError") = false := by decide +kernel
  refine codeAny_builtinAt Fn.entry ?_
  unfold Builtin.«BaseException.__new__»
  refine PySem.wpAt_bind ?_
  show PySem.wpAt _ _ _ (stack >>= _) _ _ _
  refine PySem.wpAt_bind (PySem.wpAt_stack fun p below => PySem.wpAt_of_wpAny ?_)
  wp_walk
  refine PySem.wpAt_of_wpAny ?_
  rw [Fn.owner]
  repeat (first | with_reducible refine wpAny_madeHere_exc Fn.canon hC ?_ | with_reducible refine wpAny_loadPart_at hC ?_ | (with_reducible refine wpAny_isSubtype_exc hC ?_; first | rw [hcB] | rw [hcA] | rw [hcN]) | wp_step)
  show R _ _
  rw [Heap.size_push]
  exact hq

/-- type.__call__ at ConstFault: the new object is made; what __init__ (the def at 29) then does is asked -/
theorem fault_type_call {rest : List Value} {fd : FuncData} {oc : Value} {od : Option Addr} {sl : Array (Option Value)} {K : Frag} {Q : Fin → Shared → Prop} (X : K.In h) (hC : h.get? 45 = some faultCls)
    (hi : findIn K (.ref 45) "__init__" = some (some (.ref 29))) (hf : K.lookup 29 = some ⟨oc, od, .func fd, sl⟩) (hfc : oc = .type "function") (hrest : rest.length ≤ sizeLine)
    (hq : ∀ h', (h' = (h.push { cls := .type "tuple", data := .seq rest.toArray }).push (excObj h.objs.size)) →
      wpAny (model prog w) A (call (.ref 29) (.ref (h.objs.size + 1) :: rest)) (fun r s' => r = .none ∧ Q (.done (.ret (.ref (h.objs.size + 1)))) s') E ⟨h', g, d, t, os⟩) :
    wpAny (model prog w) A (Builtin.«type.__call__» ⟨.ref 45 :: rest, []⟩) Q E ⟨h, g, d, t, os⟩ := by
  have F := PySem.F.excBase_Exception
  repeat (first | with_reducible refine wpAny_loadPart_at hC ?_ | with_reducible refine wpAny_madeBy_exc hC ?_ | wp_step)
  refine codeAny_call_builtin_code (Code.quiet_builtin _ F.quiet) (fault_check_new hC ?_)
  refine fault_new hC hrest ?_
  show wpAny _ _ _ _ _ _
  have k : ∀ b o, h.get? b = some o → ((h.push { cls := .type "tuple", data := .seq rest.toArray }).push (excObj h.objs.size)).get? b = some o :=
    fun b o e => Heap.get?_push_of_some _ (Heap.get?_push_of_some _ e)
  have hC₁ := k _ _ hC
  have hf₁ := k _ _ (X _ _ hf)
  have X₁ := Frag.In.keeps X k
  have hget : ((h.push { cls := .type "tuple", data := .seq rest.toArray }).push (excObj h.objs.size)).get? (h.objs.size + 1) = some (excObj h.objs.size) := by heap_get
  have hcC : ([.ref 45, .ref 32, .type "Exception", .type "BaseException", .type "object"] : List Value).contains (.ref 45) = true := by decide +kernel
  unfold isInstance
  repeat (first | with_reducible refine wpAny_loadPart_at hget ?_ | (with_reducible refine wpAny_isSubtype_exc hC₁ ?_; rw [hcC]) | wp_step)
  show wpAny _ _ (typeLookup (.ref 45) _) _ _ _
  refine (looks_findIn X₁ hi).here ?_
  refine wpAny_holding (wpAny_bind ?_)
  unfold bindSpecial
  subst hfc
  refine wpAny_bind (PySem.wpAny_typeOf (T := "function") ⟨_, hf₁, rfl⟩ ?_)
  rw [if_pos (by decide)]
  refine wpAny_pure (wpAny_bind (wpAny_mono (hq _ rfl) (fun r s' hr => ?_) fun _ _ x => x))
  obtain ⟨rfl, hQ⟩ := hr
  wp_walk
  exact hQ

theorem fault_call {rest : List Value} {fd : FuncData} {oc : Value} {od : Option Addr} {sl : Array (Option Value)} {K : Frag} {Q : Value → Shared → Prop} (X : K.In h) (hC : h.get? 45 = some faultCls)
    (hi : findIn K (.ref 45) "__init__" = some (some (.ref 29))) (hf : K.lookup 29 = some ⟨oc, od, .func fd, sl⟩) (hfc : oc = .type "function") (hrest : rest.length ≤ sizeLine)
    (hq : ∀ h', (h' = (h.push { cls := .type "tuple", data := .seq rest.toArray }).push (excObj h.objs.size)) →
      wpAny (model prog w) (A.under (.builtin "type.__call__" ⟨.ref 45 :: rest, []⟩)) (call (.ref 29) (.ref (h.objs.size + 1) :: rest)) (fun r s' => r = .none ∧ Q (.ref (h.objs.size + 1)) s') E ⟨h', g, d, t, os⟩) :
    wpAny (model prog w) A (call (.ref 45) rest) Q E ⟨h, g, d, t, os⟩ := by
  have f1 := tc_lookup
  have f2 := tc_bind (.ref 45)
  have hT : (⟨h, g, d, t, os⟩ : Shared).TypeIs (.ref 45) "type" := ⟨_, hC, rfl⟩
  refine wpAny_call (codeAny_of_tree ?_)
  show wpAny _ _ (callAny (.ref 45) _) _ _ _
  repeat (any_goals (first | assumption | with_reducible refine wpAny_loadPart_at hC ?_ | wp_step))
  refine ⟨rfl, ?_⟩
  refine codeAny_call_builtin_at (Code.quiet_builtin _ (by decide +kernel)) entry_typeCall (wpAny_check_type_call_sub hC (fault_type_call X hC hi hf hfc hrest fun h' e => ?_))
  exact hq h' e
end
end

-- EX2
section
theorem start_EX2 : True := by
  w_top off
  k_with_none
  (k_with "eval Constant str" => refine kstr ?_)
  (k_with "eval Constant int" => refine kint ?_)
  (k_with "eval Constant bytes" => refine kbyt ?_)
  (k_with "binaryOp Add int int" => with_reducible refine kadd ?_)
  (k_with "binaryOp Sub int int" => with_reducible refine ksub ?_)
  (k_with "unaryOp USub int" => with_reducible refine kneg ?_)
  (k_with "storeName" => (k_here; k_dflt (refine kstL (by k_asm) (by k_asm) ?_ (rfl) (rfl); k_whole; intro h9 F9 N9; (try k_sweep))))
  (k_with "newTuple" => (k_here; k_dflt (refine ktuK (by k_asm) (by k_asm) ?_ (by kmk_size)); intro D7 h7 F7 N7 l7; (try k_lt l7); (try k_sweep)))
  (k_with "newList" => (k_here; k_dflt (refine kltK (by k_asm) (by k_asm) ?_ (by size_fits)); intro D7 h7 F7 N7 l7; (try k_lt l7); (try k_sweep)))
  (k_with "steps9" => repeat' (first | (k_unfold; (try dsimp only)) | (k_end; wrow_close) | (walk1 <;> (try dsimp only)) | (dsimp only; walk1) | (leave1; walk_say "STEP leave1"; try dsimp only) | (with_reducible refine popN (by assumption) ?_) | (with_reducible refine popR (by assumption) ?_) | ((refine pop_ (by assumption) ?_); (try dsimp only)) | fail "no step"))
  (k_with "all9" => focus ((repeat (first | exact List.forall_mem_nil _ | with_reducible assumption | (refine List.forall_mem_cons.mpr ⟨by k_ne, ?_⟩))); done))
  (k_with "room9" => first | exact rl1 (by with_reducible assumption) (Nat.le_of_ble_eq_true rfl) | exact rl0 (by with_reducible assumption) (Nat.le_of_ble_eq_true rfl) | exact rl2 (by with_reducible assumption) (Nat.le_of_ble_eq_true rfl) | exact rlz (by assumption))
  (k_with "ne9" => (refine neN ?_; (try dsimp only); first | (refine Nat.ne_of_lt ?_; focus ((repeat (first | with_reducible assumption | exact cj0 (by with_reducible assumption) | exact cj1 (by with_reducible assumption) | exact cj2 (by with_reducible assumption) | exact cj3 (by with_reducible assumption) | exact cj4 (by with_reducible assumption) | exact cj5 (by with_reducible assumption) | exact cj6 (by with_reducible assumption) | exact cj7 (by with_reducible assumption) | exact cj8 (by with_reducible assumption) | exact cj9 (by with_reducible assumption) | exact cj10 (by with_reducible assumption) | exact cj11 (by with_reducible assumption) | exact cj12 (by with_reducible assumption) | exact cj13 (by with_reducible assumption) | exact cj14 (by with_reducible assumption) | exact cj15 (by with_reducible assumption) | (refine lt_tr (by with_reducible assumption) ?_))); done)) | (refine Nat.ne_of_gt ?_; focus ((repeat (first | with_reducible assumption | exact cj0 (by with_reducible assumption) | exact cj1 (by with_reducible assumption) | exact cj2 (by with_reducible assumption) | exact cj3 (by with_reducible assumption) | exact cj4 (by with_reducible assumption) | exact cj5 (by with_reducible assumption) | exact cj6 (by with_reducible assumption) | exact cj7 (by with_reducible assumption) | exact cj8 (by with_reducible assumption) | exact cj9 (by with_reducible assumption) | exact cj10 (by with_reducible assumption) | exact cj11 (by with_reducible assumption) | exact cj12 (by with_reducible assumption) | exact cj13 (by with_reducible assumption) | exact cj14 (by with_reducible assumption) | exact cj15 (by with_reducible assumption) | (refine lt_tr (by with_reducible assumption) ?_))); done))))
  (k_with "mem9" => focus ((repeat (first | with_reducible assumption | exact List.Mem.head _ | refine List.mem_cons_of_mem _ ?_)); done))
  trivial

section
variable {prog : Program} {w : World} {A : Around} {E : Value → Shared → Prop} {h : Heap} {g : Array GenState} {d : Drawn} {t : Nat} {os : OsState}

theorem fault_check_init {M : Model} {e : Addr} {oe : Obj} {rest : List Value} {Q : Unit → Shared → Prop}
    (hC : h.get? 45 = some faultCls) (he : h.get? e = some oe) (hcls : oe.cls = .ref 45) (hq : Q () ⟨h, g, d, t, os⟩) :
    wpAny M A (checkBuiltinCall "Exception.__init__" ⟨.ref e :: rest, []⟩) Q E ⟨h, g, d, t, os⟩ := by
  have F := PySem.F.excBase_Exception
  have hcB : ([.ref 45, .ref 32, .type "Exception", .type "BaseException", .type "object"] : List Value).contains (.type "Exception") = true := by decide +kernel
  have hshort := F.noStar
  simp only [checkBuiltinCall, F.initKind, F.initSplit, F.initRow]
  repeat (first | (with_reducible refine wpAny_loadPart_at he ?_; rw [hcls]) | with_reducible refine wpAny_loadPart_at hC ?_ | (with_reducible refine wpAny_isSubtype_exc hC ?_; rw [hcB]) | wp_step)
  refine wpAny_onRaise ?_
  rw [show ∀ (a b : String) (n : Nat), Bind.check ⟨.positional, "*", "Exception", .self, [⟨"args", .varPos, false⟩]⟩ a b n (List.map (fun x => x.fst) ({ pos := Value.ref e :: rest } : Args).kw) = pure () from
    fun a b n => check_star_args _ _ _ _ _ _]
  exact wpAny_pure hq
end

section
variable {prog : Program} {w : World} {A : Around} {E : Value → Shared → Prop} {s : Shared} {K : Frag} {h₀ : Heap} {L : Addr} {m : PySem.Str → Option Value} {news : List (Addr × Obj)}

theorem exc_init_call {e tt : Addr} {v : Value} {Q : Value → Shared → Prop} (F : Fr h₀ L s.heap m) (N : News h₀ L s.heap ((e, excObj tt) :: news)) (hC : s.heap.get? 45 = some faultCls) (hne : ∀ p ∈ news, p.1 ≠ e)
    (hq : ∀ t' h', Fr h₀ L h' m → News h₀ L h' ((e, excObj t') :: news) → Q .none { s with heap := h' }) :
    wpAny (model prog w) A (call (.builtin "Exception.__init__") [.ref e, v]) Q E s := by
  have FE := PySem.F.excBase_Exception
  obtain ⟨h, g, d, t, os⟩ := s
  have he := (N _ (.head _)).1
  refine wpAny_call (codeAny_call_builtin FE.init.plain FE.initEntry (fault_check_init hC he rfl ?_))
  wp_walk
  have F1 := Fr.push F { cls := .type "tuple", data := .seq [v].toArray }
  have N1 := News.push F N { cls := .type "tuple", data := .seq [v].toArray }
  obtain ⟨F2, N2⟩ := news_upd (f := Obj.mapFields (·.setIfInBounds 0 (Value.ref h.objs.size))) (o' := excObj h.objs.size) (pre := [(h.objs.size, { cls := .type "tuple", data := .seq [v].toArray })]) F1 N1
    (fun p hp => by cases hp with | head => exact Nat.ne_of_gt (Heap.lt_size he) | tail _ q => cases q) hne rfl rfl
  exact hq _ _ F2 fun p hp => N2 p (List.mem_append_right _ hp)
end
end

-- EX3
section
theorem start_EX3 : True := by
  w_top off
  k_with_none
  (k_with "eval Constant str" => refine kstr ?_)
  (k_with "eval Constant int" => refine kint ?_)
  (k_with "eval Constant bytes" => refine kbyt ?_)
  (k_with "binaryOp Add int int" => with_reducible refine kadd ?_)
  (k_with "binaryOp Sub int int" => with_reducible refine ksub ?_)
  (k_with "unaryOp USub int" => with_reducible refine kneg ?_)
  (k_with "storeName" => (k_here; k_dflt (refine kstL (by k_asm) (by k_asm) ?_ (rfl) (rfl); k_whole; intro h9 F9 N9; (try k_sweep))))
  (k_with "newTuple" => (k_here; k_dflt (refine ktuK (by k_asm) (by k_asm) ?_ (by kmk_size)); intro D7 h7 F7 N7 l7; (try k_lt l7); (try k_sweep)))
  (k_with "newList" => (k_here; k_dflt (refine kltK (by k_asm) (by k_asm) ?_ (by size_fits)); intro D7 h7 F7 N7 l7; (try k_lt l7); (try k_sweep)))
  (k_with "steps9" => repeat' (first | (k_unfold; (try dsimp only)) | (k_end; wrow_close) | (walk1 <;> (try dsimp only)) | (dsimp only; walk1) | (leave1; walk_say "STEP leave1"; try dsimp only) | (with_reducible refine popN (by assumption) ?_) | (with_reducible refine popR (by assumption) ?_) | ((refine pop_ (by assumption) ?_); (try dsimp only)) | fail "no step"))
  (k_with "all9" => focus ((repeat (first | exact List.forall_mem_nil _ | with_reducible assumption | (refine List.forall_mem_cons.mpr ⟨by k_ne, ?_⟩))); done))
  (k_with "room9" => first | exact rl1 (by with_reducible assumption) (Nat.le_of_ble_eq_true rfl) | exact rl0 (by with_reducible assumption) (Nat.le_of_ble_eq_true rfl) | exact rl2 (by with_reducible assumption) (Nat.le_of_ble_eq_true rfl) | exact rlz (by assumption))
  (k_with "ne9" => (refine neN ?_; (try dsimp only); first | (refine Nat.ne_of_lt ?_; focus ((repeat (first | with_reducible assumption | exact cj0 (by with_reducible assumption) | exact cj1 (by with_reducible assumption) | exact cj2 (by with_reducible assumption) | exact cj3 (by with_reducible assumption) | exact cj4 (by with_reducible assumption) | exact cj5 (by with_reducible assumption) | exact cj6 (by with_reducible assumption) | exact cj7 (by with_reducible assumption) | exact cj8 (by with_reducible assumption) | exact cj9 (by with_reducible assumption) | exact cj10 (by with_reducible assumption) | exact cj11 (by with_reducible assumption) | exact cj12 (by with_reducible assumption) | exact cj13 (by with_reducible assumption) | exact cj14 (by with_reducible assumption) | exact cj15 (by with_reducible assumption) | (refine lt_tr (by with_reducible assumption) ?_))); done)) | (refine Nat.ne_of_gt ?_; focus ((repeat (first | with_reducible assumption | exact cj0 (by with_reducible assumption) | exact cj1 (by with_reducible assumption) | exact cj2 (by with_reducible assumption) | exact cj3 (by with_reducible assumption) | exact cj4 (by with_reducible assumption) | exact cj5 (by with_reducible assumption) | exact cj6 (by with_reducible assumption) | exact cj7 (by with_reducible assumption) | exact cj8 (by with_reducible assumption) | exact cj9 (by with_reducible assumption) | exact cj10 (by with_reducible assumption) | exact cj11 (by with_reducible assumption) | exact cj12 (by with_reducible assumption) | exact cj13 (by with_reducible assumption) | exact cj14 (by with_reducible assumption) | exact cj15 (by with_reducible assumption) | (refine lt_tr (by with_reducible assumption) ?_))); done))))
  (k_with "mem9" => focus ((repeat (first | with_reducible assumption | exact List.Mem.head _ | refine List.mem_cons_of_mem _ ?_)); done))
  trivial

theorem fault_passes (self : Value) : refuseLoop self "__setattr__" [.ref 45, .ref 32, .type "Exception", .type "BaseException", .type "object"] = pure () := by
  rw [refuseLoop_ref, refuseLoop_ref]
  kernel_rfl

section
variable {prog : Program} {w : World} {A : Around} {E : Value → Shared → Prop} {h : Heap} {g : Array GenState} {d : Drawn} {t : Nat} {os : OsState} {K : Frag} {x : Addr} {mA : PySem.Str → Option Value} {name : PySem.Str} {v : Value}

theorem fault_store_entry {tk : Tok} {Q : PySem.Fin → Shared → Prop} {ns : List PySem.Str} (X : K.In h) (hC : h.get? 45 = some faultCls) (hna : findIn K (.ref 45) name = some none) (I : h.Inst x 45 mA)
    (hq : ∀ h' tk', h'.Inst x 45 (fun y => if y = name then some v else mA y) →
      (∀ b o, b ≠ x → (∀ o₀ dx, h.get? x = some o₀ → o₀.dict = some dx → b ≠ dx) → h.get? b = some o → h'.get? b = some o) →
      (∀ o₀, h.get? x = some o₀ → ∃ o₁, h'.get? x = some o₁ ∧ o₁.cls = o₀.cls ∧ o₁.data = o₀.data ∧ o₁.slots = o₀.slots ∧ (∀ dx, o₀.dict = some dx → o₁.dict = some dx) ∧ (o₀.dict = none → o₁.dict = some h.objs.size)) → Q (.done (.ret .none)) ⟨h', g, d, tk', os⟩) (hw : Within mA ns) (hsz : ns.length ≤ sizeLine) :
    wpAny (model prog w) A (Builtin.«object.__setattr__» ⟨[.ref x, .str name tk, v], []⟩) Q E ⟨h, g, d, t, os⟩ := by
  obtain ⟨o, hx, hc, hnc, hd⟩ := I
  have hpass := fault_passes (.ref x)
  unfold Builtin.«object.__setattr__»
  repeat (first | rw [refuse_eq] | rw [hpass] | (with_reducible refine wpAny_loadPart_at hx ?_; rw [hc]) | with_reducible refine wpAny_mroOf_exc hC ?_ | (with_reducible refine (looks_findIn X hna).here ?_) | wp_step)
  rcases hd with ⟨hdn, hmA⟩ | ⟨dx, hdx, hne, hns⟩
  · have hxs : x ≠ h.objs.size := Nat.ne_of_lt (Heap.lt_size hx)
    have hx₁ : (h.push { cls := .type "dict", data := .dict #[] }).get? x = some o := Heap.get?_push_of_some _ hx
    have hfr := (Heap.get?_some_iff.mp hx).2
    rw [hdn, if_neg (by simp [typeHasDict])]
    split
    · rename_i z; cases z
    split
    · rename_i c z; exact absurd z (hnc c)
    refine wpAny_bind (wpAny_alloc ?_)
    refine wpAny_bind (wpAny_update hx₁ (wpAny_pure ?_))
    have hgd : ((h.push { cls := .type "dict", data := .dict #[] }).update x fun o => { cls := o.cls, dict := some h.objs.size, data := o.data, slots := o.slots }).get? h.objs.size = some { cls := .type "dict", data := .dict #[] } :=
      (Heap.get?_update_ne _ _ _ _ hxs.symm).trans (Heap.get?_push_at rfl rfl)
    have hgx : ((h.push { cls := .type "dict", data := .dict #[] }).update x fun o => { cls := o.cls, dict := some h.objs.size, data := o.data, slots := o.slots }).get? x = some { cls := o.cls, dict := some h.objs.size, data := o.data, slots := o.slots } :=
      Heap.get?_update_self _ hx₁ (by obtain ⟨oc, od, odt, osl⟩ := o; cases odt <;> first | rfl | exact hfr)
    show wpAny _ _ (Builtin.ObjectAttr.storeInDict h.objs.size (.str name tk) name v) _ _ _
    unfold Builtin.ObjectAttr.storeInDict Builtin.ObjectAttr.newKeyGuard
    refine wpAny_bind (wpAny_pure (wpAny_bind (wpAny_nsSet1 (Heap.Ns1.of_empty ⟨_, #[], _, hgd, rfl, fun e he => absurd he (by simp), fun _ => rfl⟩) fun h' hn' hs => ?_)))
    obtain ⟨oD, esD, epD, hoD, hdD, hcD⟩ := hn'.count (Within.cons name v Within.nil)
    refine wpAny_bind (wpAny_lookBehind hoD (by rw [hdD]; exact pastItsLine_dict (Nat.le_trans hcD (by rw [List.length_cons, List.length_nil, sizeLine_eq]; omega))) ?_)
    wp_walk
    have hx' := (hs.2 x hxs).trans hgx
    refine hq h' _ ⟨_, hx', hc, hnc, .inr ⟨h.objs.size, rfl, hxs.symm, ?_⟩⟩ (fun b ob hbx _ hb => ?_) fun o₀ h₀ => ?_
    · obtain ⟨o', es, ep, e1, e2, e3, eu, e4⟩ := hn'
      exact ⟨o', es, ep, e1, e2, e3, eu, fun y => by rw [e4 y]; by_cases hy : y = name <;> simp [hy, hmA]⟩
    · exact (hs.2 b (Nat.ne_of_lt (Heap.lt_size hb))).trans ((Heap.get?_update_ne _ _ _ _ hbx).trans (Heap.get?_push_of_some _ hb))
    · obtain rfl : o = o₀ := Option.some.inj (hx.symm.trans h₀)
      exact ⟨_, hx', rfl, rfl, rfl, (fun dx e => by rw [hdn] at e; cases e), fun _ => rfl⟩
  · rw [hdx]
    refine wpAny_pure ?_
    show wpAny _ _ (Builtin.ObjectAttr.storeInDict dx (.str name tk) name v) _ _ _
    unfold Builtin.ObjectAttr.storeInDict Builtin.ObjectAttr.newKeyGuard
    refine wpAny_bind (wpAny_pure (wpAny_bind (wpAny_nsSet1 hns fun h' hn' hs => ?_)))
    obtain ⟨oD, esD, epD, hoD, hdD, hcD⟩ := hn'.count (Within.cons name v hw)
    refine wpAny_bind (wpAny_lookBehind hoD (by rw [hdD]; exact pastItsLine_dict (Nat.le_trans hcD (by rw [List.length_cons]; omega))) ?_)
    wp_walk
    have hx' := (hs.2 x hne.symm).trans hx
    refine hq h' _ ⟨o, hx', hc, hnc, .inr ⟨dx, hdx, hne, hn'⟩⟩ (fun b ob _ hbd hb => (hs.2 b (hbd o dx hx hdx)).trans hb) fun o₀ h₀ => ⟨o₀, (hs.2 x hne.symm).trans h₀, rfl, rfl, rfl, (fun _ e => e), fun e => ?_⟩
    obtain rfl : o = o₀ := Option.some.inj (hx.symm.trans h₀)
    rw [hdx] at e; cases e

theorem fault_setattr {Q : Unit → Shared → Prop} {ns : List PySem.Str} (X : K.In h) (hC : h.get? 45 = some faultCls) (hsa : findIn K (.ref 45) "__setattr__" = some (some (.builtin "object.__setattr__")))
    (hna : findIn K (.ref 45) name = some none) (I : h.Inst x 45 mA)
    (hq : ∀ h' tk', h'.Inst x 45 (fun y => if y = name then some v else mA y) →
      (∀ b o, b ≠ x → (∀ o₀ dx, h.get? x = some o₀ → o₀.dict = some dx → b ≠ dx) → h.get? b = some o → h'.get? b = some o) →
      (∀ o₀, h.get? x = some o₀ → ∃ o₁, h'.get? x = some o₁ ∧ o₁.cls = o₀.cls ∧ o₁.data = o₀.data ∧ o₁.slots = o₀.slots ∧ (∀ dx, o₀.dict = some dx → o₁.dict = some dx) ∧ (o₀.dict = none → o₁.dict = some h.objs.size)) → Q () ⟨h', g, d, tk', os⟩) (hw : Within mA ns) (hsz : ns.length ≤ sizeLine) :
    wpAny (model prog w) A (setAttr (.ref x) name v) Q E ⟨h, g, d, t, os⟩ := by
  have SF := PySem.F.store_object
  obtain ⟨o, hx, hc, _⟩ := id I
  have f3 := SF.slot.bind (.ref x)
  have hcO : ([.ref 45, .ref 32, .type "Exception", .type "BaseException", .type "object"] : List Value).contains (.type "object") = true := by decide +kernel
  unfold setAttr callSpecial? specialOf
  repeat (any_goals (first | assumption | (with_reducible refine wpAny_loadPart_at hx ?_; rw [hc]) | (with_reducible refine (looks_findIn X hsa).here ?_) | wp_step))
  obtain ⟨oc, od, odt, osl⟩ := o
  dsimp only at hc
  subst hc
  have t1 : Looks (model prog w) h (typeOf (.ref x)) (.ref 45) := (Looks.ld hx).andThen .now
  have t2 : Looks (model prog w) h (isInstance (.ref x) (.type "object")) true := t1.andThen fun A Q E s k q => by
    obtain ⟨hp, g, d, t, os⟩ := s
    exact wpAny_isSubtype_exc (k _ _ hC) (by rw [hcO]; exact q)
  refine codeAny_call_builtin SF.slot.plain SF.entry (@check_slot (model prog w) _ _ ⟨h, g, d, t + 1, os⟩ "object.__setattr__" "object" "__setattr__" (.ref x) [.str name t, v] [] _ SF.kind SF.split t2 (SF.args _ _ _) ?_)
  exact fault_store_entry X hC hna I (fun h' tk' a b c => wpAny_pure (wpAny_pure (hq h' tk' a b c))) hw hsz
end

section
variable {prog : Program} {w : World} {A : Around} {E : Value → Shared → Prop} {s : Shared} {K : Frag} {h₀ : Heap} {L e : Addr} {m : PySem.Str → Option Value} {news : List (Addr × Obj)} {mA : PySem.Str → Option Value} {name : PySem.Str} {v : Value}

/-- what the ledger keeps of the exception under way: its object, its dict's names, the dict new and apart -/
structure ExcAt (h₀ : Heap) (L : Addr) (news : List (Addr × Obj)) (e : Addr) (t : Addr) (mA : PySem.Str → Option Value) (h : Heap) (oe : Obj) : Prop where
  cls : oe.cls = .ref 45
  data : oe.data = .fields #[.ref t, .none, .none, .none, .bool false, .none]
  inst : h.Inst e 45 mA
  apart : ∀ dx, oe.dict = some dx → (∀ p ∈ news, p.1 ≠ dx) ∧ h₀.get? dx = none ∧ dx ≠ L

theorem exc_set {Q : Unit → Shared → Prop} {ns : List PySem.Str} {t : Addr} {oe : Obj} (F : Fr h₀ L s.heap m) (N : News h₀ L s.heap ((e, oe) :: news)) (X : K.In h₀) (hC : h₀.get? 45 = some faultCls) (hne : ∀ p ∈ news, p.1 ≠ e)
    (hsa : findIn K (.ref 45) "__setattr__" = some (some (.builtin "object.__setattr__"))) (hna : findIn K (.ref 45) name = some none) (Y : ExcAt h₀ L news e t mA s.heap oe)
    (hq : ∀ h' tk' oe', Fr h₀ L h' m → News h₀ L h' ((e, oe') :: news) → ExcAt h₀ L news e t (fun y => if y = name then some v else mA y) h' oe' → Q () { s with heap := h', toks := tk' }) (hw : Within mA ns) (hsz : ns.length ≤ sizeLine) :
    wpAny (model prog w) A (setAttr (.ref e) name v) Q E s := by
  obtain ⟨h, g, d, tk, os⟩ := s
  have he := (N _ (.head _)).1
  refine fault_setattr (X.keeps F.keep) (F.keep _ _ hC) hsa hna Y.inst (fun h' tk' i1 i2 i3 => ?_) hw hsz
  obtain ⟨o₁, h1, hc1, hd1, hs1, hk1, hk2⟩ := i3 _ he
  have keep : ∀ b o, b ≠ e → (∀ dx, oe.dict = some dx → b ≠ dx) → h.get? b = some o → h'.get? b = some o := fun b o n1 n2 q => i2 b o n1 (fun o₀ dx q1 q2 => by
    rw [he] at q1; cases q1; exact n2 dx q2) q
  obtain ⟨oL, es, ep, hL, r⟩ := F.ns
  have F' : Fr h₀ L h' m := ⟨⟨oL, es, ep, keep _ _ (N _ (.head _)).2.1.symm (fun dx q z => (Y.apart dx q).2.2 z.symm) hL, r⟩, fun b o q => keep _ _ (fun z => by rw [z, (N _ (.head _)).2.2] at q; cases q)
    (fun dx q1 z => by rw [z, (Y.apart dx q1).2.1] at q; cases q) (F.keep b o q), F.above⟩
  have N' : News h₀ L h' ((e, o₁) :: news) := fun p hp => by
    rcases List.mem_cons.mp hp with rfl | hp
    · exact ⟨h1, (N _ (.head _)).2⟩
    · have n := N p (.tail _ hp)
      exact ⟨keep _ _ (hne p hp) (fun dx q => (Y.apart dx q).1 p hp) n.1, n.2⟩
  refine hq h' tk' o₁ F' N' ⟨hc1.trans Y.cls, hd1.trans Y.data, i1, fun dx q => ?_⟩
  cases hdd : oe.dict with
  | some dx' =>
    have := hk1 dx' hdd
    rw [q] at this
    cases this
    exact Y.apart dx hdd
  | none =>
    have := hk2 hdd
    rw [q] at this
    cases this
    refine ⟨fun p hp => Nat.ne_of_lt (Heap.lt_size (N p (.tail _ hp)).1), Heap.get?_none_of_le ?_, Nat.ne_of_gt (Heap.lt_size hL)⟩
    exact Nat.le_trans F.above (Nat.le_of_lt (Heap.lt_size hL))
end
end

-- EX4
section
theorem start_EX4 : True := by
  w_top off
  k_with_none
  (k_with "eval Constant str" => refine kstr ?_)
  (k_with "eval Constant int" => refine kint ?_)
  (k_with "eval Constant bytes" => refine kbyt ?_)
  (k_with "binaryOp Add int int" => with_reducible refine kadd ?_)
  (k_with "binaryOp Sub int int" => with_reducible refine ksub ?_)
  (k_with "unaryOp USub int" => with_reducible refine kneg ?_)
  (k_with "storeName" => (k_here; k_dflt (refine kstL (by k_asm) (by k_asm) ?_ (rfl) (rfl); k_whole; intro h9 F9 N9; (try k_sweep))))
  (k_with "newTuple" => (k_here; k_dflt (refine ktuK (by k_asm) (by k_asm) ?_ (by kmk_size)); intro D7 h7 F7 N7 l7; (try k_lt l7); (try k_sweep)))
  (k_with "newList" => (k_here; k_dflt (refine kltK (by k_asm) (by k_asm) ?_ (by size_fits)); intro D7 h7 F7 N7 l7; (try k_lt l7); (try k_sweep)))
  (k_with "steps9" => repeat' (first | (k_unfold; (try dsimp only)) | (k_end; wrow_close) | (walk1 <;> (try dsimp only)) | (dsimp only; walk1) | (leave1; walk_say "STEP leave1"; try dsimp only) | (with_reducible refine popN (by assumption) ?_) | (with_reducible refine popR (by assumption) ?_) | ((refine pop_ (by assumption) ?_); (try dsimp only)) | fail "no step"))
  (k_with "all9" => focus ((repeat (first | exact List.forall_mem_nil _ | with_reducible assumption | (refine List.forall_mem_cons.mpr ⟨by k_ne, ?_⟩))); done))
  (k_with "room9" => first | exact rl1 (by with_reducible assumption) (Nat.le_of_ble_eq_true rfl) | exact rl0 (by with_reducible assumption) (Nat.le_of_ble_eq_true rfl) | exact rl2 (by with_reducible assumption) (Nat.le_of_ble_eq_true rfl) | exact rlz (by assumption))
  (k_with "ne9" => (refine neN ?_; (try dsimp only); first | (refine Nat.ne_of_lt ?_; focus ((repeat (first | with_reducible assumption | exact cj0 (by with_reducible assumption) | exact cj1 (by with_reducible assumption) | exact cj2 (by with_reducible assumption) | exact cj3 (by with_reducible assumption) | exact cj4 (by with_reducible assumption) | exact cj5 (by with_reducible assumption) | exact cj6 (by with_reducible assumption) | exact cj7 (by with_reducible assumption) | exact cj8 (by with_reducible assumption) | exact cj9 (by with_reducible assumption) | exact cj10 (by with_reducible assumption) | exact cj11 (by with_reducible assumption) | exact cj12 (by with_reducible assumption) | exact cj13 (by with_reducible assumption) | exact cj14 (by with_reducible assumption) | exact cj15 (by with_reducible assumption) | (refine lt_tr (by with_reducible assumption) ?_))); done)) | (refine Nat.ne_of_gt ?_; focus ((repeat (first | with_reducible assumption | exact cj0 (by with_reducible assumption) | exact cj1 (by with_reducible assumption) | exact cj2 (by with_reducible assumption) | exact cj3 (by with_reducible assumption) | exact cj4 (by with_reducible assumption) | exact cj5 (by with_reducible assumption) | exact cj6 (by with_reducible assumption) | exact cj7 (by with_reducible assumption) | exact cj8 (by with_reducible assumption) | exact cj9 (by with_reducible assumption) | exact cj10 (by with_reducible assumption) | exact cj11 (by with_reducible assumption) | exact cj12 (by with_reducible assumption) | exact cj13 (by with_reducible assumption) | exact cj14 (by with_reducible assumption) | exact cj15 (by with_reducible assumption) | (refine lt_tr (by with_reducible assumption) ?_))); done))))
  (k_with "mem9" => focus ((repeat (first | with_reducible assumption | exact List.Mem.head _ | refine List.mem_cons_of_mem _ ?_)); done))
  trivial

theorem excAt_new {h₀ h : Heap} {L e t : Addr} {news : List (Addr × Obj)} (he : h.get? e = some (excObj t)) : ExcAt h₀ L news e t (fun _ => none) h (excObj t) where
  cls := rfl
  data := rfl
  inst := ⟨_, he, rfl, (fun c q => by cases q), .inl ⟨rfl, fun _ => rfl⟩⟩
  apart := fun dx q => by cases q

theorem lookup_29 (P : Params) : ∃ oc od fd sl, (Mine.hd.heap_39 P).lookup 29 = some ⟨oc, od, .func fd, sl⟩ ∧ oc = .type "function" := by
  have h : ((Mine.hd.heap_39 P).lookup 29).any (fun o => match o.cls, o.data with | .type n, .func _ => n == "function" | _, _ => false) = true := by kernel_rfl
  obtain ⟨o, ho, hb⟩ := (Option.any_eq_true _ _).mp h
  obtain ⟨oc, od, dt, sl⟩ := o
  dsimp only at hb
  split at hb
  · rename_i n fd
    exact ⟨_, _, fd, _, ho, by rw [beq_iff_eq.mp hb]⟩
  · cases hb
theorem frames_mk (A : Around) (vals : List Value) : (A.under (.builtin "type.__call__" ⟨.ref 45 :: vals, []⟩)).frames = A.frames := rfl
theorem find_45_sa (P : Params) : findIn (Mine.hd.heap_39 P) (.ref 45) "__setattr__" = some (some (.builtin "object.__setattr__")) := by kernel_rfl
theorem find_45_message (P : Params) : findIn (Mine.hd.heap_39 P) (.ref 45) "message" = some none := by kernel_rfl
theorem find_45_spot (P : Params) : findIn (Mine.hd.heap_39 P) (.ref 45) "spot" = some none := by kernel_rfl

section
variable {prog : Program} {w : World} {A : Around} {E : Value → Shared → Prop} {s : Shared} {P : Params} {h₀ : Heap} {L e : Addr} {m : PySem.Str → Option Value} {news : List (Addr × Obj)} {mA : PySem.Str → Option Value} {v : Value}
theorem exc_getm {pl : Sem Bool} {Q : Value × List Value → Shared → Prop} (F : Fr h₀ L s.heap m) (X : (Mine.hd.heap_39 P).In h₀) (h : Q (.builtin "Exception.__init__", []) { s with toks := s.toks + 1 }) :
    wpAny (model prog w) A (getMethod (.type "Exception") (PySem.Str.ofString "__init__") pl) Q E s := getm_exc (X.keeps F.keep) (find_exc_init _) h
theorem exc_init {tt : Addr} {Q : Value → Shared → Prop} (F : Fr h₀ L s.heap m) (N : News h₀ L s.heap ((e, excObj tt) :: news)) (X : (Mine.hd.heap_39 P).In h₀) (hne : ∀ p ∈ news, p.1 ≠ e)
    (hq : ∀ t' h', Fr h₀ L h' m → News h₀ L h' ((e, excObj t') :: news) → ExcAt h₀ L news e t' (fun _ => none) h' (excObj t') → Q .none { s with heap := h' }) :
    wpAny (model prog w) A (call (.builtin "Exception.__init__") [.ref e, v]) Q E s :=
  exc_init_call F N (F.keep _ _ (X _ _ (lookup_45 _))) hne fun t' h' F' N' => hq t' h' F' N' (excAt_new (N' _ (.head _)).1)
theorem exc_message {Q : Unit → Shared → Prop} {t : Addr} {oe : Obj} (F : Fr h₀ L s.heap m) (N : News h₀ L s.heap ((e, oe) :: news)) (X : (Mine.hd.heap_39 P).In h₀) (hne : ∀ p ∈ news, p.1 ≠ e)
    (Y : ExcAt h₀ L news e t (fun _ => none) s.heap oe)
    (hq : ∀ h' tk' oe', Fr h₀ L h' m → News h₀ L h' ((e, oe') :: news) → ExcAt h₀ L news e t (fun y => if y = "message" then some v else none) h' oe' → Q () { s with heap := h', toks := tk' }) :
    wpAny (model prog w) A (setAttr (.ref e) "message" v) Q E s :=
  exc_set F N X (X _ _ (lookup_45 _)) hne (find_45_sa _) (find_45_message _) Y hq Within.nil (Nat.zero_le _)
theorem exc_spot {Q : Unit → Shared → Prop} {t : Addr} {v' : Value} {oe : Obj} (F : Fr h₀ L s.heap m) (N : News h₀ L s.heap ((e, oe) :: news)) (X : (Mine.hd.heap_39 P).In h₀) (hne : ∀ p ∈ news, p.1 ≠ e)
    (Y : ExcAt h₀ L news e t (fun y => if y = "message" then some v' else none) s.heap oe)
    (hq : ∀ h' tk' oe', Fr h₀ L h' m → News h₀ L h' ((e, oe') :: news) → oe'.cls = .ref 45 → oe'.data = .fields #[.ref t, .none, .none, .none, .bool false, .none] → Q () { s with heap := h', toks := tk' }) :
    wpAny (model prog w) A (setAttr (.ref e) "spot" v) Q E s :=
  exc_set F N X (X _ _ (lookup_45 _)) hne (find_45_sa _) (find_45_spot _) Y (fun h' tk' oe' F' N' Y' => hq h' tk' oe' F' N' Y'.cls Y'.data) (Within.cons _ _ Within.nil) (by rw [sizeLine_eq]; decide)
end

theorem words_EX4_1 : True := by
  (k_with "getMethod type:Exception" => ((refine exc_getm (by k_asm) (by k_asm) ?_)))
  (k_with "call builtin:Exception.__init__" => ((refine exc_init (by k_asm) (by k_asm) (by k_asm) (by assumption) ?_; intro t' h' F' N' Y')))
  (k_with "setAttr ref" => (((first | (refine exc_message (by k_asm) (by k_asm) (by k_asm) (by assumption) (by assumption) ?_; intro h' tk' oe' F' N' Y') | (refine exc_spot (by k_asm) (by k_asm) (by k_asm) (by assumption) (by assumption) ?_; intro h' tk' oe' F' N' Y1 Y2)))))
  trivial
set_option maxHeartbeats 8000000 in
theorem fault_made {w : World} {A A₀ : Around} {E : Value → Shared → Prop} {s : Shared} {base h₀ : Heap} {L : Addr} {m : PySem.Str → Option Value} {news : List (Addr × Obj)} {env : Env} {outer : List Env}
    {p : Program} {loose : List PySem.Str} {mean : ExcName → Option Value} {mg mb : PySem.Str → Option Value} {v : Value} {Q : Value → Shared → Prop}
    (B : Below A₀ base outer h₀) (F : Fr h₀ L s.heap m) (X : (Mine.hd.heap_39 w.params).In h₀) (N : News h₀ L s.heap news) (T : Top p loose mean mg mb h₀)
    (hA : A.frames = some (env :: outer)) (hf : env.frame = some L) (hke : env.scope.kind = .function) (hroom : A.depth + 3 < recursionLimit)
    (hq : ∀ e t h' tk' oe, Fr h₀ L h' m → News h₀ L h' ((e, oe) :: news) → oe.cls = .ref 45 → oe.data = .fields #[.ref t, .none, .none, .none, .bool false, .none] → (∀ p ∈ news, p.1 ≠ e) → Q (.ref e) { s with heap := h', toks := tk' }) :
    wpAny (model Challenge.rw_on0013_01.row.prog w) A (call (.ref 45) [v]) Q E s := by
  w_on
  revert X
  k_fill
  intro X
  obtain ⟨h, g, d, tk, os⟩ := s
  have X' := X.keeps F.keep
  have hC₀ := X _ _ (lookup_45 _)
  obtain ⟨oc, od, fd, sl, hl, hoc⟩ := lookup_29 w.params
  refine fault_call X' (F.keep _ _ hC₀) (find_45_init _) hl hoc (by show 1 ≤ sizeLine; rw [sizeLine_eq]; omega) fun h' e' => ?_
  have N1 := News.push F N { cls := .type "tuple", data := .seq [v].toArray }
  have F1 := Fr.push F { cls := .type "tuple", data := .seq [v].toArray }
  have N2 := News.push F1 N1 (excObj h.objs.size)
  have F2 := Fr.push F1 (excObj h.objs.size)
  rw [Heap.size_push] at N2
  rw [← e'] at N2 F2
  have hne : ∀ p ∈ news, p.1 ≠ h.objs.size + 1 := fun p hp => Nat.ne_of_lt (Nat.lt_succ_of_lt (Heap.lt_size (N p hp).1))
  have N3 : News h₀ L h' ((h.objs.size + 1, excObj h.objs.size) :: news) := fun p hp => by
    rcases List.mem_cons.mp hp with rfl | hp
    · exact N2 _ (.head _)
    · exact N2 _ (.tail _ (.tail _ hp))
  clear e' N1 F1 N2
  generalize h.objs.size + 1 = e at *
  generalize h.objs.size = t0 at *
  refine wpAny_call ?_
  have hA' : (A.under (.builtin "type.__call__" ⟨[.ref 45, v], []⟩)).frames = some (env :: outer) := (frames_mk A [v]).trans hA
  have hroom' : (A.under (.builtin "type.__call__" ⟨[.ref 45, v], []⟩)).depth < recursionLimit := by simp only [depth_under_make]; omega
  k_dflt (refine' code_def ?k1 ?k2 ?k3 ?k4 ?k5 ?kA ?kF ?kK ?k6 ?k7 ?k8 ?k9 ?kB ?_ ?c2 ?c3 ?c4 ?c5; (case kA => exact hA'); (case kF => exact hf); (case kK => exact hke); (case k1 => k_asm); (case k2 => k_asm); (case k3 => k_asm); (case k4 => k_asm); (case k5 => k_asm); (case k6 => k_is); (case k7 => k_is); (case k8 => exact hroom'); (case k9 => exact binds_K (X.keeps F2.keep) rfl (by k_is) rfl rfl rfl); (case c5 => decide); (case kB => exact locs rfl); (case c2 => exact rfl); (case c3 => exact rfl); (case c4 => exact rfl); k_whole; intro g' L' h' FG' F' N' B' X' T'; (try dsimp only))
  k_steps
  exact hq _ _ _ _ _ (by assumption) (by assumption) (by assumption) (by assumption) hne
end

-- RA
section
theorem start_RA : True := by
  w_top off
  k_with_none
  (k_with "eval Constant str" => refine kstr ?_)
  (k_with "eval Constant int" => refine kint ?_)
  (k_with "eval Constant bytes" => refine kbyt ?_)
  (k_with "binaryOp Add int int" => with_reducible refine kadd ?_)
  (k_with "binaryOp Sub int int" => with_reducible refine ksub ?_)
  (k_with "unaryOp USub int" => with_reducible refine kneg ?_)
  (k_with "storeName" => (k_here; k_dflt (refine kstL (by k_asm) (by k_asm) ?_ (rfl) (rfl); k_whole; intro h9 F9 N9; (try k_sweep))))
  (k_with "newTuple" => (k_here; k_dflt (refine ktuK (by k_asm) (by k_asm) ?_ (by kmk_size)); intro D7 h7 F7 N7 l7; (try k_lt l7); (try k_sweep)))
  (k_with "newList" => (k_here; k_dflt (refine kltK (by k_asm) (by k_asm) ?_ (by size_fits)); intro D7 h7 F7 N7 l7; (try k_lt l7); (try k_sweep)))
  (k_with "steps9" => repeat' (first | (k_unfold; (try dsimp only)) | (k_end; wrow_close) | (walk1 <;> (try dsimp only)) | (dsimp only; walk1) | (leave1; walk_say "STEP leave1"; try dsimp only) | (with_reducible refine popN (by assumption) ?_) | (with_reducible refine popR (by assumption) ?_) | ((refine pop_ (by assumption) ?_); (try dsimp only)) | fail "no step"))
  (k_with "all9" => focus ((repeat (first | exact List.forall_mem_nil _ | with_reducible assumption | (refine List.forall_mem_cons.mpr ⟨by k_ne, ?_⟩))); done))
  (k_with "room9" => first | exact rl1 (by with_reducible assumption) (Nat.le_of_ble_eq_true rfl) | exact rl0 (by with_reducible assumption) (Nat.le_of_ble_eq_true rfl) | exact rl2 (by with_reducible assumption) (Nat.le_of_ble_eq_true rfl) | exact rlz (by assumption))
  (k_with "ne9" => (refine neN ?_; (try dsimp only); first | (refine Nat.ne_of_lt ?_; focus ((repeat (first | with_reducible assumption | exact cj0 (by with_reducible assumption) | exact cj1 (by with_reducible assumption) | exact cj2 (by with_reducible assumption) | exact cj3 (by with_reducible assumption) | exact cj4 (by with_reducible assumption) | exact cj5 (by with_reducible assumption) | exact cj6 (by with_reducible assumption) | exact cj7 (by with_reducible assumption) | exact cj8 (by with_reducible assumption) | exact cj9 (by with_reducible assumption) | exact cj10 (by with_reducible assumption) | exact cj11 (by with_reducible assumption) | exact cj12 (by with_reducible assumption) | exact cj13 (by with_reducible assumption) | exact cj14 (by with_reducible assumption) | exact cj15 (by with_reducible assumption) | (refine lt_tr (by with_reducible assumption) ?_))); done)) | (refine Nat.ne_of_gt ?_; focus ((repeat (first | with_reducible assumption | exact cj0 (by with_reducible assumption) | exact cj1 (by with_reducible assumption) | exact cj2 (by with_reducible assumption) | exact cj3 (by with_reducible assumption) | exact cj4 (by with_reducible assumption) | exact cj5 (by with_reducible assumption) | exact cj6 (by with_reducible assumption) | exact cj7 (by with_reducible assumption) | exact cj8 (by with_reducible assumption) | exact cj9 (by with_reducible assumption) | exact cj10 (by with_reducible assumption) | exact cj11 (by with_reducible assumption) | exact cj12 (by with_reducible assumption) | exact cj13 (by with_reducible assumption) | exact cj14 (by with_reducible assumption) | exact cj15 (by with_reducible assumption) | (refine lt_tr (by with_reducible assumption) ?_))); done))))
  (k_with "mem9" => focus ((repeat (first | with_reducible assumption | exact List.Mem.head _ | refine List.mem_cons_of_mem _ ?_)); done))
  trivial

/-- where a raise of a new ConstFault ends -/
def FaultRaised (E : Value → Shared → Prop) (v : Value) (s : Shared) : Prop :=
  ∃ e t oe, v = .ref e ∧ s.heap.get? 45 = some faultCls ∧ s.heap.get? e = some oe ∧ oe.cls = .ref 45 ∧ oe.data = .fields #[.ref t, .none, .none, .none, .bool false, .none] ∧ E (.ref e) s

section
variable {M : Model} {A : Around} {E : Value → Shared → Prop} {s : Shared} {env : Env}
theorem raiseStmt_fault {x : Sem Value} {Q : Flow → Shared → Prop} (hh : A.handled = none) (h : wpAny M A x (fun v s₁ => FaultRaised E v s₁) E s) : wpAny M A (raiseStmt env (some x) none) Q E s := by
  have hcB : ([.ref 45, .ref 32, .type "Exception", .type "BaseException", .type "object"] : List Value).contains (.type "BaseException") = true := by decide +kernel
  unfold raiseStmt
  refine wpAny_bind (wpAny_mono h (fun v s₁ h₁ => ?_) fun _ _ x => x)
  obtain ⟨e, t, oe, rfl, hC, he, hcls, hd, hE⟩ := h₁
  obtain ⟨oc, od, dt, sl⟩ := oe
  dsimp only at hcls hd
  subst hcls hd
  obtain ⟨hp, g, d, tk, os⟩ := s₁
  repeat (first | with_reducible refine wpAny_loadPart_at he ?_ | with_reducible refine wpAny_loadPart_at hC ?_ | (with_reducible refine wpAny_isSubtype_exc hC ?_; rw [hcB]) | wp_step)
  exact wpAny_raiseNew_none hh hE
theorem raise_fault {x : PySem.Str} {np cpos pos : Pos} {args : List PySem.Expr} {Q : Flow → Shared → Prop} (hh : A.handled = none)
    (h : wpAny M A (eval (.Call (.Name x np) args [] cpos) env) (fun v s₁ => FaultRaised E v s₁) E s) :
    wpAny M A (exec (.Raise (some (.Call (.Name x np) args [] cpos)) none pos) env) Q E s := by
  rw [arm_exec_Raise]
  refine wpAny_bind (wpAny_standAt ?_)
  exact raiseStmt_fault hh (wpAny_bind (wpAny_mono h (fun v s₁ h₁ => wpAny_bind (wpAny_standAt (wpAny_pure h₁))) fun _ _ x => x))
end

theorem below_pushE {A : Around} {base h₀ h : Heap} {outer : List Env} {L : Addr} {m : PySem.Str → Option Value} {env : Env} (K : Below A base outer h₀) (F : Fr h₀ L h m) (hf : env.frame = some L) (hk : env.scope.kind = .function) :
    Below (A.deeper env) base (env :: outer) h := by
  have hnew : base.get? L = none := by
    cases hq : base.get? L with
    | none => rfl
    | some o => exact absurd (Nat.lt_of_lt_of_le (Heap.lt_size (K.stays L o hq)) F.above) (Nat.lt_irrefl _)
  exact ⟨Around.frames_deeper K.stack, fun b o e => F.keep b o (K.stays b o e), .cons (by rw [hk]; decide) hf F.ns hnew (K.frames.of_keeps fun b o e _ => ⟨o, F.keep b o e, rfl⟩)⟩

theorem memE {env : Env} {outer : List Env} {L b : Addr} (hf : env.frame = some L) (hm : b ∈ (env :: outer).filterMap (·.frame)) : b = L ∨ b ∈ outer.filterMap (·.frame) := by
  obtain ⟨e, he, hfe⟩ := List.mem_filterMap.mp hm
  rcases List.mem_cons.mp he with rfl | he
  · rw [hf] at hfe; exact .inl (Option.some.inj hfe).symm
  · exact .inr (List.mem_filterMap.mpr ⟨e, he, hfe⟩)

section
variable {M : Model} {A : Around} {E : Value → Shared → Prop} {s' : Shared} {base g g₂ : Heap} {outer : List Env} {L e t : Addr} {m : PySem.Str → Option Value} {env : Env} {Q : Unit → Shared → Prop} {news : List (Addr × Obj)} {oe : Obj}

theorem leave_fault (K : Below A base outer g) (F : Fr g L s'.heap m) (N : News g L s'.heap ((e, oe) :: news)) (hne : ∀ p ∈ news, p.1 ≠ e) (hcls : oe.cls = .ref 45) (hd : oe.data = .fields #[.ref t, .none, .none, .none, .bool false, .none])
    (hQ : ∀ h', RaisedSN base g outer e (.ref 45) news h' → g.UpToSlots h' → Q () { s' with heap := h' }) (hf : env.frame = some L) (hk : env.scope.kind = .function) :
    wpAny M (A.deeper env) (leaving env (.ref e)) Q E s' := by
  have K' := below_pushE (env := env) K F hf hk
  have he := (N _ (.head _)).1
  have heg := (N _ (.head _)).2.2
  have hin : ∀ v ∈ (env :: outer), ∀ b, v.frame = some b → b ∈ e :: (env :: outer).filterMap (·.frame) := fun v hv b hb => .tail _ (List.mem_filterMap.mpr ⟨v, hv, hb⟩)
  have out : ∀ b o, s'.heap.get? b = some o → b ≠ e → b ∉ (env :: outer).filterMap (·.frame) → (hideAll s'.heap (e :: (env :: outer).filterMap (·.frame))).get? b = some o := fun b o q n1 n2 => hideAll_get _ q fun hm => by
    rcases List.mem_cons.mp hm with z | z
    · exact n1 z
    · exact n2 z
  have st : base.StaysIn (hideAll s'.heap (e :: (env :: outer).filterMap (·.frame))) := fun b o q => out b o (K'.stays b o q) (fun z => by rw [z, fresh_of_stays K.stays heg] at q; cases q) fun hm => by
    rw [(K'.frames.mem hm).1] at q; cases q
  have sg : ∀ b o, g.get? b = some o → b ∉ outer.filterMap (·.frame) → (hideAll s'.heap (e :: (env :: outer).filterMap (·.frame))).get? b = some o := fun b o q nm => out b o (F.keep b o q) (fun z => by rw [z, heg] at q; cases q) fun hm => by
    rcases memE hf hm with z | z
    · rw [z, kts_self F] at q; cases q
    · exact nm z
  have hl : ∀ q ∈ news, (hideAll s'.heap (e :: (env :: outer).filterMap (·.frame))).get? q.1 = some q.2 ∧ g.get? q.1 = none ∧ base.get? q.1 = none := fun q hq => by
    have n := N q (.tail _ hq)
    refine ⟨out _ _ n.1 (hne q hq) fun hm => ?_, n.2.2, fresh_of_stays K.stays n.2.2⟩
    rcases memE hf hm with z | z
    · exact n.2.1 z
    · obtain ⟨o, ho, _⟩ := (K.frames.mem z).2
      rw [n.2.2] at ho; cases ho
  refine wpAny_leaving_firstW (a0 := .ref t) K'.stack (funFrames_hide K'.frames hin) hf he (fun b o q => of_hideAll _ q) (hideAll_none _ (.head _)) hd rfl rfl fun h' hL => ?_
  obtain ⟨k1, ⟨_, _, k2⟩, k3, k4⟩ := hL
  exact hQ h' ⟨_, .ref t, st, sg, hl, k1, hideAll_none _ (.head _), k2, by rw [← hcls]; exact k3⟩ ((Heap.UpToSlots.of_keeps F.keep).trans k4)

theorem leave_onE {cls : Value} (K : Below A base outer g) (F : Fr g L g₂ m) (R : RaisedSN base g₂ (env :: outer) e cls news s'.heap) (hsm : g₂.UpToSlots s'.heap)
    (hQ : ∀ h', RaisedSN base g outer e cls news h' → g.UpToSlots h' → Q () { s' with heap := h' }) (hf : env.frame = some L) :
    wpAny M (A.deeper env) (leaving env (.ref e)) Q E s' := by
  obtain ⟨B, a0, hB, hBG, hl, hfl⟩ := R
  exact wpAny_leaves_onW (Around.frames_deeper K.stack) hf hfl fun h' x1 x2 =>
    hQ h' ⟨B, a0, hB, fun b o q nm => hBG b o (F.keep b o q) (fun hm => by
      rcases memE hf hm with z | z
      · rw [z, kts_self F] at q; cases q
      · exact nm z), fun q hq => ⟨(hl q hq).1, kts_none F.keep (hl q hq).2.1, (hl q hq).2.2⟩, x1⟩ ((Heap.UpToSlots.of_keeps F.keep).trans (hsm.trans x2))
end
end

-- CA
section
theorem start_CA : True := by
  w_top off
  k_with_none
  (k_with "eval Constant str" => refine kstr ?_)
  (k_with "eval Constant int" => refine kint ?_)
  (k_with "eval Constant bytes" => refine kbyt ?_)
  (k_with "binaryOp Add int int" => with_reducible refine kadd ?_)
  (k_with "binaryOp Sub int int" => with_reducible refine ksub ?_)
  (k_with "unaryOp USub int" => with_reducible refine kneg ?_)
  (k_with "storeName" => (k_here; k_dflt (refine kstL (by k_asm) (by k_asm) ?_ (rfl) (rfl); k_whole; intro h9 F9 N9; (try k_sweep))))
  (k_with "newTuple" => (k_here; k_dflt (refine ktuK (by k_asm) (by k_asm) ?_ (by kmk_size)); intro D7 h7 F7 N7 l7; (try k_lt l7); (try k_sweep)))
  (k_with "newList" => (k_here; k_dflt (refine kltK (by k_asm) (by k_asm) ?_ (by size_fits)); intro D7 h7 F7 N7 l7; (try k_lt l7); (try k_sweep)))
  (k_with "steps9" => repeat' (first | (k_unfold; (try dsimp only)) | (k_end; wrow_close) | (walk1 <;> (try dsimp only)) | (dsimp only; walk1) | (leave1; walk_say "STEP leave1"; try dsimp only) | (with_reducible refine popN (by assumption) ?_) | (with_reducible refine popR (by assumption) ?_) | ((refine pop_ (by assumption) ?_); (try dsimp only)) | fail "no step"))
  (k_with "all9" => focus ((repeat (first | exact List.forall_mem_nil _ | with_reducible assumption | (refine List.forall_mem_cons.mpr ⟨by k_ne, ?_⟩))); done))
  (k_with "room9" => first | exact rl1 (by with_reducible assumption) (Nat.le_of_ble_eq_true rfl) | exact rl0 (by with_reducible assumption) (Nat.le_of_ble_eq_true rfl) | exact rl2 (by with_reducible assumption) (Nat.le_of_ble_eq_true rfl) | exact rlz (by assumption))
  (k_with "ne9" => (refine neN ?_; (try dsimp only); first | (refine Nat.ne_of_lt ?_; focus ((repeat (first | with_reducible assumption | exact cj0 (by with_reducible assumption) | exact cj1 (by with_reducible assumption) | exact cj2 (by with_reducible assumption) | exact cj3 (by with_reducible assumption) | exact cj4 (by with_reducible assumption) | exact cj5 (by with_reducible assumption) | exact cj6 (by with_reducible assumption) | exact cj7 (by with_reducible assumption) | exact cj8 (by with_reducible assumption) | exact cj9 (by with_reducible assumption) | exact cj10 (by with_reducible assumption) | exact cj11 (by with_reducible assumption) | exact cj12 (by with_reducible assumption) | exact cj13 (by with_reducible assumption) | exact cj14 (by with_reducible assumption) | exact cj15 (by with_reducible assumption) | (refine lt_tr (by with_reducible assumption) ?_))); done)) | (refine Nat.ne_of_gt ?_; focus ((repeat (first | with_reducible assumption | exact cj0 (by with_reducible assumption) | exact cj1 (by with_reducible assumption) | exact cj2 (by with_reducible assumption) | exact cj3 (by with_reducible assumption) | exact cj4 (by with_reducible assumption) | exact cj5 (by with_reducible assumption) | exact cj6 (by with_reducible assumption) | exact cj7 (by with_reducible assumption) | exact cj8 (by with_reducible assumption) | exact cj9 (by with_reducible assumption) | exact cj10 (by with_reducible assumption) | exact cj11 (by with_reducible assumption) | exact cj12 (by with_reducible assumption) | exact cj13 (by with_reducible assumption) | exact cj14 (by with_reducible assumption) | exact cj15 (by with_reducible assumption) | (refine lt_tr (by with_reducible assumption) ?_))); done))))
  (k_with "mem9" => focus ((repeat (first | with_reducible assumption | exact List.Mem.head _ | refine List.mem_cons_of_mem _ ?_)); done))
  trivial

/-- a call of a def: whatever the caller's frame, it comes back with a value and a ledger that Ret tells, or raises ConstFault, the ledger kept, where Rais -/
abbrev CallsR (k : Nat) (w : World) (f : Addr) (vs : List Value) (news : List (Addr × Obj)) (Ret : Value → List (Addr × Obj) → Prop) (Rais : Prop) : Prop :=
  ∀ (p : Program) (loose : List PySem.Str) (mean : ExcName → Option Value) (mg mb : PySem.Str → Option Value) (dp un : Nat) (gd : Option (List Code)) (cn : PySem.Str) (cs : Scope) (a : Addr) (ccd : Value) (cl : List (PySem.Str × Addr)) (outer : List Env) (A₀ : Around) (base h₀ : Heap) (L : Addr) (m : PySem.Str → Option Value) (hS : Heap) (gS : Array GenState) (dS : Drawn) (tS : Nat) (oS : OsState) (Q E : Value → Shared → Prop),
    Below A₀ base outer h₀ → Fr h₀ L hS m → (Mine.hd.heap_39 w.params).In h₀ → News h₀ L hS news → Top p loose mean mg mb h₀ → cs.kind = .function →
    dp + k < recursionLimit → un + 20 * k < cLine →
    (∀ v news' h' tk', Ret v news' → Fr h₀ L h' m → News h₀ L h' news' → Q v ⟨h', gS, dS, tk', oS⟩) →
    (∀ e g h' tk', Rais → Fr h₀ L g m → g.UpToSlots h' → RaisedSN base g (envX cn cs L a ccd cl :: outer) e (.ref 45) news h' → E (.ref e) ⟨h', gS, dS, tk', oS⟩) →
    wpAny (model Challenge.rw_on0013_01.row.prog w) (ktrTop dp un gd cn cs L a ccd cl outer) (call (.ref f) vs) Q E ⟨hS, gS, dS, tS, oS⟩

theorem callsR_use {k : Nat} {w : World} {f : Addr} {vs : List Value} {news : List (Addr × Obj)} {Ret : Value → List (Addr × Obj) → Prop} {Rais : Prop} {p : Program} {loose : List PySem.Str} {mean : ExcName → Option Value} {mg mb : PySem.Str → Option Value} {dp un : Nat} {gd : Option (List Code)} {cn : PySem.Str} {cs : Scope} {a : Addr} {ccd : Value} {cl : List (PySem.Str × Addr)} {outer : List Env} {A₀ : Around} {base h₀ : Heap} {L : Addr} {m : PySem.Str → Option Value} {hS : Heap} {gS : Array GenState} {dS : Drawn} {tS : Nat} {oS : OsState} {Q E : Value → Shared → Prop}
    (C : CallsR k w f vs news Ret Rais) (B : Below A₀ base outer h₀) (F : Fr h₀ L hS m) (X : (Mine.hd.heap_39 w.params).In h₀) (N : News h₀ L hS news) (T : Top p loose mean mg mb h₀) (hk : cs.kind = .function)
    (hd : dp + k < recursionLimit) (hu : un + 20 * k < cLine)
    (hret : ∀ v news' h' tk', Ret v news' → Fr h₀ L h' m → News h₀ L h' news' → Q v ⟨h', gS, dS, tk', oS⟩)
    (hrais : ∀ e g h' tk', Rais → Fr h₀ L g m → g.UpToSlots h' → RaisedSN base g (envX cn cs L a ccd cl :: outer) e (.ref 45) news h' → E (.ref e) ⟨h', gS, dS, tk', oS⟩) :
    wpAny (model Challenge.rw_on0013_01.row.prog w) (ktrTop dp un gd cn cs L a ccd cl outer) (call (.ref f) vs) Q E ⟨hS, gS, dS, tS, oS⟩ :=
  C _ _ _ _ _ _ _ _ _ _ _ _ _ _ _ _ _ _ _ _ _ _ _ _ _ _ B F X N T hk hd hu hret hrais

theorem news_cast {h₀ h : Heap} {L : Addr} {l l' : List (Addr × Obj)} (N : News h₀ L h l) (e : l = l') : News h₀ L h l' := e ▸ N
/-- the kinds: the value, whether without a sign, the bounds -/
inductive KV : Value → Bool → Int → Int → Prop
  | int (t : Tok) : KV (.str (PySem.Str.ofString "int") t) false (-9223372036854775808) 9223372036854775807
  | int8 (t : Tok) : KV (.str (PySem.Str.ofString "int8") t) false (-128) 127
  | int16 (t : Tok) : KV (.str (PySem.Str.ofString "int16") t) false (-32768) 32767
  | int32 (t : Tok) : KV (.str (PySem.Str.ofString "int32") t) false (-2147483648) 2147483647
  | int64 (t : Tok) : KV (.str (PySem.Str.ofString "int64") t) false (-9223372036854775808) 9223372036854775807
  | uint (t : Tok) : KV (.str (PySem.Str.ofString "uint") t) true 0 18446744073709551615
  | uint8 (t : Tok) : KV (.str (PySem.Str.ofString "uint8") t) true 0 255
  | uint16 (t : Tok) : KV (.str (PySem.Str.ofString "uint16") t) true 0 65535
  | uint32 (t : Tok) : KV (.str (PySem.Str.ofString "uint32") t) true 0 4294967295
  | uint64 (t : Tok) : KV (.str (PySem.Str.ofString "uint64") t) true 0 18446744073709551615
/-- a kind with its bits -/
inductive KVB : PySem.Str → Bool → Int → Int → Int → Tok → Prop
  | int : KVB (PySem.Str.ofString "int") false (-9223372036854775808) 9223372036854775807 64 240
  | int8 : KVB (PySem.Str.ofString "int8") false (-128) 127 8 242
  | int16 : KVB (PySem.Str.ofString "int16") false (-32768) 32767 16 244
  | int32 : KVB (PySem.Str.ofString "int32") false (-2147483648) 2147483647 32 246
  | int64 : KVB (PySem.Str.ofString "int64") false (-9223372036854775808) 9223372036854775807 64 248
  | uint : KVB (PySem.Str.ofString "uint") true (0) 18446744073709551615 64 250
  | uint8 : KVB (PySem.Str.ofString "uint8") true (0) 255 8 252
  | uint16 : KVB (PySem.Str.ofString "uint16") true (0) 65535 16 254
  | uint32 : KVB (PySem.Str.ofString "uint32") true (0) 4294967295 32 256
  | uint64 : KVB (PySem.Str.ofString "uint64") true (0) 18446744073709551615 64 258
theorem KV.bits {v : Value} {u : Bool} {lo hi : Int} (h : KV v u lo hi) : ∃ x t b tk, v = .str x t ∧ KVB x u lo hi b tk := by
  cases h
  all_goals first
    | exact ⟨_, _, _, _, rfl, .int⟩
    | exact ⟨_, _, _, _, rfl, .int8⟩
    | exact ⟨_, _, _, _, rfl, .int16⟩
    | exact ⟨_, _, _, _, rfl, .int32⟩
    | exact ⟨_, _, _, _, rfl, .int64⟩
    | exact ⟨_, _, _, _, rfl, .uint⟩
    | exact ⟨_, _, _, _, rfl, .uint8⟩
    | exact ⟨_, _, _, _, rfl, .uint16⟩
    | exact ⟨_, _, _, _, rfl, .uint32⟩
    | exact ⟨_, _, _, _, rfl, .uint64⟩
theorem KVB.at {P : Params} {x : PySem.Str} {u : Bool} {lo hi b : Int} {tk : Tok} (h : KVB x u lo hi b tk) : nsIn (Mine.hd.heap_39 P) 48 x = some (some (.int b tk)) := by
  cases h <;> kernel_rfl
theorem KVB.le {x : PySem.Str} {u : Bool} {lo hi b : Int} {tk : Tok} (h : KVB x u lo hi b tk) : 1 ≤ b ∧ b ≤ 64 := by
  cases h <;> decide
theorem KVB.uns {x : PySem.Str} {lo hi b : Int} {tk : Tok} (h : KVB x true lo hi b tk) : lo = 0 ∧ hi = 2 ^ b.toNat - 1 := by
  cases h <;> decide +kernel
theorem KVB.sig {x : PySem.Str} {lo hi b : Int} {tk : Tok} (h : KVB x false lo hi b tk) : lo = 0 - 2 ^ (b - 1).toNat ∧ hi = 2 ^ (b - 1).toNat - 1 := by
  cases h <;> decide +kernel
theorem KVB.item {x : PySem.Str} {u : Bool} {lo hi b : Int} {tk : Tok} (h : KVB x u lo hi b tk) : (Txt.item x 0 == PySem.Str.ofString "u") = u := by cases h <;> decide +kernel
theorem KVB.len {x : PySem.Str} {u : Bool} {lo hi b : Int} {tk : Tok} (h : KVB x u lo hi b tk) : 0 < x.length := by cases h <;> decide +kernel
theorem kv_item {x : PySem.Str} {t : Tok} {u : Bool} {lo hi : Int} (h : KV (.str x t) u lo hi) : (Txt.item x 0 == PySem.Str.ofString "u") = u := by
  obtain ⟨x, t, b, tk, e, h⟩ := h.bits
  cases e; exact h.item
theorem kv_len {x : PySem.Str} {t : Tok} {u : Bool} {lo hi : Int} (h : KV (.str x t) u lo hi) : 0 < x.length := by
  obtain ⟨x, t, b, tk, e, h⟩ := h.bits
  cases e; exact h.len
theorem kv_str {v : Value} {u : Bool} {lo hi : Int} (h : KV v u lo hi) : ∃ x t, v = .str x t := by
  obtain ⟨x, t, b, tk, e, h⟩ := h.bits
  exact ⟨x, t, e⟩
theorem bits_item {w : World} {A : Around} {E : Value → Shared → Prop} {s : Shared} {h₀ : Heap} {L : Addr} {m : PySem.Str → Option Value} {value slice : PySem.Expr} {x : PySem.Str} {t : Tok} {v : Value} {Q : Value → Shared → Prop} (F : Fr h₀ L s.heap m) (X : (Mine.hd.heap_39 w.params).In h₀) (e : nsIn (Mine.hd.heap_39 w.params) 48 x = some (some v))
    (h : Q v { s with toks := s.toks + 1 }) (hs : subscripted slice false (.ref 48) (.str x t) = operate [.ref 48, .str x t] (getItem (.ref 48) (.str x t)) := by with_unfolding_all rfl) : wpAny (model Challenge.rw_on0013_01.row.prog w) A (subscriptTail value slice (.ref 48) (.str x t)) Q E s := by
  w_on
  revert e
  k_fill
  intro e
  k_dflt (refine' topItem_K ?F ?X ?l ?k ?e ?_ ?hs; (case F => exact F); (case X => exact X); (case l => k_is); (case k => k_keys); (case e => exact e); (case hs => exact hs); exact h)

inductive RestR (w : World) (f : Addr) (vs : List Value) (news : List (Addr × Obj)) (p : Program) (loose : List PySem.Str) (mean : ExcName → Option Value) (mg mb : PySem.Str → Option Value) (dp un : Nat) (gd : Option (List Code)) (cn : PySem.Str) (cs : Scope) (a : Addr) (ccd : Value) (cl : List (PySem.Str × Addr)) (outer : List Env) (A₀ : Around) (base h₀ : Heap) (L : Addr) (m : PySem.Str → Option Value) (hp : Heap) (gn : Array GenState) (dr : Drawn) (tk9 : Nat) (os9 : OsState) (Q E : Value → Shared → Prop) : Prop
  | mk (k : Nat) (Ret : Value → List (Addr × Obj) → Prop) (Rais : Prop) (r0 : CallsR k w f vs news Ret Rais) (r1 : cs.kind = .function) (r2 : dp + k < recursionLimit) (r3 : un + 20 * k < cLine) (r4 : (∀ v news' h' tk', Ret v news' → Fr h₀ L h' m → News h₀ L h' news' → Q v ⟨h', gn, dr, tk', os9⟩)) (r5 : (∀ e g h' tk', Rais → Fr h₀ L g m → g.UpToSlots h' → RaisedSN base g (envX cn cs L a ccd cl :: outer) e (.ref 45) news h' → E (.ref e) ⟨h', gn, dr, tk', os9⟩)) : RestR w f vs news p loose mean mg mb dp un gd cn cs a ccd cl outer A₀ base h₀ L m hp gn dr tk9 os9 Q E
  | eq (k : Nat) (V : Value) (N : List (Addr × Obj)) (Rais : Prop) (r0 : CallsR k w f vs news (fun v n' => v = V ∧ n' = N) Rais) (r1 : cs.kind = .function) (r2 : dp + k < recursionLimit) (r3 : un + 20 * k < cLine) (r4 : (∀ h' tk', Fr h₀ L h' m → News h₀ L h' N → Q V ⟨h', gn, dr, tk', os9⟩)) (r5 : (∀ e g h' tk', Rais → Fr h₀ L g m → g.UpToSlots h' → RaisedSN base g (envX cn cs L a ccd cl :: outer) e (.ref 45) news h' → E (.ref e) ⟨h', gn, dr, tk', os9⟩)) : RestR w f vs news p loose mean mg mb dp un gd cn cs a ccd cl outer A₀ base h₀ L m hp gn dr tk9 os9 Q E
  | led (k : Nat) (R : Value → Prop) (N : List (Addr × Obj)) (Rais : Prop) (r0 : CallsR k w f vs news (fun v n' => R v ∧ n' = N) Rais) (r1 : cs.kind = .function) (r2 : dp + k < recursionLimit) (r3 : un + 20 * k < cLine) (r4 : (∀ v h' tk', R v → Fr h₀ L h' m → News h₀ L h' N → Q v ⟨h', gn, dr, tk', os9⟩)) (r5 : (∀ e g h' tk', Rais → Fr h₀ L g m → g.UpToSlots h' → RaisedSN base g (envX cn cs L a ccd cl :: outer) e (.ref 45) news h' → E (.ref e) ⟨h', gn, dr, tk', os9⟩)) : RestR w f vs news p loose mean mg mb dp un gd cn cs a ccd cl outer A₀ base h₀ L m hp gn dr tk9 os9 Q E
  | mkF (k : Nat) (Ret : Value → List (Addr × Obj) → Prop) (r0 : CallsR k w f vs news Ret False) (r1 : cs.kind = .function) (r2 : dp + k < recursionLimit) (r3 : un + 20 * k < cLine) (r4 : (∀ v news' h' tk', Ret v news' → Fr h₀ L h' m → News h₀ L h' news' → Q v ⟨h', gn, dr, tk', os9⟩)) : RestR w f vs news p loose mean mg mb dp un gd cn cs a ccd cl outer A₀ base h₀ L m hp gn dr tk9 os9 Q E
  | eqF (k : Nat) (V : Value) (N : List (Addr × Obj)) (r0 : CallsR k w f vs news (fun v n' => v = V ∧ n' = N) False) (r1 : cs.kind = .function) (r2 : dp + k < recursionLimit) (r3 : un + 20 * k < cLine) (r4 : (∀ h' tk', Fr h₀ L h' m → News h₀ L h' N → Q V ⟨h', gn, dr, tk', os9⟩)) : RestR w f vs news p loose mean mg mb dp un gd cn cs a ccd cl outer A₀ base h₀ L m hp gn dr tk9 os9 Q E
  | ledF (k : Nat) (R : Value → Prop) (N : List (Addr × Obj)) (r0 : CallsR k w f vs news (fun v n' => R v ∧ n' = N) False) (r1 : cs.kind = .function) (r2 : dp + k < recursionLimit) (r3 : un + 20 * k < cLine) (r4 : (∀ v h' tk', R v → Fr h₀ L h' m → News h₀ L h' N → Q v ⟨h', gn, dr, tk', os9⟩)) : RestR w f vs news p loose mean mg mb dp un gd cn cs a ccd cl outer A₀ base h₀ L m hp gn dr tk9 os9 Q E
theorem callsR_v {w : World} {f : Addr} {vs : List Value} {news : List (Addr × Obj)} {p : Program} {loose : List PySem.Str} {mean : ExcName → Option Value} {mg mb : PySem.Str → Option Value} {dp un : Nat} {gd : Option (List Code)} {cn : PySem.Str} {cs : Scope} {a : Addr} {ccd : Value} {cl : List (PySem.Str × Addr)} {outer : List Env} {A₀ : Around} {base h₀ : Heap} {L : Addr} {m : PySem.Str → Option Value} {hp : Heap} {gn : Array GenState} {dr : Drawn} {tk9 : Nat} {os9 : OsState} {Q E : Value → Shared → Prop}
    (B : Below A₀ base outer h₀) (F : Fr h₀ L hp m) (X : (Mine.hd.heap_39 w.params).In h₀) (N : News h₀ L hp news) (T : Top p loose mean mg mb h₀) (H : RestR w f vs news p loose mean mg mb dp un gd cn cs a ccd cl outer A₀ base h₀ L m hp gn dr tk9 os9 Q E) : wpAny (model Challenge.rw_on0013_01.row.prog w) (ktrTop dp un gd cn cs L a ccd cl outer) (call (.ref f) vs) Q E ⟨hp, gn, dr, tk9, os9⟩ := by
  cases H with
  | mk k Ret Rais C hk hd hu h1 h2 => exact callsR_use C B F X N T hk hd hu h1 h2
  | mkF k Ret C hk hd hu h1 => exact callsR_use C B F X N T hk hd hu h1 (fun _ _ _ _ z => z.elim)
  | eqF k V N' C hk hd hu h1 => exact callsR_use C B F X N T hk hd hu (fun v n h t r F N => by obtain ⟨rfl, rfl⟩ := r; exact h1 h t F N) (fun _ _ _ _ z => z.elim)
  | ledF k R N' C hk hd hu h1 => exact callsR_use C B F X N T hk hd hu (fun v n h t r F N => by obtain ⟨r, rfl⟩ := r; exact h1 v h t r F N) (fun _ _ _ _ z => z.elim)
  | eq k V N' Rais C hk hd hu h1 h2 => exact callsR_use C B F X N T hk hd hu (fun v n h t r F N => by obtain ⟨rfl, rfl⟩ := r; exact h1 h t F N) h2
  | led k R N' Rais C hk hd hu h1 h2 => exact callsR_use C B F X N T hk hd hu (fun v n h t r F N => by obtain ⟨r, rfl⟩ := r; exact h1 v h t r F N) h2
section
variable {w : World} {news : List (Addr × Obj)} {kv : Value} {u : Bool} {lo hi : Int}
set_option maxHeartbeats 8000000 in
theorem is_unsigned_c (hkv : KV kv u lo hi) : CallsR 1 w 56 [kv] news (fun v n => v = .bool u ∧ n = news) False := by
  w_on
  unfold CallsR
  k_fill
  intro p loose mean mg mb dp un gd cn cs a ccd cl outer A₀ base h₀ L m hS gS dS tS oS Q E hB hF hX hN hT hk hd hu hret hrais
  obtain ⟨x, tx, b, tk, rfl, hb⟩ := hkv.bits
  have hit := hb.item
  have hlen := hb.len
  refine wpAny_call ?_
  k_dflt (refine' code_def ?k1 ?k2 ?k3 ?k4 ?k5 ?kA ?kF ?kK ?k6 ?k7 ?k8 (?k9 : Binds1 _ _ (PySem.Str.ofString "kind") _) ?kB ?_ ?c2 ?c3 ?c4 ?c5; (case kA => exact rfl); (case kF => exact rfl); (case kK => assumption); (case k1 => k_asm); (case k2 => k_asm); (case k3 => k_asm); (case k4 => k_asm); (case k5 => k_asm); (case k6 => k_is); (case k7 => k_is); (case k8 => ktr_room); (case k9 => exact BindsTo.of_eq (by kernel_rfl)); (case c5 => decide); (case kB => exact locs rfl); (case c2 => exact rfl); (case c3 => exact rfl); (case c4 => exact rfl); k_whole; intro g' L' h' FG' F' N' B' X' T'; (try dsimp only [List.reverse_cons, List.reverse_nil, List.nil_append, List.cons_append, List.length_cons, List.length_nil] at F' ⊢); (try k_lift B'); (try k_fold))
  k_steps
  exact hret _ _ _ _ ⟨by rw [hit], rfl⟩ (by k_asm) (by k_asm)

theorem words_CA_2 : True := by
  (k_with "call ref" => (k_here; (with_reducible show wpAny _ _ (call (Value.ref 56) _) _ _ _); k_dflt (refine callsR_v (by k_asm) (by k_asm) (by k_asm) (by k_asm) (by k_asm) ?_; refine RestR.eqF _ _ _ (is_unsigned_c (by assumption)) (by first | exact rfl | assumption) (by ktr_room) (by ktr_units) ?_; k_whole); intro h9 tk9 F9 N9; (try dsimp only); (try k_fold)))
  (k_with "subscriptTail" => ((k_here; k_dflt (refine bits_item (by k_asm) (by k_asm) (by assumption) ?_))))
  trivial
set_option maxHeartbeats 8000000 in
theorem int_range_c (hkv : KV kv u lo hi) : CallsR 2 w 63 [kv] news (fun v n => ∃ a t1 t2, v = .ref a ∧ n = (a, { cls := .type "tuple", data := .seq #[.int lo t1, .int hi t2] }) :: news ∧ ∀ p ∈ news, p.1 < a) False := by
  w_on
  unfold CallsR
  k_fill
  intro p loose mean mg mb dp un gd cn cs a ccd cl outer A₀ base h₀ L m hS gS dS tS oS Q E hB hF hX hN hT hk hd hu hret hrais
  have hkv0 := hkv
  obtain ⟨x, tx, b, tk, rfl, hb⟩ := hkv.bits
  have hat := hb.at (P := w.params)
  obtain ⟨hb1, hb2⟩ := hb.le
  refine wpAny_call ?_
  k_dflt (refine' code_def ?k1 ?k2 ?k3 ?k4 ?k5 ?kA ?kF ?kK ?k6 ?k7 ?k8 (?k9 : Binds1 _ _ (PySem.Str.ofString "kind") _) ?kB ?_ ?c2 ?c3 ?c4 ?c5; (case kA => exact rfl); (case kF => exact rfl); (case kK => assumption); (case k1 => k_asm); (case k2 => k_asm); (case k3 => k_asm); (case k4 => k_asm); (case k5 => k_asm); (case k6 => k_is); (case k7 => k_is); (case k8 => ktr_room); (case k9 => exact BindsTo.of_eq (by kernel_rfl)); (case c5 => decide); (case kB => exact locs rfl); (case c2 => exact rfl); (case c3 => exact rfl); (case c4 => exact rfl); k_whole; intro g' L' h' FG' F' N' B' X' T'; (try dsimp only [List.reverse_cons, List.reverse_nil, List.nil_append, List.cons_append, List.length_cons, List.length_nil] at F' ⊢); (try k_lift B'); (try k_fold))
  cases u
  · obtain ⟨rfl, rfl⟩ := hb.sig
    k_steps
    exact hret _ _ _ _ ⟨_, _, _, rfl, rfl, by assumption⟩ (by k_asm) (by k_asm)
  · obtain ⟨rfl, rfl⟩ := hb.uns
    k_steps
    exact hret _ _ _ _ ⟨_, _, _, rfl, rfl, by assumption⟩ (by k_asm) (by k_asm)
end
end

-- SX
section
theorem start_SX : True := by
  w_top off
  k_with_none
  (k_with "eval Constant str" => refine kstr ?_)
  (k_with "eval Constant int" => refine kint ?_)
  (k_with "eval Constant bytes" => refine kbyt ?_)
  (k_with "binaryOp Add int int" => with_reducible refine kadd ?_)
  (k_with "binaryOp Sub int int" => with_reducible refine ksub ?_)
  (k_with "unaryOp USub int" => with_reducible refine kneg ?_)
  (k_with "storeName" => (k_here; k_dflt (refine kstL (by k_asm) (by k_asm) ?_ (rfl) (rfl); k_whole; intro h9 F9 N9; (try k_sweep))))
  (k_with "newTuple" => (k_here; k_dflt (refine ktuK (by k_asm) (by k_asm) ?_ (by kmk_size)); intro D7 h7 F7 N7 l7; (try k_lt l7); (try k_sweep)))
  (k_with "newList" => (k_here; k_dflt (refine kltK (by k_asm) (by k_asm) ?_ (by size_fits)); intro D7 h7 F7 N7 l7; (try k_lt l7); (try k_sweep)))
  (k_with "steps9" => repeat' (first | (k_unfold; (try dsimp only)) | (k_end; wrow_close) | (walk1 <;> (try dsimp only)) | (dsimp only; walk1) | (leave1; walk_say "STEP leave1"; try dsimp only) | (with_reducible refine popN (by assumption) ?_) | (with_reducible refine popR (by assumption) ?_) | ((refine pop_ (by assumption) ?_); (try dsimp only)) | fail "no step"))
  (k_with "all9" => focus ((repeat (first | exact List.forall_mem_nil _ | with_reducible assumption | (refine List.forall_mem_cons.mpr ⟨by k_ne, ?_⟩))); done))
  (k_with "room9" => first | exact rl1 (by with_reducible assumption) (Nat.le_of_ble_eq_true rfl) | exact rl0 (by with_reducible assumption) (Nat.le_of_ble_eq_true rfl) | exact rl2 (by with_reducible assumption) (Nat.le_of_ble_eq_true rfl) | exact rlz (by assumption))
  (k_with "ne9" => (refine neN ?_; (try dsimp only); first | (refine Nat.ne_of_lt ?_; focus ((repeat (first | with_reducible assumption | exact cj0 (by with_reducible assumption) | exact cj1 (by with_reducible assumption) | exact cj2 (by with_reducible assumption) | exact cj3 (by with_reducible assumption) | exact cj4 (by with_reducible assumption) | exact cj5 (by with_reducible assumption) | exact cj6 (by with_reducible assumption) | exact cj7 (by with_reducible assumption) | exact cj8 (by with_reducible assumption) | exact cj9 (by with_reducible assumption) | exact cj10 (by with_reducible assumption) | exact cj11 (by with_reducible assumption) | exact cj12 (by with_reducible assumption) | exact cj13 (by with_reducible assumption) | exact cj14 (by with_reducible assumption) | exact cj15 (by with_reducible assumption) | (refine lt_tr (by with_reducible assumption) ?_))); done)) | (refine Nat.ne_of_gt ?_; focus ((repeat (first | with_reducible assumption | exact cj0 (by with_reducible assumption) | exact cj1 (by with_reducible assumption) | exact cj2 (by with_reducible assumption) | exact cj3 (by with_reducible assumption) | exact cj4 (by with_reducible assumption) | exact cj5 (by with_reducible assumption) | exact cj6 (by with_reducible assumption) | exact cj7 (by with_reducible assumption) | exact cj8 (by with_reducible assumption) | exact cj9 (by with_reducible assumption) | exact cj10 (by with_reducible assumption) | exact cj11 (by with_reducible assumption) | exact cj12 (by with_reducible assumption) | exact cj13 (by with_reducible assumption) | exact cj14 (by with_reducible assumption) | exact cj15 (by with_reducible assumption) | (refine lt_tr (by with_reducible assumption) ?_))); done))))
  (k_with "mem9" => focus ((repeat (first | with_reducible assumption | exact List.Mem.head _ | refine List.mem_cons_of_mem _ ?_)); done))
  trivial

theorem seg {M : Model} {A : Around} {E : Value → Shared → Prop} {s : Shared} {st : Stmt} {rest : List Stmt} {env : Env} {Q : Flow → Shared → Prop} (P : Shared → Prop)
    (h1 : wpAny M A (exec st env) (fun f s' => match f with | .next => P s' | f => Q f s') E s) (h2 : ∀ s', P s' → wpAny M A (execs rest env) Q E s') : wpAny M A (execs (st :: rest) env) Q E s :=
  wpAny_execs_cons (wpAny_mono h1 (fun f s' h => by cases f <;> first | exact h2 _ h | exact h) fun _ _ e => e)

theorem news_sub {h₀ h : Heap} {L : Addr} {l l' : List (Addr × Obj)} (N : News h₀ L h l) (S : ∀ q ∈ l', q ∈ l) : News h₀ L h l' := fun q hq => N q (S q hq)
theorem sub_cons {a : Addr × Obj} {r l : List (Addr × Obj)} (h : a ∈ l) (hr : ∀ q ∈ r, q ∈ l) : ∀ q ∈ a :: r, q ∈ l := List.forall_mem_cons.mpr ⟨h, hr⟩
theorem sub_tail {a : Addr × Obj} {r l : List (Addr × Obj)} (h : ∀ q ∈ r, q ∈ l) : ∀ q ∈ r, q ∈ a :: l := fun q hq => .tail _ (h q hq)
theorem sub_nil {l : List (Addr × Obj)} : ∀ q ∈ ([] : List (Addr × Obj)), q ∈ l := fun _ h => by cases h
theorem sub_refl {l : List (Addr × Obj)} : ∀ q ∈ l, q ∈ l := fun _ h => h
/-- what the walk leaves alone -/
inductive Held (P : Prop) : Prop
  | mk (h : P)
end

end

-- group 1
section

-- CB
section
theorem start_CB : True := by
  w_top off
  k_with_none
  (k_with "eval Constant str" => refine kstr ?_)
  (k_with "eval Constant int" => refine kint ?_)
  (k_with "eval Constant bytes" => refine kbyt ?_)
  (k_with "binaryOp Add int int" => with_reducible refine kadd ?_)
  (k_with "binaryOp Sub int int" => with_reducible refine ksub ?_)
  (k_with "unaryOp USub int" => with_reducible refine kneg ?_)
  (k_with "storeName" => (k_here; k_dflt (refine kstL (by k_asm) (by k_asm) ?_ (rfl) (rfl); k_whole; intro h9 F9 N9; (try k_sweep))))
  (k_with "newTuple" => (k_here; k_dflt (refine ktuK (by k_asm) (by k_asm) ?_ (by kmk_size)); intro D7 h7 F7 N7 l7; (try k_lt l7); (try k_sweep)))
  (k_with "newList" => (k_here; k_dflt (refine kltK (by k_asm) (by k_asm) ?_ (by size_fits)); intro D7 h7 F7 N7 l7; (try k_lt l7); (try k_sweep)))
  (k_with "steps9" => repeat' (first | (k_unfold; (try dsimp only)) | (k_end; wrow_close) | (walk1 <;> (try dsimp only)) | (dsimp only; walk1) | (leave1; walk_say "STEP leave1"; try dsimp only) | (with_reducible refine popN (by assumption) ?_) | (with_reducible refine popR (by assumption) ?_) | ((refine pop_ (by assumption) ?_); (try dsimp only)) | fail "no step"))
  (k_with "all9" => focus ((repeat (first | exact List.forall_mem_nil _ | with_reducible assumption | (refine List.forall_mem_cons.mpr ⟨by k_ne, ?_⟩))); done))
  (k_with "room9" => first | exact rl1 (by with_reducible assumption) (Nat.le_of_ble_eq_true rfl) | exact rl0 (by with_reducible assumption) (Nat.le_of_ble_eq_true rfl) | exact rl2 (by with_reducible assumption) (Nat.le_of_ble_eq_true rfl) | exact rlz (by assumption))
  (k_with "ne9" => (refine neN ?_; (try dsimp only); first | (refine Nat.ne_of_lt ?_; focus ((repeat (first | with_reducible assumption | exact cj0 (by with_reducible assumption) | exact cj1 (by with_reducible assumption) | exact cj2 (by with_reducible assumption) | exact cj3 (by with_reducible assumption) | exact cj4 (by with_reducible assumption) | exact cj5 (by with_reducible assumption) | exact cj6 (by with_reducible assumption) | exact cj7 (by with_reducible assumption) | exact cj8 (by with_reducible assumption) | exact cj9 (by with_reducible assumption) | exact cj10 (by with_reducible assumption) | exact cj11 (by with_reducible assumption) | exact cj12 (by with_reducible assumption) | exact cj13 (by with_reducible assumption) | exact cj14 (by with_reducible assumption) | exact cj15 (by with_reducible assumption) | (refine lt_tr (by with_reducible assumption) ?_))); done)) | (refine Nat.ne_of_gt ?_; focus ((repeat (first | with_reducible assumption | exact cj0 (by with_reducible assumption) | exact cj1 (by with_reducible assumption) | exact cj2 (by with_reducible assumption) | exact cj3 (by with_reducible assumption) | exact cj4 (by with_reducible assumption) | exact cj5 (by with_reducible assumption) | exact cj6 (by with_reducible assumption) | exact cj7 (by with_reducible assumption) | exact cj8 (by with_reducible assumption) | exact cj9 (by with_reducible assumption) | exact cj10 (by with_reducible assumption) | exact cj11 (by with_reducible assumption) | exact cj12 (by with_reducible assumption) | exact cj13 (by with_reducible assumption) | exact cj14 (by with_reducible assumption) | exact cj15 (by with_reducible assumption) | (refine lt_tr (by with_reducible assumption) ?_))); done))))
  (k_with "mem9" => focus ((repeat (first | with_reducible assumption | exact List.Mem.head _ | refine List.mem_cons_of_mem _ ?_)); done))
  trivial


/-- a kind, or none -/
inductive KN : Value → Bool → Int → Int → Prop
  | none : KN .none false (1 - 2 ^ 512) (2 ^ 512 - 1)
  | some {v : Value} {u : Bool} {lo hi : Int} (h : KV v u lo hi) : KN v u lo hi
theorem KV.text {v : Value} {u : Bool} {lo hi : Int} (h : KV v u lo hi) : ∃ x t, v = .str x t ∧ x.length ≤ 6 := by cases h <;> exact ⟨_, _, rfl, by decide +kernel⟩
theorem fault_raised {P : Params} {h₀ : Heap} {L e t : Addr} {m : PySem.Str → Option Value} {news : List (Addr × Obj)} {oe : Obj} {E : Value → Shared → Prop} {s : Shared} (F : Fr h₀ L s.heap m) (X : (Mine.hd.heap_39 P).In h₀) (N : News h₀ L s.heap ((e, oe) :: news))
    (hc : oe.cls = .ref 45) (hd : oe.data = .fields #[.ref t, .none, .none, .none, .bool false, .none]) (h : E (.ref e) s) : FaultRaised E (.ref e) s :=
  ⟨e, t, oe, rfl, F.keep _ _ (X _ _ (lookup_45 _)), (N _ (.head _)).1, hc, hd, h⟩
theorem news_tl {h₀ h : Heap} {L : Addr} {p : Addr × Obj} {l : List (Addr × Obj)} (N : News h₀ L h (p :: l)) : News h₀ L h l := fun q hq => N q (.tail _ hq)
theorem toNat_512 : Int.toNat 512 = 512 := rfl

section
variable {w : World} {news : List (Addr × Obj)} {kv : Value} {u : Bool} {lo hi : Int}
theorem words_CB_3 : True := by
  (k_with "call ref" => (k_here; (with_reducible show wpAny _ _ (call (Value.ref 56) _) _ _ _); k_dflt (refine callsR_v (by k_asm) (by k_asm) (by k_asm) (by k_asm) (by k_asm) ?_; refine RestR.eqF _ _ _ (is_unsigned_c (by assumption)) (by first | exact rfl | assumption) (by ktr_room) (by ktr_units) ?_; k_whole); intro h9 tk9 F9 N9; (try dsimp only); (try k_fold)))
  (k_with "call ref" => (k_here; (with_reducible show wpAny _ _ (call (Value.ref 63) _) _ _ _); k_dflt (refine callsR_v (by k_asm) (by k_asm) (by k_asm) (by k_asm) (by k_asm) ?_; refine RestR.mkF _ _ (int_range_c (by assumption)) (by first | exact rfl | assumption) (by ktr_room) (by ktr_units) ?_; k_whole); intro v9 n9 h9 tk9 R9 F9 N9; obtain ⟨a9, t1, t2, e9, e8, l9⟩ := R9; subst e9 e8; (try dsimp only); (try k_fold)))
  trivial
set_option maxHeartbeats 8000000 in
theorem is_in_range_c {n : Int} {t : Tok} (hkn : KN kv u lo hi) : CallsR 3 w 70 [.int n t, kv] news (fun v n' => v = .bool (decide (lo ≤ n ∧ n ≤ hi)) ∧ n' = news) False := by
  w_on
  unfold CallsR
  k_fill
  intro p loose mean mg mb dp un gd cn cs fa ccd cl outer A₀ base h₀ L m hS gS dS tS oS Q E hB hF hX hN hT hk hd hu hret hrais
  cases hkn
  case none =>
    refine wpAny_call ?_
    k_dflt (refine' code_def ?k1 ?k2 ?k3 ?k4 ?k5 ?kA ?kF ?kK ?k6 ?k7 ?k8 (?k9 : Binds2 _ _ (PySem.Str.ofString "number") (PySem.Str.ofString "kind") _ _) ?kB ?_ ?c2 ?c3 ?c4 ?c5; (case kA => exact rfl); (case kF => exact rfl); (case kK => assumption); (case k1 => k_asm); (case k2 => k_asm); (case k3 => k_asm); (case k4 => k_asm); (case k5 => k_asm); (case k6 => k_is); (case k7 => k_is); (case k8 => ktr_room); (case k9 => exact BindsTo.of_eq (by kernel_rfl)); (case c5 => decide); (case kB => exact locs rfl); (case c2 => exact rfl); (case c3 => exact rfl); (case c4 => exact rfl); k_whole; intro g' L' h' FG' F' N' B' X' T'; (try dsimp only [List.reverse_cons, List.reverse_nil, List.nil_append, List.cons_append, List.length_cons, List.length_nil] at F' ⊢); (try k_lift B'); (try k_fold))
    k_steps
    all_goals (exact hret _ _ _ _ ⟨congrArg Value.bool (by simp only [toNat_512, decide_eq_true_eq, decide_eq_false_iff_not] at *; rw [decide_eq_decide]; generalize (2 : Int) ^ 512 = B at *; omega), rfl⟩ (by k_asm) (by first | k_asm | exact news_tl (by k_asm)))
  case some hkv =>
    obtain ⟨x, tx, rfl, hx6⟩ := hkv.text
    refine wpAny_call ?_
    k_dflt (refine' code_def ?k1 ?k2 ?k3 ?k4 ?k5 ?kA ?kF ?kK ?k6 ?k7 ?k8 (?k9 : Binds2 _ _ (PySem.Str.ofString "number") (PySem.Str.ofString "kind") _ _) ?kB ?_ ?c2 ?c3 ?c4 ?c5; (case kA => exact rfl); (case kF => exact rfl); (case kK => assumption); (case k1 => k_asm); (case k2 => k_asm); (case k3 => k_asm); (case k4 => k_asm); (case k5 => k_asm); (case k6 => k_is); (case k7 => k_is); (case k8 => ktr_room); (case k9 => exact BindsTo.of_eq (by kernel_rfl)); (case c5 => decide); (case kB => exact locs rfl); (case c2 => exact rfl); (case c3 => exact rfl); (case c4 => exact rfl); k_whole; intro g' L' h' FG' F' N' B' X' T'; (try dsimp only [List.reverse_cons, List.reverse_nil, List.nil_append, List.cons_append, List.length_cons, List.length_nil] at F' ⊢); (try k_lift B'); (try k_fold))
    k_steps
    all_goals (exact hret _ _ _ _ ⟨congrArg Value.bool (by simp only [toNat_512, decide_eq_true_eq, decide_eq_false_iff_not] at *; rw [decide_eq_decide]; generalize (2 : Int) ^ 512 = B at *; omega), rfl⟩ (by k_asm) (by first | k_asm | exact news_tl (by k_asm)))


theorem words_CB_4 : True := by
  (k_with "call ref" => (k_here; (with_reducible show wpAny _ _ (call (Value.ref 70) _) _ _ _); k_dflt (refine callsR_v (by k_asm) (by k_asm) (by k_asm) (by k_asm) (by k_asm) ?_; refine RestR.eqF _ _ _ (is_in_range_c (by assumption)) (by first | exact rfl | assumption) (by ktr_room) (by ktr_units) ?_; k_whole); intro h9 tk9 F9 N9; (try dsimp only); (try k_fold)))
  (k_with "exec Raise some none" => ((k_here; refine raise_fault rfl ?_)))
  (k_with "call ref" => ((k_here; (with_reducible show wpAny _ _ (call (Value.ref 45) _) _ _ _); k_dflt (refine fault_made (by k_asm) (by k_asm) (by k_asm) (by k_asm) (by k_asm) (rfl) (rfl) (by first | exact rfl | assumption) (by ktr_room) ?_; k_whole); intro e9 t9 h9 tk9 oe9 F9 N9 hc9 hd9 hn9; (try dsimp only))))
  (k_with "FaultRaised" => ((refine fault_raised (by k_asm) (by k_asm) (by k_asm) (by assumption) (by assumption) ?_)))
  (k_with "leaving ref" => ((k_here; first | (refine leave_fault (by k_asm) (by k_asm) (by k_asm) (by assumption) (by assumption) (by assumption) ?_ (rfl) (by first | exact rfl | assumption); intro h9 RS9 U9; (try dsimp only)) | (refine leave_onE (by k_asm) (by k_asm) (by assumption) (by assumption) ?_ (rfl); intro h9 RS9 U9; (try dsimp only)))))
  trivial
set_option maxHeartbeats 8000000 in
theorem within_range_c {n : Int} {t : Tok} (hkn : KN kv u lo hi) : CallsR 6 w 77 [.int n t, kv] news (fun v n' => v = .int n t ∧ n' = news ∧ (lo ≤ n ∧ n ≤ hi)) (¬ (lo ≤ n ∧ n ≤ hi)) := by
  w_on
  unfold CallsR
  k_fill
  intro p loose mean mg mb dp un gd cn cs fa ccd cl outer A₀ base h₀ L m hS gS dS tS oS Q E hB hF hX hN hT hk hd hu hret hrais
  have hkn0 := hkn
  cases hkn
  case none =>
    refine wpAny_call ?_
    k_dflt (refine' code_def ?k1 ?k2 ?k3 ?k4 ?k5 ?kA ?kF ?kK ?k6 ?k7 ?k8 (?k9 : Binds2 _ _ (PySem.Str.ofString "number") (PySem.Str.ofString "kind") _ _) ?kB ?_ ?c2 ?c3 ?c4 ?c5; (case kA => exact rfl); (case kF => exact rfl); (case kK => assumption); (case k1 => k_asm); (case k2 => k_asm); (case k3 => k_asm); (case k4 => k_asm); (case k5 => k_asm); (case k6 => k_is); (case k7 => k_is); (case k8 => ktr_room); (case k9 => exact BindsTo.of_eq (by kernel_rfl)); (case c5 => decide); (case kB => exact locs rfl); (case c2 => exact rfl); (case c3 => exact rfl); (case c4 => exact rfl); k_whole; intro g' L' h' FG' F' N' B' X' T'; (try dsimp only [List.reverse_cons, List.reverse_nil, List.nil_append, List.cons_append, List.length_cons, List.length_nil] at F' ⊢); (try k_lift B'); (try k_fold))
    k_steps
    all_goals (first | exact hret _ _ _ _ ⟨rfl, rfl, by assumption⟩ (by k_asm) (by k_asm) | ((refine' hrais _ _ _ _ ?_ ?_ ?_ (by assumption)) <;> first | assumption | k_asm))
  case some hkv =>
    obtain ⟨x, tx, rfl, hx6⟩ := hkv.text
    refine wpAny_call ?_
    k_dflt (refine' code_def ?k1 ?k2 ?k3 ?k4 ?k5 ?kA ?kF ?kK ?k6 ?k7 ?k8 (?k9 : Binds2 _ _ (PySem.Str.ofString "number") (PySem.Str.ofString "kind") _ _) ?kB ?_ ?c2 ?c3 ?c4 ?c5; (case kA => exact rfl); (case kF => exact rfl); (case kK => assumption); (case k1 => k_asm); (case k2 => k_asm); (case k3 => k_asm); (case k4 => k_asm); (case k5 => k_asm); (case k6 => k_is); (case k7 => k_is); (case k8 => ktr_room); (case k9 => exact BindsTo.of_eq (by kernel_rfl)); (case c5 => decide); (case kB => exact locs rfl); (case c2 => exact rfl); (case c3 => exact rfl); (case c4 => exact rfl); k_whole; intro g' L' h' FG' F' N' B' X' T'; (try dsimp only [List.reverse_cons, List.reverse_nil, List.nil_append, List.cons_append, List.length_cons, List.length_nil] at F' ⊢); (try k_lift B'); (try k_fold))
    k_steps
    all_goals (first | exact hret _ _ _ _ ⟨rfl, rfl, by assumption⟩ (by k_asm) (by k_asm) | ((refine' hrais _ _ _ _ ?_ ?_ ?_ (by assumption)) <;> first | assumption | k_asm))
end
end

-- CH
section
theorem start_CH : True := by
  w_top off
  k_with_none
  (k_with "eval Constant str" => refine kstr ?_)
  (k_with "eval Constant int" => refine kint ?_)
  (k_with "eval Constant bytes" => refine kbyt ?_)
  (k_with "binaryOp Add int int" => with_reducible refine kadd ?_)
  (k_with "binaryOp Sub int int" => with_reducible refine ksub ?_)
  (k_with "unaryOp USub int" => with_reducible refine kneg ?_)
  (k_with "storeName" => (k_here; k_dflt (refine kstL (by k_asm) (by k_asm) ?_ (rfl) (rfl); k_whole; intro h9 F9 N9; (try k_sweep))))
  (k_with "newTuple" => (k_here; k_dflt (refine ktuK (by k_asm) (by k_asm) ?_ (by kmk_size)); intro D7 h7 F7 N7 l7; (try k_lt l7); (try k_sweep)))
  (k_with "newList" => (k_here; k_dflt (refine kltK (by k_asm) (by k_asm) ?_ (by size_fits)); intro D7 h7 F7 N7 l7; (try k_lt l7); (try k_sweep)))
  (k_with "steps9" => repeat' (first | (k_unfold; (try dsimp only)) | (k_end; wrow_close) | (walk1 <;> (try dsimp only)) | (dsimp only; walk1) | (leave1; walk_say "STEP leave1"; try dsimp only) | (with_reducible refine popN (by assumption) ?_) | (with_reducible refine popR (by assumption) ?_) | ((refine pop_ (by assumption) ?_); (try dsimp only)) | fail "no step"))
  (k_with "all9" => focus ((repeat (first | exact List.forall_mem_nil _ | with_reducible assumption | (refine List.forall_mem_cons.mpr ⟨by k_ne, ?_⟩))); done))
  (k_with "room9" => first | exact rl1 (by with_reducible assumption) (Nat.le_of_ble_eq_true rfl) | exact rl0 (by with_reducible assumption) (Nat.le_of_ble_eq_true rfl) | exact rl2 (by with_reducible assumption) (Nat.le_of_ble_eq_true rfl) | exact rlz (by assumption))
  (k_with "ne9" => (refine neN ?_; (try dsimp only); first | (refine Nat.ne_of_lt ?_; focus ((repeat (first | with_reducible assumption | exact cj0 (by with_reducible assumption) | exact cj1 (by with_reducible assumption) | exact cj2 (by with_reducible assumption) | exact cj3 (by with_reducible assumption) | exact cj4 (by with_reducible assumption) | exact cj5 (by with_reducible assumption) | exact cj6 (by with_reducible assumption) | exact cj7 (by with_reducible assumption) | exact cj8 (by with_reducible assumption) | exact cj9 (by with_reducible assumption) | exact cj10 (by with_reducible assumption) | exact cj11 (by with_reducible assumption) | exact cj12 (by with_reducible assumption) | exact cj13 (by with_reducible assumption) | exact cj14 (by with_reducible assumption) | exact cj15 (by with_reducible assumption) | (refine lt_tr (by with_reducible assumption) ?_))); done)) | (refine Nat.ne_of_gt ?_; focus ((repeat (first | with_reducible assumption | exact cj0 (by with_reducible assumption) | exact cj1 (by with_reducible assumption) | exact cj2 (by with_reducible assumption) | exact cj3 (by with_reducible assumption) | exact cj4 (by with_reducible assumption) | exact cj5 (by with_reducible assumption) | exact cj6 (by with_reducible assumption) | exact cj7 (by with_reducible assumption) | exact cj8 (by with_reducible assumption) | exact cj9 (by with_reducible assumption) | exact cj10 (by with_reducible assumption) | exact cj11 (by with_reducible assumption) | exact cj12 (by with_reducible assumption) | exact cj13 (by with_reducible assumption) | exact cj14 (by with_reducible assumption) | exact cj15 (by with_reducible assumption) | (refine lt_tr (by with_reducible assumption) ?_))); done))))
  (k_with "mem9" => focus ((repeat (first | with_reducible assumption | exact List.Mem.head _ | refine List.mem_cons_of_mem _ ?_)); done))
  trivial


theorem log2_lt_of {n k : Nat} (h : n < 2 ^ k) (hk : 0 < k) : n.log2 < k := by
  by_cases h0 : n = 0
  · subst h0; simpa using hk
  · exact (Nat.log2_lt h0).mpr h
theorem log2_small {b : Int} (h1 : -18446744073709551616 < b) (h2 : b < 18446744073709551616) : b.natAbs.log2 < 9000 :=
  Nat.lt_of_lt_of_le (log2_lt_of (k := 64) (by omega) (by decide)) (by decide)
theorem noPy_abs {x b : Int} (h : b.natAbs.log2 < 9000) : Builtin.divisionGoesByPylong x (if b < 0 then -b else b) = false := by
  refine PyProof.noPylong_of_log2 ?_
  split
  · rwa [Int.natAbs_neg]
  · exact h
theorem tdiv_same {a b : Int} (hb : b ≠ 0) (h : (a < 0) ↔ (b < 0)) : (if a < 0 then -a else a).fdiv (if b < 0 then -b else b) = a.tdiv b := by
  rw [Int.fdiv_eq_ediv_of_nonneg _ (by split <;> omega)]
  by_cases ha : a < 0
  · have hb' := h.mp ha
    rw [if_pos ha, if_pos hb', ← Int.tdiv_eq_ediv_of_nonneg (by omega), Int.neg_tdiv, Int.tdiv_neg, Int.neg_neg]
  · have hb' : ¬ b < 0 := fun z => ha (h.mpr z)
    rw [if_neg ha, if_neg hb', Int.tdiv_eq_ediv_of_nonneg (by omega)]
theorem tdiv_other {a b : Int} (hb : b ≠ 0) (h : ¬ ((a < 0) ↔ (b < 0))) : 0 - (if a < 0 then -a else a).fdiv (if b < 0 then -b else b) = a.tdiv b := by
  rw [Int.fdiv_eq_ediv_of_nonneg _ (by split <;> omega)]
  by_cases ha : a < 0
  · have hb' : ¬ b < 0 := fun z => h ⟨fun _ => z, fun _ => ha⟩
    rw [if_pos ha, if_neg hb', ← Int.tdiv_eq_ediv_of_nonneg (by omega), Int.neg_tdiv]
    omega
  · have hb' : b < 0 := by
      refine Decidable.byContradiction fun z => h ⟨fun y => absurd y ha, fun y => absurd y z⟩
    rw [if_neg ha, if_pos hb', ← Int.tdiv_eq_ediv_of_nonneg (by omega), Int.tdiv_neg]
    omega
theorem tdiv_sameV {a b : Int} {t : Tok} (hb : b ≠ 0) (h : (decide (a < 0) == decide (b < 0)) = true) : Value.int ((if a < 0 then -a else a).fdiv (if b < 0 then -b else b)) t = .int (a.tdiv b) t := by
  rw [tdiv_same hb (by simpa using h)]
theorem tdiv_otherV {a b : Int} {t : Tok} (hb : b ≠ 0) (h : (decide (a < 0) == decide (b < 0)) = false) : Value.int (0 - (if a < 0 then -a else a).fdiv (if b < 0 then -b else b)) t = .int (a.tdiv b) t := by
  rw [tdiv_other hb (by simpa using h)]
section
variable {w : World} {news : List (Addr × Obj)} {kv : Value} {u : Bool} {lo hi : Int}

theorem words_CH_5 : True := by
  (k_with "exec Raise some none" => ((k_here; refine raise_fault rfl ?_)))
  (k_with "call ref" => ((k_here; (with_reducible show wpAny _ _ (call (Value.ref 45) _) _ _ _); k_dflt (refine fault_made (by k_asm) (by k_asm) (by k_asm) (by k_asm) (by k_asm) (rfl) (rfl) (by first | exact rfl | assumption) (by ktr_room) ?_; k_whole); intro e9 t9 h9 tk9 oe9 F9 N9 hc9 hd9 hn9; (try dsimp only))))
  (k_with "FaultRaised" => ((refine fault_raised (by k_asm) (by k_asm) (by k_asm) (by assumption) (by assumption) ?_)))
  (k_with "leaving ref" => ((k_here; first | (refine leave_fault (by k_asm) (by k_asm) (by k_asm) (by assumption) (by assumption) (by assumption) ?_ (rfl) (by first | exact rfl | assumption); intro h9 RS9 U9; (try dsimp only)) | (refine leave_onE (by k_asm) (by k_asm) (by assumption) (by assumption) ?_ (rfl); intro h9 RS9 U9; (try dsimp only)))))
  (k_with "binaryOp FloorDiv int int" => ((refine PyProof.Rows.floordiv_int (by split <;> omega) ?_ (Or.inl (noPy_abs (by assumption))))))
  trivial
set_option maxHeartbeats 8000000 in
theorem quot_c {a b : Int} {ta tb : Tok} (hb : b.natAbs.log2 < 9000) : CallsR 5 w 99 [.int a ta, .int b tb] news (fun v n' => (∃ t, v = .int (a.tdiv b) t) ∧ n' = news ∧ b ≠ 0) (b = 0) := by
  w_on
  unfold CallsR
  k_fill
  intro p loose mean mg mb dp un gd cn cs fa ccd cl outer A₀ base h₀ L m hS gS dS tS oS Q E hB hF hX hN hT hk hd hu hret hrais
  refine wpAny_call ?_
  k_dflt (refine' code_def ?k1 ?k2 ?k3 ?k4 ?k5 ?kA ?kF ?kK ?k6 ?k7 ?k8 (?k9 : Binds2 _ _ (PySem.Str.ofString "a") (PySem.Str.ofString "b") _ _) ?kB ?_ ?c2 ?c3 ?c4 ?c5; (case kA => exact rfl); (case kF => exact rfl); (case kK => assumption); (case k1 => k_asm); (case k2 => k_asm); (case k3 => k_asm); (case k4 => k_asm); (case k5 => k_asm); (case k6 => k_is); (case k7 => k_is); (case k8 => ktr_room); (case k9 => exact BindsTo.of_eq (by kernel_rfl)); (case c5 => decide); (case kB => exact locs rfl); (case c2 => exact rfl); (case c3 => exact rfl); (case c4 => exact rfl); k_whole; intro g' L' h' FG' F' N' B' X' T'; (try dsimp only [List.reverse_cons, List.reverse_nil, List.nil_append, List.cons_append, List.length_cons, List.length_nil] at F' ⊢); (try k_lift B'); (try k_fold))
  k_steps
  all_goals first
    | exact hret _ _ _ _ ⟨⟨_, tdiv_sameV (by assumption) (by assumption)⟩, rfl, by assumption⟩ (by k_asm) (by k_asm)
    | exact hret _ _ _ _ ⟨⟨_, tdiv_otherV (by assumption) (by assumption)⟩, rfl, by assumption⟩ (by k_asm) (by k_asm)
    | ((refine' hrais _ _ _ _ ?_ ?_ ?_ (by assumption)) <;> first | assumption | k_asm)
end
end

end

-- group 2
section

-- CC
section
theorem start_CC : True := by
  w_top off
  k_with_none
  (k_with "eval Constant str" => refine kstr ?_)
  (k_with "eval Constant int" => refine kint ?_)
  (k_with "eval Constant bytes" => refine kbyt ?_)
  (k_with "binaryOp Add int int" => with_reducible refine kadd ?_)
  (k_with "binaryOp Sub int int" => with_reducible refine ksub ?_)
  (k_with "unaryOp USub int" => with_reducible refine kneg ?_)
  (k_with "storeName" => (k_here; k_dflt (refine kstL (by k_asm) (by k_asm) ?_ (rfl) (rfl); k_whole; intro h9 F9 N9; (try k_sweep))))
  (k_with "newTuple" => (k_here; k_dflt (refine ktuK (by k_asm) (by k_asm) ?_ (by kmk_size)); intro D7 h7 F7 N7 l7; (try k_lt l7); (try k_sweep)))
  (k_with "newList" => (k_here; k_dflt (refine kltK (by k_asm) (by k_asm) ?_ (by size_fits)); intro D7 h7 F7 N7 l7; (try k_lt l7); (try k_sweep)))
  (k_with "steps9" => repeat' (first | (k_unfold; (try dsimp only)) | (k_end; wrow_close) | (walk1 <;> (try dsimp only)) | (dsimp only; walk1) | (leave1; walk_say "STEP leave1"; try dsimp only) | (with_reducible refine popN (by assumption) ?_) | (with_reducible refine popR (by assumption) ?_) | ((refine pop_ (by assumption) ?_); (try dsimp only)) | fail "no step"))
  (k_with "all9" => focus ((repeat (first | exact List.forall_mem_nil _ | with_reducible assumption | (refine List.forall_mem_cons.mpr ⟨by k_ne, ?_⟩))); done))
  (k_with "room9" => first | exact rl1 (by with_reducible assumption) (Nat.le_of_ble_eq_true rfl) | exact rl0 (by with_reducible assumption) (Nat.le_of_ble_eq_true rfl) | exact rl2 (by with_reducible assumption) (Nat.le_of_ble_eq_true rfl) | exact rlz (by assumption))
  (k_with "ne9" => (refine neN ?_; (try dsimp only); first | (refine Nat.ne_of_lt ?_; focus ((repeat (first | with_reducible assumption | exact cj0 (by with_reducible assumption) | exact cj1 (by with_reducible assumption) | exact cj2 (by with_reducible assumption) | exact cj3 (by with_reducible assumption) | exact cj4 (by with_reducible assumption) | exact cj5 (by with_reducible assumption) | exact cj6 (by with_reducible assumption) | exact cj7 (by with_reducible assumption) | exact cj8 (by with_reducible assumption) | exact cj9 (by with_reducible assumption) | exact cj10 (by with_reducible assumption) | exact cj11 (by with_reducible assumption) | exact cj12 (by with_reducible assumption) | exact cj13 (by with_reducible assumption) | exact cj14 (by with_reducible assumption) | exact cj15 (by with_reducible assumption) | (refine lt_tr (by with_reducible assumption) ?_))); done)) | (refine Nat.ne_of_gt ?_; focus ((repeat (first | with_reducible assumption | exact cj0 (by with_reducible assumption) | exact cj1 (by with_reducible assumption) | exact cj2 (by with_reducible assumption) | exact cj3 (by with_reducible assumption) | exact cj4 (by with_reducible assumption) | exact cj5 (by with_reducible assumption) | exact cj6 (by with_reducible assumption) | exact cj7 (by with_reducible assumption) | exact cj8 (by with_reducible assumption) | exact cj9 (by with_reducible assumption) | exact cj10 (by with_reducible assumption) | exact cj11 (by with_reducible assumption) | exact cj12 (by with_reducible assumption) | exact cj13 (by with_reducible assumption) | exact cj14 (by with_reducible assumption) | exact cj15 (by with_reducible assumption) | (refine lt_tr (by with_reducible assumption) ?_))); done))))
  (k_with "mem9" => focus ((repeat (first | with_reducible assumption | exact List.Mem.head _ | refine List.mem_cons_of_mem _ ?_)); done))
  trivial

theorem allLt_back {d : Addr} {l : List (Addr × Obj)} (h : AllLt d l) : ∀ p ∈ l, p.1 < d := by
  induction l with
  | nil => intro p hp; cases hp
  | cons a r ih =>
    intro p hp
    rcases List.mem_cons.mp hp with rfl | hp
    · exact h.1
    · exact ih h.2 p hp
theorem news_drop2 {h₀ h : Heap} {L : Addr} {p q : Addr × Obj} {l : List (Addr × Obj)} (N : News h₀ L h (p :: q :: l)) : News h₀ L h (p :: l) := fun r hr => by
  rcases List.mem_cons.mp hr with rfl | hr
  · exact N _ (.head _)
  · exact N _ (.tail _ (.tail _ hr))
/-- replace, the running number kept above nought -/
theorem replace_pos {prog : Program} {w : World} {A : Around} {E : Value → Shared → Prop} {s : Shared} {x y z : PySem.Str} {t u v : Tok} {Q : Value → Shared → Prop} (h0 : s.toks ≠ 0) (hu : u ≠ 0) (hv : v ≠ 0) (huv : u ≠ v) (hyz : (y == z) = false) (hb : x.length + (x.length + 1) * z.length ≤ 16777216)
    (hq : ∀ t' k, k ≠ 0 → Q (.str (Txt.replace x y z) t') { s with toks := k }) : wpAny (model prog w) A (call (.builtin "str.replace") [.str x t, .str y u, .str z v]) Q E s := by
  have hfit := Nat.le_trans (Nat.add_le_add_left (Nat.mul_le_mul_right z.length (StrLaws.occ_length_le x y 0 x.length (x.length + 1))) x.length) hb
  refine call_gives PySem.F.slot_str_replace (typeIs_str _ _ _) PySem.F.entry_str_replace (PySem.F.args_str_replace_3 _ _ _)
    (gives_str_replace x y z t u v fun _ => ⟨by simp [hu, hv], by simp [huv], hyz, by unfold Builtin.Str.tooLong sizeLine; exact decide_eq_false (by omega)⟩) ?_
  unfold Txt.replace at hq
  split
  · rename_i c; simp only [c] at hq; exact hq _ _ h0
  · rename_i c; simp only [c] at hq; exact ⟨fits_replaced y hb, hq _ _ (Nat.succ_ne_zero _)⟩
/-- texts replaced -/
theorem rep_int8_1 : PySem.Txt.replace (PySem.Str.ofString "int8") (PySem.Str.ofString "uint") (PySem.Str.ofString "") = PySem.Str.ofString "int8" := by decide +kernel
theorem rep_int8_2 : PySem.Txt.replace (PySem.Str.ofString "int8") (PySem.Str.ofString "int") (PySem.Str.ofString "") = PySem.Str.ofString "8" := by decide +kernel
theorem rep_int16_1 : PySem.Txt.replace (PySem.Str.ofString "int16") (PySem.Str.ofString "uint") (PySem.Str.ofString "") = PySem.Str.ofString "int16" := by decide +kernel
theorem rep_int16_2 : PySem.Txt.replace (PySem.Str.ofString "int16") (PySem.Str.ofString "int") (PySem.Str.ofString "") = PySem.Str.ofString "16" := by decide +kernel
theorem rep_int32_1 : PySem.Txt.replace (PySem.Str.ofString "int32") (PySem.Str.ofString "uint") (PySem.Str.ofString "") = PySem.Str.ofString "int32" := by decide +kernel
theorem rep_int32_2 : PySem.Txt.replace (PySem.Str.ofString "int32") (PySem.Str.ofString "int") (PySem.Str.ofString "") = PySem.Str.ofString "32" := by decide +kernel
theorem rep_int64_1 : PySem.Txt.replace (PySem.Str.ofString "int64") (PySem.Str.ofString "uint") (PySem.Str.ofString "") = PySem.Str.ofString "int64" := by decide +kernel
theorem rep_int64_2 : PySem.Txt.replace (PySem.Str.ofString "int64") (PySem.Str.ofString "int") (PySem.Str.ofString "") = PySem.Str.ofString "64" := by decide +kernel
theorem rep_uint8_1 : PySem.Txt.replace (PySem.Str.ofString "uint8") (PySem.Str.ofString "uint") (PySem.Str.ofString "") = PySem.Str.ofString "8" := by decide +kernel
theorem rep_uint8_2 : PySem.Txt.replace (PySem.Str.ofString "8") (PySem.Str.ofString "int") (PySem.Str.ofString "") = PySem.Str.ofString "8" := by decide +kernel
theorem rep_uint16_1 : PySem.Txt.replace (PySem.Str.ofString "uint16") (PySem.Str.ofString "uint") (PySem.Str.ofString "") = PySem.Str.ofString "16" := by decide +kernel
theorem rep_uint16_2 : PySem.Txt.replace (PySem.Str.ofString "16") (PySem.Str.ofString "int") (PySem.Str.ofString "") = PySem.Str.ofString "16" := by decide +kernel
theorem rep_uint32_1 : PySem.Txt.replace (PySem.Str.ofString "uint32") (PySem.Str.ofString "uint") (PySem.Str.ofString "") = PySem.Str.ofString "32" := by decide +kernel
theorem rep_uint32_2 : PySem.Txt.replace (PySem.Str.ofString "32") (PySem.Str.ofString "int") (PySem.Str.ofString "") = PySem.Str.ofString "32" := by decide +kernel
theorem rep_uint64_1 : PySem.Txt.replace (PySem.Str.ofString "uint64") (PySem.Str.ofString "uint") (PySem.Str.ofString "") = PySem.Str.ofString "64" := by decide +kernel
theorem rep_uint64_2 : PySem.Txt.replace (PySem.Str.ofString "64") (PySem.Str.ofString "int") (PySem.Str.ofString "") = PySem.Str.ofString "64" := by decide +kernel

/-- what a reckoning gives -/
inductive Res where
  | int (i : Int)
  | bool (b : Bool)
  | fault
def Res.Val : Res → Value → Prop
  | .int i, v => ∃ t, v = .int i t
  | .bool b, v => v = .bool b
  | .fault, v => ∃ t, v = .str (PySem.Str.ofString "fault") t
def kept (lo hi n : Int) : Res := if lo ≤ n ∧ n ≤ hi then .int n else .fault
section
variable {w : World} {news : List (Addr × Obj)} {kv : Value} {u : Bool} {lo hi : Int}
theorem words_CC_6 : True := by
  (k_with "call builtin:str.replace" => ((refine replace_pos (Nat.succ_ne_zero _) (by first | assumption | exact Nat.succ_ne_zero _) (Nat.succ_ne_zero _) (Nat.ne_of_lt (Nat.lt_succ_self _)) (by decide +kernel) (by decide +kernel) ?_; intro _ _ _; simp only [rep_int8_1, rep_int8_2, rep_int16_1, rep_int16_2, rep_int32_1, rep_int32_2, rep_int64_1, rep_int64_2, rep_uint8_1, rep_uint8_2, rep_uint16_1, rep_uint16_2, rep_uint32_1, rep_uint32_2, rep_uint64_1, rep_uint64_2])))
  trivial
set_option maxHeartbeats 8000000 in
theorem bounds_c (hkn : KN kv u lo hi) : CallsR 1 w 178 [kv] news (fun v n' => ∃ a t1 t2, v = .ref a ∧ n' = (a, listOf #[.int lo t1, .int hi t2] 0) :: news ∧ ∀ p ∈ news, p.1 < a) False := by
  w_on
  unfold CallsR
  k_fill
  intro p loose mean mg mb dp un gd cn cs fa ccd cl outer A₀ base h₀ L m hS gS dS tS oS Q E hB hF hX hN hT hk hd hu hret hrais
  cases hkn
  case none =>
    refine wpAny_call ?_
    k_dflt (refine' code_def ?k1 ?k2 ?k3 ?k4 ?k5 ?kA ?kF ?kK ?k6 ?k7 ?k8 (?k9 : Binds1 _ _ (PySem.Str.ofString "kind") _) ?kB ?_ ?c2 ?c3 ?c4 ?c5; (case kA => exact rfl); (case kF => exact rfl); (case kK => assumption); (case k1 => k_asm); (case k2 => k_asm); (case k3 => k_asm); (case k4 => k_asm); (case k5 => k_asm); (case k6 => k_is); (case k7 => k_is); (case k8 => ktr_room); (case k9 => exact BindsTo.of_eq (by kernel_rfl)); (case c5 => decide); (case kB => exact locs rfl); (case c2 => exact rfl); (case c3 => exact rfl); (case c4 => exact rfl); k_whole; intro g' L' h' FG' F' N' B' X' T'; (try dsimp only [List.reverse_cons, List.reverse_nil, List.nil_append, List.cons_append, List.length_cons, List.length_nil] at F' ⊢); (try k_lift B'); (try k_fold))
    k_steps
    exact hret _ _ _ _ ⟨_, _, _, rfl, rfl, by assumption⟩ (by k_asm) (by refine news_cast (by assumption) ?_; simp only [toNat_512]; rfl)
  case some hkv =>
    obtain ⟨x, tx, b, tk, rfl, hb⟩ := hkv.bits
    have hit := hb.item
    have hlen := hb.len
    obtain ⟨hb1, hb2⟩ := hb.le
    refine wpAny_call ?_
    k_dflt (refine' code_def ?k1 ?k2 ?k3 ?k4 ?k5 ?kA ?kF ?kK ?k6 ?k7 ?k8 (?k9 : Binds1 _ _ (PySem.Str.ofString "kind") _) ?kB ?_ ?c2 ?c3 ?c4 ?c5; (case kA => exact rfl); (case kF => exact rfl); (case kK => assumption); (case k1 => k_asm); (case k2 => k_asm); (case k3 => k_asm); (case k4 => k_asm); (case k5 => k_asm); (case k6 => k_is); (case k7 => k_is); (case k8 => ktr_room); (case k9 => exact BindsTo.of_eq (by kernel_rfl)); (case c5 => decide); (case kB => exact locs rfl); (case c2 => exact rfl); (case c3 => exact rfl); (case c4 => exact rfl); k_whole; intro g' L' h' FG' F' N' B' X' T'; (try dsimp only [List.reverse_cons, List.reverse_nil, List.nil_append, List.cons_append, List.length_cons, List.length_nil] at F' ⊢); (try k_lift B'); (refine opQE (by passes_own) (fun Q9 E9 z9 y9 p9 => ?_)))
    refine seg0 ?_
    k_steps
    refine .mk ?_
    (try dsimp only)
    refine segO (fun s' => HeldC (fun G9 => ∀ h tk tb, s' = ⟨h, gS, dS, tk, oS⟩ → Fr g' L' h (fun y => if y = PySem.Str.ofString "bits" then some (Value.int b tb) else List.lookup y [(PySem.Str.ofString "kind", .str x tx)]) → News g' L' h news → G9)) (fun Q9 z9 => ?_) ?_
    · clear hit hlen hb1 hb2
      cases hb
      all_goals k_steps
      all_goals (try (refine pop_ (by assumption) ?_))
      all_goals exact HeldC.mk fun G9 k9 => k9 _ _ _ rfl (by k_asm) (by first | k_asm | exact news_tl (by k_asm) | exact news_drop2 (by k_asm))
    intro s' h9
    with_reducible refine heldC_ h9 ?_
    clear h9
    intro h tk tb e91 F N
    subst e91
    (try dsimp only)
    cases u
    · obtain ⟨rfl, rfl⟩ := hb.sig
      k_steps
      (try (refine pop_ (by assumption) ?_))
      (try (refine pop_ (by assumption) ?_))
      (try dsimp only)
      k_steps
      exact hret _ _ _ _ ⟨_, _, _, rfl, rfl, by first | assumption | exact allLt_back (And.right (by assumption))⟩ (by k_asm) (by k_asm)
    · obtain ⟨rfl, rfl⟩ := hb.uns
      k_steps
      (try (refine pop_ (by assumption) ?_))
      (try (refine pop_ (by assumption) ?_))
      (try dsimp only)
      k_steps
      exact hret _ _ _ _ ⟨_, _, _, rfl, rfl, by first | assumption | exact allLt_back (And.right (by assumption))⟩ (by k_asm) (by k_asm)
theorem words_CC_7 : True := by
  (k_with "call ref" => (k_here; (with_reducible show wpAny _ _ (call (Value.ref 178) _) _ _ _); k_dflt (refine callsR_v (by k_asm) (by k_asm) (by k_asm) (by k_asm) (by k_asm) ?_; refine RestR.mkF _ _ (bounds_c (by assumption)) (by first | exact rfl | assumption) (by ktr_room) (by ktr_units) ?_; k_whole); intro v9 n9 h9 tk9 R9 F9 N9; obtain ⟨a9, t1, t2, e9, e8, l9⟩ := R9; subst e9 e8; (try dsimp only); (try k_fold)))
  trivial
set_option maxHeartbeats 8000000 in
theorem kept_c {n : Int} {t : Tok} (hkn : KN kv u lo hi) : CallsR 2 w 192 [.int n t, kv] news (fun v n' => (kept lo hi n).Val v ∧ n' = news) False := by
  w_on
  unfold CallsR
  k_fill
  intro p loose mean mg mb dp un gd cn cs fa ccd cl outer A₀ base h₀ L m hS gS dS tS oS Q E hB hF hX hN hT hk hd hu hret hrais
  refine wpAny_call ?_
  k_dflt (refine' code_def ?k1 ?k2 ?k3 ?k4 ?k5 ?kA ?kF ?kK ?k6 ?k7 ?k8 (?k9 : Binds2 _ _ (PySem.Str.ofString "number") (PySem.Str.ofString "kind") _ _) ?kB ?_ ?c2 ?c3 ?c4 ?c5; (case kA => exact rfl); (case kF => exact rfl); (case kK => assumption); (case k1 => k_asm); (case k2 => k_asm); (case k3 => k_asm); (case k4 => k_asm); (case k5 => k_asm); (case k6 => k_is); (case k7 => k_is); (case k8 => ktr_room); (case k9 => exact BindsTo.of_eq (by kernel_rfl)); (case c5 => decide); (case kB => exact locs rfl); (case c2 => exact rfl); (case c3 => exact rfl); (case c4 => exact rfl); k_whole; intro g' L' h' FG' F' N' B' X' T'; (try dsimp only [List.reverse_cons, List.reverse_nil, List.nil_append, List.cons_append, List.length_cons, List.length_nil] at F' ⊢); (try k_lift B'); (try k_fold))
  k_steps
  all_goals (exact hret _ _ _ _ ⟨by simp only [decide_eq_true_eq, decide_eq_false_iff_not] at *; rw [kept]; split <;> first | exact ⟨_, rfl⟩ | (exfalso; omega), rfl⟩ (by k_asm) (by exact news_tl (by k_asm)))
end
end

-- CD
section
theorem start_CD : True := by
  w_top off
  k_with_none
  (k_with "eval Constant str" => refine kstr ?_)
  (k_with "eval Constant int" => refine kint ?_)
  (k_with "eval Constant bytes" => refine kbyt ?_)
  (k_with "binaryOp Add int int" => with_reducible refine kadd ?_)
  (k_with "binaryOp Sub int int" => with_reducible refine ksub ?_)
  (k_with "unaryOp USub int" => with_reducible refine kneg ?_)
  (k_with "storeName" => (k_here; k_dflt (refine kstL (by k_asm) (by k_asm) ?_ (rfl) (rfl); k_whole; intro h9 F9 N9; (try k_sweep))))
  (k_with "newTuple" => (k_here; k_dflt (refine ktuK (by k_asm) (by k_asm) ?_ (by kmk_size)); intro D7 h7 F7 N7 l7; (try k_lt l7); (try k_sweep)))
  (k_with "newList" => (k_here; k_dflt (refine kltK (by k_asm) (by k_asm) ?_ (by size_fits)); intro D7 h7 F7 N7 l7; (try k_lt l7); (try k_sweep)))
  (k_with "steps9" => repeat' (first | (k_unfold; (try dsimp only)) | (k_end; wrow_close) | (walk1 <;> (try dsimp only)) | (dsimp only; walk1) | (leave1; walk_say "STEP leave1"; try dsimp only) | (with_reducible refine popN (by assumption) ?_) | (with_reducible refine popR (by assumption) ?_) | ((refine pop_ (by assumption) ?_); (try dsimp only)) | fail "no step"))
  (k_with "all9" => focus ((repeat (first | exact List.forall_mem_nil _ | with_reducible assumption | (refine List.forall_mem_cons.mpr ⟨by k_ne, ?_⟩))); done))
  (k_with "room9" => first | exact rl1 (by with_reducible assumption) (Nat.le_of_ble_eq_true rfl) | exact rl0 (by with_reducible assumption) (Nat.le_of_ble_eq_true rfl) | exact rl2 (by with_reducible assumption) (Nat.le_of_ble_eq_true rfl) | exact rlz (by assumption))
  (k_with "ne9" => (refine neN ?_; (try dsimp only); first | (refine Nat.ne_of_lt ?_; focus ((repeat (first | with_reducible assumption | exact cj0 (by with_reducible assumption) | exact cj1 (by with_reducible assumption) | exact cj2 (by with_reducible assumption) | exact cj3 (by with_reducible assumption) | exact cj4 (by with_reducible assumption) | exact cj5 (by with_reducible assumption) | exact cj6 (by with_reducible assumption) | exact cj7 (by with_reducible assumption) | exact cj8 (by with_reducible assumption) | exact cj9 (by with_reducible assumption) | exact cj10 (by with_reducible assumption) | exact cj11 (by with_reducible assumption) | exact cj12 (by with_reducible assumption) | exact cj13 (by with_reducible assumption) | exact cj14 (by with_reducible assumption) | exact cj15 (by with_reducible assumption) | (refine lt_tr (by with_reducible assumption) ?_))); done)) | (refine Nat.ne_of_gt ?_; focus ((repeat (first | with_reducible assumption | exact cj0 (by with_reducible assumption) | exact cj1 (by with_reducible assumption) | exact cj2 (by with_reducible assumption) | exact cj3 (by with_reducible assumption) | exact cj4 (by with_reducible assumption) | exact cj5 (by with_reducible assumption) | exact cj6 (by with_reducible assumption) | exact cj7 (by with_reducible assumption) | exact cj8 (by with_reducible assumption) | exact cj9 (by with_reducible assumption) | exact cj10 (by with_reducible assumption) | exact cj11 (by with_reducible assumption) | exact cj12 (by with_reducible assumption) | exact cj13 (by with_reducible assumption) | exact cj14 (by with_reducible assumption) | exact cj15 (by with_reducible assumption) | (refine lt_tr (by with_reducible assumption) ?_))); done))))
  (k_with "mem9" => focus ((repeat (first | with_reducible assumption | exact List.Mem.head _ | refine List.mem_cons_of_mem _ ?_)); done))
  trivial

theorem getD_0 (a b : Int) : [a, b].getD 0 0 = a := rfl
theorem getD_1 (a b : Int) : [a, b].getD 1 0 = b := rfl

theorem words_CD_8 : True := by
  (k_with "steps9" => repeat' (first | (k_unfold; (try dsimp only [Int.reduceToNat, getD_0, getD_1])) | (k_end; wrow_close) | (walk1 <;> (try dsimp only [Int.reduceToNat, getD_0, getD_1])) | (dsimp only; walk1) | (leave1; walk_say "STEP leave1"; try dsimp only) | fail "no step"))
  trivial
theorem fmod_in (x : Int) : 0 ≤ x.fmod 2147483647 ∧ x.fmod 2147483647 < 2147483647 := ⟨Int.fmod_nonneg_of_pos _ (by decide), Int.fmod_lt_of_pos _ (by decide)⟩
theorem mulOk_fmod (x y : Int) : IntMulOk (x.fmod 2147483647) y := IntMulOk.of_left (intBits_le_64 (by have := fmod_in x; omega) (by have := fmod_in x; omega))
theorem fmod_top (x top : Int) (h : 2 ≤ top) : 0 ≤ x.fmod top ∧ x.fmod top < top := ⟨Int.fmod_nonneg_of_pos _ (by omega), Int.fmod_lt_of_pos _ (by omega)⟩
section
variable {w : World} {news : List (Addr × Obj)} {src : Addr}
theorem words_CD_9 : True := by
  (k_with "all9" => assumption)
  (k_with "binaryOp Mult int int" => ((refine PyProof.Rows.mul_int ?_ (mulOk_fmod _ _))))
  trivial
set_option maxHeartbeats 8000000 in
theorem take_c {a b top : Int} {ta tb tt : Tok} {c : Nat} (hne : ∀ p ∈ news, p.1 ≠ src) (ha : 0 ≤ a) (hb : 0 ≤ b) (hb2 : b < 2147483647) (ht : 2 ≤ top) (ht2 : top ≤ 64) : CallsR 1 w 163 [.ref src, .int top tt] ((src, listOf #[.int a ta, .int b tb] c) :: news) (fun v n' => ∃ r t a' ta' b' tb' c', v = .int r t ∧ 0 ≤ r ∧ r < top ∧ n' = (src, listOf #[.int a' ta', .int b' tb'] c') :: news ∧ 0 ≤ a' ∧ 0 ≤ b' ∧ b' < 2147483647) False := by
  w_on
  unfold CallsR
  k_fill
  intro p loose mean mg mb dp un gd cn cs fa ccd cl outer A₀ base h₀ L m hS gS dS tS oS Q E hB hF hX hN hT hk hd hu hret hrais
  refine wpAny_call ?_
  k_dflt (refine' code_def ?k1 ?k2 ?k3 ?k4 ?k5 ?kA ?kF ?kK ?k6 ?k7 ?k8 (?k9 : Binds2 _ _ (PySem.Str.ofString "source") (PySem.Str.ofString "top") _ _) ?kB ?_ ?c2 ?c3 ?c4 ?c5; (case kA => exact rfl); (case kF => exact rfl); (case kK => assumption); (case k1 => k_asm); (case k2 => k_asm); (case k3 => k_asm); (case k4 => k_asm); (case k5 => k_asm); (case k6 => k_is); (case k7 => k_is); (case k8 => ktr_room); (case k9 => exact BindsTo.of_eq (by kernel_rfl)); (case c5 => decide); (case kB => exact locs rfl); (case c2 => exact rfl); (case c3 => exact rfl); (case c4 => exact rfl); k_whole; intro g' L' h' FG' F' N' B' X' T'; (try dsimp only [List.reverse_cons, List.reverse_nil, List.nil_append, List.cons_append, List.length_cons, List.length_nil] at F' ⊢); (try k_lift B'); (try k_fold))
  k_steps
  all_goals (
    refine' hret _ _ _ _ ⟨_, _, _, _, _, _, _, rfl, ?_, ?_, rfl, ?_, ?_, ?_⟩ (by k_asm) (by k_asm)
    all_goals first | assumption | exact (fmod_top _ _ ht).1 | exact (fmod_top _ _ ht).2 | exact Int.fdiv_nonneg ha (by omega) | exact (fmod_in _).1 | exact (fmod_in _).2)
end
end

-- CE
section
theorem start_CE : True := by
  w_top off
  k_with_none
  (k_with "eval Constant str" => refine kstr ?_)
  (k_with "eval Constant int" => refine kint ?_)
  (k_with "eval Constant bytes" => refine kbyt ?_)
  (k_with "binaryOp Add int int" => with_reducible refine kadd ?_)
  (k_with "binaryOp Sub int int" => with_reducible refine ksub ?_)
  (k_with "unaryOp USub int" => with_reducible refine kneg ?_)
  (k_with "storeName" => (k_here; k_dflt (refine kstL (by k_asm) (by k_asm) ?_ (rfl) (rfl); k_whole; intro h9 F9 N9; (try k_sweep))))
  (k_with "newTuple" => (k_here; k_dflt (refine ktuK (by k_asm) (by k_asm) ?_ (by kmk_size)); intro D7 h7 F7 N7 l7; (try k_lt l7); (try k_sweep)))
  (k_with "newList" => (k_here; k_dflt (refine kltK (by k_asm) (by k_asm) ?_ (by size_fits)); intro D7 h7 F7 N7 l7; (try k_lt l7); (try k_sweep)))
  (k_with "steps9" => repeat' (first | (k_unfold; (try dsimp only)) | (k_end; wrow_close) | (walk1 <;> (try dsimp only)) | (dsimp only; walk1) | (leave1; walk_say "STEP leave1"; try dsimp only) | (with_reducible refine popN (by assumption) ?_) | (with_reducible refine popR (by assumption) ?_) | ((refine pop_ (by assumption) ?_); (try dsimp only)) | fail "no step"))
  (k_with "all9" => focus ((repeat (first | exact List.forall_mem_nil _ | with_reducible assumption | (refine List.forall_mem_cons.mpr ⟨by k_ne, ?_⟩))); done))
  (k_with "room9" => first | exact rl1 (by with_reducible assumption) (Nat.le_of_ble_eq_true rfl) | exact rl0 (by with_reducible assumption) (Nat.le_of_ble_eq_true rfl) | exact rl2 (by with_reducible assumption) (Nat.le_of_ble_eq_true rfl) | exact rlz (by assumption))
  (k_with "ne9" => (refine neN ?_; (try dsimp only); first | (refine Nat.ne_of_lt ?_; focus ((repeat (first | with_reducible assumption | exact cj0 (by with_reducible assumption) | exact cj1 (by with_reducible assumption) | exact cj2 (by with_reducible assumption) | exact cj3 (by with_reducible assumption) | exact cj4 (by with_reducible assumption) | exact cj5 (by with_reducible assumption) | exact cj6 (by with_reducible assumption) | exact cj7 (by with_reducible assumption) | exact cj8 (by with_reducible assumption) | exact cj9 (by with_reducible assumption) | exact cj10 (by with_reducible assumption) | exact cj11 (by with_reducible assumption) | exact cj12 (by with_reducible assumption) | exact cj13 (by with_reducible assumption) | exact cj14 (by with_reducible assumption) | exact cj15 (by with_reducible assumption) | (refine lt_tr (by with_reducible assumption) ?_))); done)) | (refine Nat.ne_of_gt ?_; focus ((repeat (first | with_reducible assumption | exact cj0 (by with_reducible assumption) | exact cj1 (by with_reducible assumption) | exact cj2 (by with_reducible assumption) | exact cj3 (by with_reducible assumption) | exact cj4 (by with_reducible assumption) | exact cj5 (by with_reducible assumption) | exact cj6 (by with_reducible assumption) | exact cj7 (by with_reducible assumption) | exact cj8 (by with_reducible assumption) | exact cj9 (by with_reducible assumption) | exact cj10 (by with_reducible assumption) | exact cj11 (by with_reducible assumption) | exact cj12 (by with_reducible assumption) | exact cj13 (by with_reducible assumption) | exact cj14 (by with_reducible assumption) | exact cj15 (by with_reducible assumption) | (refine lt_tr (by with_reducible assumption) ?_))); done))))
  (k_with "mem9" => focus ((repeat (first | with_reducible assumption | exact List.Mem.head _ | refine List.mem_cons_of_mem _ ?_)); done))
  trivial


/-- the source: two ints, within what the draws keep -/
def SrcO (o : Obj) : Prop := ∃ a b ta tb c, o = listOf #[.int a ta, .int b tb] c ∧ 0 ≤ a ∧ 0 ≤ b ∧ b < 2147483647
theorem take_s {w : World} {news : List (Addr × Obj)} {src : Addr} {o : Obj} {top : Int} {tt : Tok} (hne : ∀ p ∈ news, p.1 ≠ src) (ho : SrcO o) (ht : 2 ≤ top) (ht2 : top ≤ 64) :
    CallsR 1 w 163 [.ref src, .int top tt] ((src, o) :: news) (fun v n' => ∃ r t o', v = .int r t ∧ 0 ≤ r ∧ r < top ∧ n' = (src, o') :: news ∧ SrcO o') False := by
  obtain ⟨a, b, ta, tb, c, rfl, ha, hb, hb2⟩ := ho
  intro p loose mean mg mb dp un gd cn cs a' ccd cl outer A₀ base h₀ L m hS gS dS tS oS Q E hB hF hX hN hT hk hd hu hret hrais
  refine take_c hne ha hb hb2 ht ht2 _ _ _ _ _ _ _ _ _ _ _ _ _ _ _ _ _ _ _ _ _ _ _ _ _ _ hB hF hX hN hT hk hd hu (fun v n' h' tk' R F N => ?_) hrais
  obtain ⟨r, t, a2, ta2, b2, tb2, c2, rfl, h1, h2, rfl, h3, h4, h5⟩ := R
  exact hret _ _ _ _ ⟨r, t, _, rfl, h1, h2, rfl, a2, b2, ta2, tb2, c2, rfl, h3, h4, h5⟩ F N

theorem item_at {prog : Program} {w : World} {A : Around} {E : Value → Shared → Prop} {s : Shared} {value slice : PySem.Expr} {l : Addr} {vs : Array Value} {k : Int} {u : Tok} {Q : Value → Shared → Prop} (hl : s.heap.IsList l vs) (h0 : 0 ≤ k) (hk : k < (vs.size : Int)) (hz : (vs.size : Int) ≤ 64)
    (h : ∀ v, v ∈ vs.toList → Q v s) (hs : subscripted slice false (.ref l) (.int k u) = operate [.ref l, .int k u] (getItem (.ref l) (.int k u)) := by with_unfolding_all rfl) :
    wpAny (model prog w) A (subscriptTail value slice (.ref l) (.int k u)) Q E s := by
  have hlt : k.toNat < vs.size := by omega
  have hx : vs[k.toNat]? = some vs[k.toNat] := Array.getElem?_eq_getElem hlt
  exact tail_any hl.typeIs PySem.F.slot_list_getitem.lookup (wpAny_getItem_list hl h0 (by omega) hx (h _ (by simp))) hs
theorem len_led {prog : Program} {w : World} {A : Around} {E : Value → Shared → Prop} {s : Shared} {h₀ : Heap} {L l : Addr} {news : List (Addr × Obj)} {p : Addr × Obj} {vs : Array Value} {c : Nat} {Q : Value → Shared → Prop} (hm : (l, listOf vs c) ∈ news) (N : News h₀ L s.heap (p :: news)) (hfit : (vs.size : Int) < 2 ^ 63)
    (h : Q (.int vs.size (s.toks + 1)) { s with toks := s.toks + 1 + 1 }) : wpAny (model prog w) A (call (.builtin "len") [.ref l]) Q E s := call_len_list (News.isList N (.tail _ hm)) hfit h
theorem item_led {prog : Program} {w : World} {A : Around} {E : Value → Shared → Prop} {s : Shared} {h₀ : Heap} {L l : Addr} {news : List (Addr × Obj)} {p : Addr × Obj} {value slice : PySem.Expr} {vs : Array Value} {c : Nat} {k : Int} {u : Tok} {Q : Value → Shared → Prop} (hm : (l, listOf vs c) ∈ news) (N : News h₀ L s.heap (p :: news)) (h0 : 0 ≤ k) (hk : k < (vs.size : Int)) (hz : (vs.size : Int) ≤ 64)
    (h : ∀ v, v ∈ vs.toList → Q v s) (hs : subscripted slice false (.ref l) (.int k u) = operate [.ref l, .int k u] (getItem (.ref l) (.int k u)) := by with_unfolding_all rfl) :
    wpAny (model prog w) A (subscriptTail value slice (.ref l) (.int k u)) Q E s := item_at (News.isList N (.tail _ hm)) h0 hk hz h hs
section
variable {w : World} {news : List (Addr × Obj)} {src : Addr}
theorem words_CE_10 : True := by
  (k_with "all9" => assumption)
  (k_with "call ref" => (k_here; (with_reducible show wpAny _ _ (call (Value.ref 163) _) _ _ _); k_dflt (refine callsR_v (by k_asm) (by k_asm) (by k_asm) (by k_asm) (by k_asm) ?_; refine RestR.mkF _ _ (take_s (by assumption) (by assumption) (by assumption) (by assumption)) (by first | exact rfl | assumption) (by ktr_room) (by ktr_units) ?_; k_whole); intro v9 n9 h9 tk9 R9 F9 N9; obtain ⟨r9, t9, o9, e9, x9, y9, e8, z9⟩ := R9; subst e9 e8; (try dsimp only); (try k_fold)))
  (k_with "subscriptTail" => ((refine item_led (by assumption) (by k_asm) (by assumption) (by assumption) (by assumption) ?_ (by with_unfolding_all rfl); intro v9 hv9)))
  (k_with "call builtin:len" => ((refine len_led (by assumption) (by k_asm) (by omega) ?_)))
  trivial
set_option maxHeartbeats 8000000 in
theorem one_c {o : Obj} {l : Addr} {vs : Array Value} {c : Nat} (hne : ∀ p ∈ news, p.1 ≠ src) (ho : SrcO o) (hl : (l, listOf vs c) ∈ news) (hs : (2 : Int) ≤ (vs.size : Int)) (hs2 : (vs.size : Int) ≤ 64) : CallsR 2 w 170 [.ref src, .ref l] ((src, o) :: news) (fun v n' => ∃ o', v ∈ vs.toList ∧ n' = (src, o') :: news ∧ SrcO o') False := by
  w_on
  unfold CallsR
  k_fill
  intro p loose mean mg mb dp un gd cn cs fa ccd cl outer A₀ base h₀ L m hS gS dS tS oS Q E hB hF hX hN hT hk hd hu hret hrais
  refine wpAny_call ?_
  k_dflt (refine' code_def ?k1 ?k2 ?k3 ?k4 ?k5 ?kA ?kF ?kK ?k6 ?k7 ?k8 (?k9 : Binds2 _ _ (PySem.Str.ofString "source") (PySem.Str.ofString "things") _ _) ?kB ?_ ?c2 ?c3 ?c4 ?c5; (case kA => exact rfl); (case kF => exact rfl); (case kK => assumption); (case k1 => k_asm); (case k2 => k_asm); (case k3 => k_asm); (case k4 => k_asm); (case k5 => k_asm); (case k6 => k_is); (case k7 => k_is); (case k8 => ktr_room); (case k9 => exact BindsTo.of_eq (by kernel_rfl)); (case c5 => decide); (case kB => exact locs rfl); (case c2 => exact rfl); (case c3 => exact rfl); (case c4 => exact rfl); k_whole; intro g' L' h' FG' F' N' B' X' T'; (try dsimp only [List.reverse_cons, List.reverse_nil, List.nil_append, List.cons_append, List.length_cons, List.length_nil] at F' ⊢); (try k_lift B'); (try k_fold))
  k_steps
  exact hret _ _ _ _ ⟨_, by assumption, rfl, by assumption⟩ (by k_asm) (by k_asm)
abbrev kindsArr : Array Value := #[.str (PySem.Str.ofString "int") 431, .str (PySem.Str.ofString "int8") 432, .str (PySem.Str.ofString "int16") 433, .str (PySem.Str.ofString "int32") 434, .str (PySem.Str.ofString "int64") 435, .str (PySem.Str.ofString "uint") 436, .str (PySem.Str.ofString "uint8") 437, .str (PySem.Str.ofString "uint16") 438, .str (PySem.Str.ofString "uint32") 439, .str (PySem.Str.ofString "uint64") 440]
theorem lookup_171 (P : Params) : (Mine.hd.heap_39 P).lookup 171 = some (listOf kindsArr 0) := by kernel_rfl
theorem kinds_kv : ∀ v ∈ kindsArr.toList, ∃ u lo hi, KV v u lo hi := by
  intro v hv
  simp only [List.mem_cons, List.not_mem_nil, or_false] at hv
  rcases hv with rfl | rfl | rfl | rfl | rfl | rfl | rfl | rfl | rfl | rfl
  · exact ⟨_, _, _, .int _⟩
  · exact ⟨_, _, _, .int8 _⟩
  · exact ⟨_, _, _, .int16 _⟩
  · exact ⟨_, _, _, .int32 _⟩
  · exact ⟨_, _, _, .int64 _⟩
  · exact ⟨_, _, _, .uint _⟩
  · exact ⟨_, _, _, .uint8 _⟩
  · exact ⟨_, _, _, .uint16 _⟩
  · exact ⟨_, _, _, .uint32 _⟩
  · exact ⟨_, _, _, .uint64 _⟩
theorem top_list {P : Params} {h₀ h : Heap} {L : Addr} {m : PySem.Str → Option Value} (X : (Mine.hd.heap_39 P).In h₀) (F : Fr h₀ L h m) : h.IsList 171 kindsArr := ⟨_, F.keep _ _ (X _ _ (lookup_171 _)), rfl, _, rfl⟩
theorem len_top {w : World} {A : Around} {E : Value → Shared → Prop} {s : Shared} {h₀ : Heap} {L : Addr} {m : PySem.Str → Option Value} {prog : Program} {P : Params} {Q : Value → Shared → Prop} (X : (Mine.hd.heap_39 P).In h₀) (F : Fr h₀ L s.heap m)
    (h : Q (.int 10 (s.toks + 1)) { s with toks := s.toks + 1 + 1 }) : wpAny (model prog w) A (call (.builtin "len") [.ref 171]) Q E s := call_len_list (top_list X F) (by decide) h
theorem item_top {w : World} {A : Around} {E : Value → Shared → Prop} {s : Shared} {h₀ : Heap} {L : Addr} {m : PySem.Str → Option Value} {prog : Program} {P : Params} {value slice : PySem.Expr} {k : Int} {u : Tok} {Q : Value → Shared → Prop} (X : (Mine.hd.heap_39 P).In h₀) (F : Fr h₀ L s.heap m) (h0 : 0 ≤ k) (hk : k < 10)
    (h : ∀ v, (∃ u lo hi, KV v u lo hi) → Q v s) (hs : subscripted slice false (.ref 171) (.int k u) = operate [.ref 171, .int k u] (getItem (.ref 171) (.int k u)) := by with_unfolding_all rfl) :
    wpAny (model prog w) A (subscriptTail value slice (.ref 171) (.int k u)) Q E s := item_at (top_list X F) h0 hk (by decide) (fun v hv => h v (kinds_kv v hv)) hs
theorem words_CE_11 : True := by
  (k_with "call builtin:len" => (k_dflt (refine len_top (by k_asm) (by k_asm) ?_)))
  (k_with "subscriptTail" => (k_dflt (refine item_top (by k_asm) (by k_asm) (by assumption) (by assumption) ?_ (by with_unfolding_all rfl); intro v9 hv9)))
  (k_with "call ref" => (k_here; (with_reducible show wpAny _ _ (call (Value.ref 163) _) _ _ _); k_dflt (refine callsR_v (by k_asm) (by k_asm) (by k_asm) (by k_asm) (by k_asm) ?_; refine RestR.mkF _ _ (take_s (by assumption) (by assumption) (by decide) (by decide)) (by first | exact rfl | assumption) (by ktr_room) (by ktr_units) ?_; k_whole); intro v9 n9 h9 tk9 R9 F9 N9; obtain ⟨r9, t9, o9, e9, x9, y9, e8, z9⟩ := R9; subst e9 e8; (try dsimp only); (try k_fold)))
  trivial
set_option maxHeartbeats 8000000 in
theorem one_top_c {o : Obj} (hne : ∀ p ∈ news, p.1 ≠ src) (ho : SrcO o) : CallsR 2 w 170 [.ref src, .ref 171] ((src, o) :: news) (fun v n' => ∃ o', (∃ u lo hi, KV v u lo hi) ∧ n' = (src, o') :: news ∧ SrcO o') False := by
  w_on
  unfold CallsR
  k_fill
  intro p loose mean mg mb dp un gd cn cs fa ccd cl outer A₀ base h₀ L m hS gS dS tS oS Q E hB hF hX hN hT hk hd hu hret hrais
  refine wpAny_call ?_
  k_dflt (refine' code_def ?k1 ?k2 ?k3 ?k4 ?k5 ?kA ?kF ?kK ?k6 ?k7 ?k8 (?k9 : Binds2 _ _ (PySem.Str.ofString "source") (PySem.Str.ofString "things") _ _) ?kB ?_ ?c2 ?c3 ?c4 ?c5; (case kA => exact rfl); (case kF => exact rfl); (case kK => assumption); (case k1 => k_asm); (case k2 => k_asm); (case k3 => k_asm); (case k4 => k_asm); (case k5 => k_asm); (case k6 => k_is); (case k7 => k_is); (case k8 => ktr_room); (case k9 => exact BindsTo.of_eq (by kernel_rfl)); (case c5 => decide); (case kB => exact locs rfl); (case c2 => exact rfl); (case c3 => exact rfl); (case c4 => exact rfl); k_whole; intro g' L' h' FG' F' N' B' X' T'; (try dsimp only [List.reverse_cons, List.reverse_nil, List.nil_append, List.cons_append, List.length_cons, List.length_nil] at F' ⊢); (try k_lift B'); (try k_fold))
  k_steps
  exact hret _ _ _ _ ⟨_, by assumption, rfl, by assumption⟩ (by k_asm) (by k_asm)
end
end

-- CF
section
theorem start_CF : True := by
  w_top off
  k_with_none
  (k_with "eval Constant str" => refine kstr ?_)
  (k_with "eval Constant int" => refine kint ?_)
  (k_with "eval Constant bytes" => refine kbyt ?_)
  (k_with "binaryOp Add int int" => with_reducible refine kadd ?_)
  (k_with "binaryOp Sub int int" => with_reducible refine ksub ?_)
  (k_with "unaryOp USub int" => with_reducible refine kneg ?_)
  (k_with "storeName" => (k_here; k_dflt (refine kstL (by k_asm) (by k_asm) ?_ (rfl) (rfl); k_whole; intro h9 F9 N9; (try k_sweep))))
  (k_with "newTuple" => (k_here; k_dflt (refine ktuK (by k_asm) (by k_asm) ?_ (by kmk_size)); intro D7 h7 F7 N7 l7; (try k_lt l7); (try k_sweep)))
  (k_with "newList" => (k_here; k_dflt (refine kltK (by k_asm) (by k_asm) ?_ (by size_fits)); intro D7 h7 F7 N7 l7; (try k_lt l7); (try k_sweep)))
  (k_with "steps9" => repeat' (first | (k_unfold; (try dsimp only)) | (k_end; wrow_close) | (walk1 <;> (try dsimp only)) | (dsimp only; walk1) | (leave1; walk_say "STEP leave1"; try dsimp only) | (with_reducible refine popN (by assumption) ?_) | (with_reducible refine popR (by assumption) ?_) | ((refine pop_ (by assumption) ?_); (try dsimp only)) | fail "no step"))
  (k_with "all9" => focus ((repeat (first | exact List.forall_mem_nil _ | with_reducible assumption | (refine List.forall_mem_cons.mpr ⟨by k_ne, ?_⟩))); done))
  (k_with "room9" => first | exact rl1 (by with_reducible assumption) (Nat.le_of_ble_eq_true rfl) | exact rl0 (by with_reducible assumption) (Nat.le_of_ble_eq_true rfl) | exact rl2 (by with_reducible assumption) (Nat.le_of_ble_eq_true rfl) | exact rlz (by assumption))
  (k_with "ne9" => (refine neN ?_; (try dsimp only); first | (refine Nat.ne_of_lt ?_; focus ((repeat (first | with_reducible assumption | exact cj0 (by with_reducible assumption) | exact cj1 (by with_reducible assumption) | exact cj2 (by with_reducible assumption) | exact cj3 (by with_reducible assumption) | exact cj4 (by with_reducible assumption) | exact cj5 (by with_reducible assumption) | exact cj6 (by with_reducible assumption) | exact cj7 (by with_reducible assumption) | exact cj8 (by with_reducible assumption) | exact cj9 (by with_reducible assumption) | exact cj10 (by with_reducible assumption) | exact cj11 (by with_reducible assumption) | exact cj12 (by with_reducible assumption) | exact cj13 (by with_reducible assumption) | exact cj14 (by with_reducible assumption) | exact cj15 (by with_reducible assumption) | (refine lt_tr (by with_reducible assumption) ?_))); done)) | (refine Nat.ne_of_gt ?_; focus ((repeat (first | with_reducible assumption | exact cj0 (by with_reducible assumption) | exact cj1 (by with_reducible assumption) | exact cj2 (by with_reducible assumption) | exact cj3 (by with_reducible assumption) | exact cj4 (by with_reducible assumption) | exact cj5 (by with_reducible assumption) | exact cj6 (by with_reducible assumption) | exact cj7 (by with_reducible assumption) | exact cj8 (by with_reducible assumption) | exact cj9 (by with_reducible assumption) | exact cj10 (by with_reducible assumption) | exact cj11 (by with_reducible assumption) | exact cj12 (by with_reducible assumption) | exact cj13 (by with_reducible assumption) | exact cj14 (by with_reducible assumption) | exact cj15 (by with_reducible assumption) | (refine lt_tr (by with_reducible assumption) ?_))); done))))
  (k_with "mem9" => focus ((repeat (first | with_reducible assumption | exact List.Mem.head _ | refine List.mem_cons_of_mem _ ?_)); done))
  trivial


theorem news_rot1 {h₀ h : Heap} {L : Addr} {p x : Addr × Obj} {l : List (Addr × Obj)} (N : News h₀ L h (p :: x :: l)) : News h₀ L h (x :: p :: l) := fun r hr => N r (by simp only [List.mem_cons] at hr ⊢; rcases hr with a | a | a <;> simp only [a, true_or, or_true])
theorem news_rot2 {h₀ h : Heap} {L : Addr} {p q x : Addr × Obj} {l : List (Addr × Obj)} (N : News h₀ L h (p :: q :: x :: l)) : News h₀ L h (x :: p :: q :: l) := fun r hr => N r (by simp only [List.mem_cons] at hr ⊢; rcases hr with a | a | a | a <;> simp only [a, true_or, or_true])
theorem KV.bds {v : Value} {u : Bool} {lo hi : Int} (h : KV v u lo hi) : lo ≤ 0 ∧ 127 ≤ hi ∧ -9223372036854775808 ≤ lo ∧ hi ≤ 18446744073709551615 ∧ (u = true → lo = 0) ∧ (u = false → lo = -hi - 1) := by cases h <;> decide
def Nine (lo hi : Int) (v : Value) : Prop := ∃ x t, v = .int x t ∧ (lo ≤ x ∧ x ≤ hi) ∧ -9223372036854775808 ≤ x ∧ x < 18446744073709551616
theorem nine_fin {lo hi x : Int} {t : Tok} (h3 : -9223372036854775808 ≤ lo) (h4 : hi ≤ 18446744073709551615) (h : lo ≤ x ∧ x ≤ hi) : Nine lo hi (.int x t) :=
  ⟨x, t, rfl, h, Int.le_trans h3 h.1, Int.lt_of_le_of_lt (Int.le_trans h.2 h4) (by decide)⟩
theorem nine_max {lo hi c : Int} (h1 : lo ≤ 0) (h2 : 127 ≤ hi) (hc : c ≤ 0) : lo ≤ (if c > lo then c else lo) ∧ (if c > lo then c else lo) ≤ hi := by
  split <;> omega
theorem nine_less {lo hi : Int} (h1 : lo ≤ 0) (h2 : 127 ≤ hi) : (lo ≤ lo ∧ lo ≤ hi) ∧ (lo ≤ hi ∧ hi ≤ hi) ∧ (lo ≤ 0 ∧ 0 ≤ hi) ∧ (lo ≤ 1 ∧ 1 ≤ hi) ∧ (lo ≤ 7 ∧ 7 ≤ hi) ∧ (lo ≤ hi - 1 ∧ hi - 1 ≤ hi) ∧ lo ≤ hi / 3 ∧ hi / 3 ≤ hi :=
  have h0 : (0 : Int) ≤ hi := Int.le_trans (by decide) h2
  ⟨⟨Int.le_refl _, Int.le_trans h1 h0⟩, ⟨Int.le_trans h1 h0, Int.le_refl _⟩, ⟨h1, h0⟩, ⟨Int.le_trans h1 (by decide), Int.le_trans (by decide) h2⟩, ⟨Int.le_trans h1 (by decide), Int.le_trans (by decide) h2⟩, ⟨Int.le_trans h1 (Int.le_sub_right_of_add_le (Int.le_trans (by decide) h2)), Int.sub_le_self _ (by decide)⟩, Int.le_trans h1 (Int.ediv_nonneg h0 (by decide)), Int.ediv_le_self _ h0⟩
theorem number_nine {lo hi : Int} {v : Value} {t1 t2 t3 t4 t5 t6 t7 t8 t9 : Tok} (h1 : lo ≤ 0) (h2 : 127 ≤ hi) (h3 : -9223372036854775808 ≤ lo) (h4 : hi ≤ 18446744073709551615)
    (m : v ∈ #[Value.int lo t1, .int hi t2, .int 0 t3, .int 1 t4, .int 7 t5, .int (if -1 > lo then -1 else lo) t6, .int (if -8 > lo then -8 else lo) t7, .int (hi - 1) t8, .int (hi.fdiv 3) t9].toList) :
    ∃ x t, v = .int x t ∧ (lo ≤ x ∧ x ≤ hi) ∧ -9223372036854775808 ≤ x ∧ x < 18446744073709551616 := by
  have hd : hi.fdiv 3 = hi / 3 := Int.fdiv_eq_ediv_of_nonneg _ (by decide)
  obtain ⟨c1, c2, c3, c4, c5, c8, c9⟩ := nine_less h1 h2
  exact List.forall_mem_cons.mpr ⟨nine_fin h3 h4 c1, List.forall_mem_cons.mpr ⟨nine_fin h3 h4 c2, List.forall_mem_cons.mpr ⟨nine_fin h3 h4 c3, List.forall_mem_cons.mpr ⟨nine_fin h3 h4 c4, List.forall_mem_cons.mpr ⟨nine_fin h3 h4 c5,
    List.forall_mem_cons.mpr ⟨nine_fin h3 h4 (nine_max h1 h2 (by decide)), List.forall_mem_cons.mpr ⟨nine_fin h3 h4 (nine_max h1 h2 (by decide)), List.forall_mem_cons.mpr ⟨nine_fin h3 h4 c8, List.forall_mem_cons.mpr ⟨nine_fin h3 h4 (by rw [hd]; exact c9), List.forall_mem_nil _⟩⟩⟩⟩⟩⟩⟩⟩⟩ v m
theorem one_use {w : World} {src l : Addr} {o : Obj} {vs : Array Value} {c : Nat} {news : List (Addr × Obj)} {p : Program} {loose : List PySem.Str} {mean : ExcName → Option Value} {mg mb : PySem.Str → Option Value} {dp un : Nat} {gd : Option (List Code)} {cn : PySem.Str} {cs : Scope} {a : Addr} {ccd : Value} {cl : List (PySem.Str × Addr)} {outer : List Env} {A₀ : Around} {base h₀ : Heap} {L : Addr} {m : PySem.Str → Option Value} {hp : Heap} {gn : Array GenState} {dr : Drawn} {tk : Nat} {os : OsState} {Q E : Value → Shared → Prop}
    (B : Below A₀ base outer h₀) (F : Fr h₀ L hp m) (X : (Mine.hd.heap_39 w.params).In h₀) (N : News h₀ L hp ((src, o) :: news)) (T : Top p loose mean mg mb h₀)
    (hne : ∀ p ∈ news, p.1 ≠ src) (ho : SrcO o) (hl : (l, listOf vs c) ∈ news) (hs : (2 : Int) ≤ (vs.size : Int)) (hs2 : (vs.size : Int) ≤ 64) (hk : cs.kind = .function)
    (hd : dp + 2 < recursionLimit) (hu : un + 20 * 2 < cLine)
    (hret : ∀ v o' h' tk', v ∈ vs.toList → SrcO o' → Fr h₀ L h' m → News h₀ L h' ((src, o') :: news) → Q v ⟨h', gn, dr, tk', os⟩) :
    wpAny (model Challenge.rw_on0013_01.row.prog w) (ktrTop dp un gd cn cs L a ccd cl outer) (call (.ref 170) [.ref src, .ref l]) Q E ⟨hp, gn, dr, tk, os⟩ :=
  callsR_use (one_c hne ho hl hs hs2) B F X N T hk hd hu (fun v n h' tk' ⟨o', a, b, z⟩ F' N' => hret v o' h' tk' a z F' (b ▸ N')) (fun _ _ _ _ z => z.elim)
section
variable {w : World} {news : List (Addr × Obj)} {src : Addr} {kv : Value} {u : Bool} {lo hi : Int}
theorem words_CF_12 : True := by
  (k_with "all9" => assumption)
  (k_with "call ref" => (k_here; (with_reducible show wpAny _ _ (call (Value.ref 178) _) _ _ _); k_dflt (refine callsR_v (by k_asm) (by k_asm) (by k_asm) (by k_asm) (by k_asm) ?_; refine RestR.mkF _ _ (bounds_c (by first | assumption | exact KN.some (.int64 _))) (by first | exact rfl | assumption) (by ktr_room) (by ktr_units) ?_; k_whole); intro v9 n9 h9 tk9 R9 F9 N9; obtain ⟨a9, t1, t2, e9, e8, l9⟩ := R9; subst e9 e8; k_lt l9; (try dsimp only); (try k_fold)))
  (k_with "call ref" => ((k_here; (with_reducible show wpAny _ _ (call (Value.ref 170) _) _ _ _); k_dflt (refine one_use (by k_asm) (by k_asm) (by k_asm) (by first | k_asm | exact news_rot1 (by k_asm) | exact news_rot2 (by k_asm)) (by k_asm) (by k_all) (by assumption) (by k_mem) (by simp) (by simp) (by first | exact rfl | assumption) (by ktr_room) (by ktr_units) ?_; k_whole); intro v9 o9 h9 tk9 m9 z9 F9 N9; (try dsimp only); (try k_fold))))
  trivial
set_option maxHeartbeats 8000000 in
theorem number_c {o : Obj} (hkn : KN kv u lo hi) (hne : ∀ p ∈ news, p.1 ≠ src) (ho : SrcO o) : CallsR 4 w 185 [.ref src, kv] ((src, o) :: news) (fun v n' => ∃ x t o', v = .int x t ∧ (lo ≤ x ∧ x ≤ hi) ∧ (-9223372036854775808 ≤ x ∧ x < 18446744073709551616) ∧ n' = (src, o') :: news ∧ SrcO o') False := by
  w_on
  unfold CallsR
  k_fill
  intro p loose mean mg mb dp un gd cn cs fa ccd cl outer A₀ base h₀ L m hS gS dS tS oS Q E hB hF hX hN hT hk hd hu hret hrais
  have hk64 : KN (.str (PySem.Str.ofString "int64") 0) false (-9223372036854775808) 9223372036854775807 := .some (.int64 _)
  have hkn0 := hkn
  refine wpAny_call ?_
  k_dflt (refine' code_def ?k1 ?k2 ?k3 ?k4 ?k5 ?kA ?kF ?kK ?k6 ?k7 ?k8 (?k9 : Binds2 _ _ (PySem.Str.ofString "source") (PySem.Str.ofString "kind") _ _) ?kB ?_ ?c2 ?c3 ?c4 ?c5; (case kA => exact rfl); (case kF => exact rfl); (case kK => assumption); (case k1 => k_asm); (case k2 => k_asm); (case k3 => k_asm); (case k4 => k_asm); (case k5 => k_asm); (case k6 => k_is); (case k7 => k_is); (case k8 => ktr_room); (case k9 => exact BindsTo.of_eq (by kernel_rfl)); (case c5 => decide); (case kB => exact locs rfl); (case c2 => exact rfl); (case c3 => exact rfl); (case c4 => exact rfl); k_whole; intro g' L' h' FG' F' N' B' X' T'; (try dsimp only [List.reverse_cons, List.reverse_nil, List.nil_append, List.cons_append, List.length_cons, List.length_nil] at F' ⊢); (try k_lift B'); (refine opQE (by passes_own) (fun Q9 E9 z9 y9 p9 => ?_)))
  refine segO (fun s' => HeldC (fun G9 => ∀ h tk (lo' hi' : Int) tl th, s' = ⟨h, gS, dS, tk, oS⟩ → Fr g' L' h (fun y => if y = PySem.Str.ofString "high" then some (Value.int hi' th) else if y = PySem.Str.ofString "low" then some (Value.int lo' tl) else List.lookup y [(PySem.Str.ofString "kind", kv), (PySem.Str.ofString "source", .ref src)]) → News g' L' h ((src, o) :: news) → (lo' ≤ 0 ∧ 127 ≤ hi' ∧ -9223372036854775808 ≤ lo' ∧ hi' ≤ 18446744073709551615) → (∀ x, lo' ≤ x ∧ x ≤ hi' → lo ≤ x ∧ x ≤ hi) → G9)) (fun Q9 z9 => ?_) ?_
  · cases hkn
    case none =>
      k_steps
      (try (refine pop_ (by assumption) ?_))
      refine HeldC.mk fun G9 k9 => k9 _ _ _ _ _ _ rfl (by k_asm) (by first | k_asm | exact news_tl (by k_asm)) ⟨by decide, by decide, by decide, by decide⟩ (fun x hx => ?_)
      have := (show (2 : Int) ^ 64 ≤ 2 ^ 512 by decide +kernel)
      generalize (2 : Int) ^ 512 = B at *
      omega
    case some hkv =>
      have hb := hkv.bds
      obtain ⟨x, tx, rfl, hx6⟩ := hkv.text
      k_steps
      (try (refine pop_ (by assumption) ?_))
      exact HeldC.mk fun G9 k9 => k9 _ _ _ _ _ _ rfl (by k_asm) (by first | k_asm | exact news_tl (by k_asm)) ⟨hb.1, hb.2.1, hb.2.2.1, hb.2.2.2.1⟩ (fun x hx => hx)
  intro s' h9
  with_reducible refine heldC_ h9 ?_
  clear h9
  intro h tk lo' hi' tl th e91 F N hb hin
  subst e91
  clear F' N'
  (try dsimp only)
  k_steps
  (try (refine pop_ (by assumption) ?_))
  (try dsimp only)
  k_steps
  obtain ⟨x, t, e, b1, b2⟩ := number_nine hb.1 hb.2.1 hb.2.2.1 hb.2.2.2 (by assumption)
  exact hret _ _ _ _ ⟨x, t, _, e, hin x b1, b2, rfl, by assumption⟩ (by k_asm) (by first | k_asm | exact news_drop2 (by k_asm) | exact news_drop2 (news_drop2 (by k_asm)))
end
end

-- CG
section
theorem start_CG : True := by
  w_top off
  k_with_none
  (k_with "eval Constant str" => refine kstr ?_)
  (k_with "eval Constant int" => refine kint ?_)
  (k_with "eval Constant bytes" => refine kbyt ?_)
  (k_with "binaryOp Add int int" => with_reducible refine kadd ?_)
  (k_with "binaryOp Sub int int" => with_reducible refine ksub ?_)
  (k_with "unaryOp USub int" => with_reducible refine kneg ?_)
  (k_with "storeName" => (k_here; k_dflt (refine kstL (by k_asm) (by k_asm) ?_ (rfl) (rfl); k_whole; intro h9 F9 N9; (try k_sweep))))
  (k_with "newTuple" => (k_here; k_dflt (refine ktuK (by k_asm) (by k_asm) ?_ (by kmk_size)); intro D7 h7 F7 N7 l7; (try k_lt l7); (try k_sweep)))
  (k_with "newList" => (k_here; k_dflt (refine kltK (by k_asm) (by k_asm) ?_ (by size_fits)); intro D7 h7 F7 N7 l7; (try k_lt l7); (try k_sweep)))
  (k_with "steps9" => repeat' (first | (k_unfold; (try dsimp only)) | (k_end; wrow_close) | (walk1 <;> (try dsimp only)) | (dsimp only; walk1) | (leave1; walk_say "STEP leave1"; try dsimp only) | (with_reducible refine popN (by assumption) ?_) | (with_reducible refine popR (by assumption) ?_) | ((refine pop_ (by assumption) ?_); (try dsimp only)) | fail "no step"))
  (k_with "all9" => focus ((repeat (first | exact List.forall_mem_nil _ | with_reducible assumption | (refine List.forall_mem_cons.mpr ⟨by k_ne, ?_⟩))); done))
  (k_with "room9" => first | exact rl1 (by with_reducible assumption) (Nat.le_of_ble_eq_true rfl) | exact rl0 (by with_reducible assumption) (Nat.le_of_ble_eq_true rfl) | exact rl2 (by with_reducible assumption) (Nat.le_of_ble_eq_true rfl) | exact rlz (by assumption))
  (k_with "ne9" => (refine neN ?_; (try dsimp only); first | (refine Nat.ne_of_lt ?_; focus ((repeat (first | with_reducible assumption | exact cj0 (by with_reducible assumption) | exact cj1 (by with_reducible assumption) | exact cj2 (by with_reducible assumption) | exact cj3 (by with_reducible assumption) | exact cj4 (by with_reducible assumption) | exact cj5 (by with_reducible assumption) | exact cj6 (by with_reducible assumption) | exact cj7 (by with_reducible assumption) | exact cj8 (by with_reducible assumption) | exact cj9 (by with_reducible assumption) | exact cj10 (by with_reducible assumption) | exact cj11 (by with_reducible assumption) | exact cj12 (by with_reducible assumption) | exact cj13 (by with_reducible assumption) | exact cj14 (by with_reducible assumption) | exact cj15 (by with_reducible assumption) | (refine lt_tr (by with_reducible assumption) ?_))); done)) | (refine Nat.ne_of_gt ?_; focus ((repeat (first | with_reducible assumption | exact cj0 (by with_reducible assumption) | exact cj1 (by with_reducible assumption) | exact cj2 (by with_reducible assumption) | exact cj3 (by with_reducible assumption) | exact cj4 (by with_reducible assumption) | exact cj5 (by with_reducible assumption) | exact cj6 (by with_reducible assumption) | exact cj7 (by with_reducible assumption) | exact cj8 (by with_reducible assumption) | exact cj9 (by with_reducible assumption) | exact cj10 (by with_reducible assumption) | exact cj11 (by with_reducible assumption) | exact cj12 (by with_reducible assumption) | exact cj13 (by with_reducible assumption) | exact cj14 (by with_reducible assumption) | exact cj15 (by with_reducible assumption) | (refine lt_tr (by with_reducible assumption) ?_))); done))))
  (k_with "mem9" => focus ((repeat (first | with_reducible assumption | exact List.Mem.head _ | refine List.mem_cons_of_mem _ ?_)); done))
  trivial


abbrev CallsL (k : Nat) (w : World) (f : Addr) (vs : List Value) (news : List (Addr × Obj)) (Ret : Value → List (Addr × Obj) → Prop) (l : Addr) (items : List Value) : Prop :=
  ∀ (p : Program) (loose : List PySem.Str) (mean : ExcName → Option Value) (mg mb : PySem.Str → Option Value) (dp un : Nat) (gd : Option (List Code)) (cn : PySem.Str) (cs : Scope) (a : Addr) (ccd : Value) (cl : List (PySem.Str × Addr)) (outer : List Env) (A₀ : Around) (base h₀ : Heap) (L : Addr) (m : PySem.Str → Option Value) (hS : Heap) (gS : Array GenState) (dS : Drawn) (tS : Nat) (oS : OsState) (Q E : Value → Shared → Prop),
    Below A₀ base outer h₀ → Fr h₀ L hS m → (Mine.hd.heap_39 w.params).In h₀ → News h₀ L hS news → Top p loose mean mg mb h₀ → cs.kind = .function →
    dp + k < recursionLimit → un + 20 * k < cLine → base.IsList l items.toArray →
    (∀ v news' h' tk', Ret v news' → Fr h₀ L h' m → News h₀ L h' news' → Q v ⟨h', gS, dS, tk', oS⟩) →
    wpAny (model Challenge.rw_on0013_01.row.prog w) (ktrTop dp un gd cn cs L a ccd cl outer) (call (.ref f) vs) Q E ⟨hS, gS, dS, tS, oS⟩
theorem src_made {c : Int} {p : Prop} [Decidable p] {x : Int} {t1 t2 : Tok} {n : Nat} : SrcO (listOf #[.int ((if -1 - c > c then -1 - c else c) * (if p then 1 else 0)) t1, .int (x.fmod 2147483647) t2] n) := by
  refine ⟨_, _, _, _, _, rfl, ?_, (fmod_in _).1, (fmod_in _).2⟩
  refine Int.mul_nonneg ?_ ?_ <;> split <;> omega
section
variable {w : World} {news : List (Addr × Obj)}
set_option maxHeartbeats 8000000 in
theorem pool_c {l : Addr} {vs : List Value} {ns : List Int} {k : Int} {tk : Tok} (hI : IntsAre vs ns) (hlen : ns.length ≤ 63) (hk0 : 0 ≤ k) (hk1 : k ≤ 1) : CallsL 1 w 156 [.ref l, .int k tk] news (fun v n' => ∃ a o, v = .ref a ∧ n' = (a, o) :: news ∧ SrcO o ∧ ∀ p ∈ news, p.1 < a) l vs := by
  w_on
  unfold CallsL
  k_fill
  intro p loose mean mg mb dp un gd cn cs a ccd cl outer A₀ base h₀ L m hS gS dS tS oS Q E hB hF hX hN hT hk hd hu hlist hret
  refine wpAny_call ?_
  k_dflt (refine' code_def ?k1 ?k2 ?k3 ?k4 ?k5 ?kA ?kF ?kK ?k6 ?k7 ?k8 (?k9 : Binds2 _ _ (PySem.Str.ofString "script") (PySem.Str.ofString "k") _ _) ?kB ?_ ?c2 ?c3 ?c4 ?c5; (case kA => exact rfl); (case kF => exact rfl); (case kK => assumption); (case k1 => k_asm); (case k2 => k_asm); (case k3 => k_asm); (case k4 => k_asm); (case k5 => k_asm); (case k6 => k_is); (case k7 => k_is); (case k8 => ktr_room); (case k9 => exact BindsTo.of_eq (by kernel_rfl)); (case c5 => decide); (case kB => exact locs rfl); (case c2 => exact rfl); (case c3 => exact rfl); (case c4 => exact rfl); k_whole; intro g' L' h' FG' F' N' B' X' T'; (try dsimp only [List.reverse_cons, List.reverse_nil, List.nil_append, List.cons_append, List.length_cons, List.length_nil] at F' ⊢); (try k_lift B'); (try k_fold))
  k_steps
  all_goals exact hret _ _ _ _ ⟨_, _, rfl, rfl, src_made, by assumption⟩ (by k_asm) (by k_asm)
end
end

end

-- group 3
section

-- CI
section
theorem start_CI : True := by
  w_top off
  k_with_none
  (k_with "eval Constant str" => refine kstr ?_)
  (k_with "eval Constant int" => refine kint ?_)
  (k_with "eval Constant bytes" => refine kbyt ?_)
  (k_with "binaryOp Add int int" => with_reducible refine kadd ?_)
  (k_with "binaryOp Sub int int" => with_reducible refine ksub ?_)
  (k_with "unaryOp USub int" => with_reducible refine kneg ?_)
  (k_with "storeName" => (k_here; k_dflt (refine kstL (by k_asm) (by k_asm) ?_ (rfl) (rfl); k_whole; intro h9 F9 N9; (try k_sweep))))
  (k_with "newTuple" => (k_here; k_dflt (refine ktuK (by k_asm) (by k_asm) ?_ (by kmk_size)); intro D7 h7 F7 N7 l7; (try k_lt l7); (try k_sweep)))
  (k_with "newList" => (k_here; k_dflt (refine kltK (by k_asm) (by k_asm) ?_ (by size_fits)); intro D7 h7 F7 N7 l7; (try k_lt l7); (try k_sweep)))
  (k_with "steps9" => repeat' (first | (k_unfold; (try dsimp only)) | (k_end; wrow_close) | (walk1 <;> (try dsimp only)) | (dsimp only; walk1) | (leave1; walk_say "STEP leave1"; try dsimp only) | (with_reducible refine popN (by assumption) ?_) | (with_reducible refine popR (by assumption) ?_) | ((refine pop_ (by assumption) ?_); (try dsimp only)) | fail "no step"))
  (k_with "all9" => focus ((repeat (first | exact List.forall_mem_nil _ | with_reducible assumption | (refine List.forall_mem_cons.mpr ⟨by k_ne, ?_⟩))); done))
  (k_with "room9" => first | exact rl1 (by with_reducible assumption) (Nat.le_of_ble_eq_true rfl) | exact rl0 (by with_reducible assumption) (Nat.le_of_ble_eq_true rfl) | exact rl2 (by with_reducible assumption) (Nat.le_of_ble_eq_true rfl) | exact rlz (by assumption))
  (k_with "ne9" => (refine neN ?_; (try dsimp only); first | (refine Nat.ne_of_lt ?_; focus ((repeat (first | with_reducible assumption | exact cj0 (by with_reducible assumption) | exact cj1 (by with_reducible assumption) | exact cj2 (by with_reducible assumption) | exact cj3 (by with_reducible assumption) | exact cj4 (by with_reducible assumption) | exact cj5 (by with_reducible assumption) | exact cj6 (by with_reducible assumption) | exact cj7 (by with_reducible assumption) | exact cj8 (by with_reducible assumption) | exact cj9 (by with_reducible assumption) | exact cj10 (by with_reducible assumption) | exact cj11 (by with_reducible assumption) | exact cj12 (by with_reducible assumption) | exact cj13 (by with_reducible assumption) | exact cj14 (by with_reducible assumption) | exact cj15 (by with_reducible assumption) | (refine lt_tr (by with_reducible assumption) ?_))); done)) | (refine Nat.ne_of_gt ?_; focus ((repeat (first | with_reducible assumption | exact cj0 (by with_reducible assumption) | exact cj1 (by with_reducible assumption) | exact cj2 (by with_reducible assumption) | exact cj3 (by with_reducible assumption) | exact cj4 (by with_reducible assumption) | exact cj5 (by with_reducible assumption) | exact cj6 (by with_reducible assumption) | exact cj7 (by with_reducible assumption) | exact cj8 (by with_reducible assumption) | exact cj9 (by with_reducible assumption) | exact cj10 (by with_reducible assumption) | exact cj11 (by with_reducible assumption) | exact cj12 (by with_reducible assumption) | exact cj13 (by with_reducible assumption) | exact cj14 (by with_reducible assumption) | exact cj15 (by with_reducible assumption) | (refine lt_tr (by with_reducible assumption) ?_))); done))))
  (k_with "mem9" => focus ((repeat (first | with_reducible assumption | exact List.Mem.head _ | refine List.mem_cons_of_mem _ ?_)); done))
  trivial

theorem words_CI_13 : True := by
  (k_with "eval Call" => (((with_reducible show wpAny _ _ (eval (PySem.Expr.Call (PySem.Expr.Name _ _) _ [] _) _) _ _ _); k_dflt (refine Call_ ?_))))
  (k_with "eval Name" => ((k_here; k_dflt (first | (refine ld (by k_asm) (by exact rfl) ?_; k_whole) | (refine name_K (by k_asm) (by k_asm) (by k_asm) (by k_is) ?_; k_whole)))))
  trivial
theorem binds_cast {s : Shared} {fd : FuncData} {args : Args} {b b' : List (PySem.Str × Value)} (h : BindsTo s fd args b) (e : b = b') : BindsTo s fd args b' := e ▸ h
theorem raised_tl {base G h : Heap} {l : List Env} {e : Addr} {cls : Value} {p : Addr × Obj} {news : List (Addr × Obj)} (R : RaisedSN base G l e cls (p :: news) h) : RaisedSN base G l e cls news h := by
  obtain ⟨B, a0, hB, hBG, hl, hfl⟩ := R
  exact ⟨B, a0, hB, hBG, fun q hq => hl q (.tail _ hq), hfl⟩

/-- the fifteen operators -/
inductive Op where
  | add | sub | mul | div | mod | band | bor | bxor | bnot | eq | ne | lt | le | gt | ge
def Op.text : Op → PySem.Str
  | .add => PySem.Str.ofString "+"
  | .sub => PySem.Str.ofString "-"
  | .mul => PySem.Str.ofString "*"
  | .div => PySem.Str.ofString "/"
  | .mod => PySem.Str.ofString "%"
  | .band => PySem.Str.ofString "&"
  | .bor => PySem.Str.ofString "|"
  | .bxor => PySem.Str.ofString "^"
  | .bnot => PySem.Str.ofString "&^"
  | .eq => PySem.Str.ofString "=="
  | .ne => PySem.Str.ofString "!="
  | .lt => PySem.Str.ofString "<"
  | .le => PySem.Str.ofString "<="
  | .gt => PySem.Str.ofString ">"
  | .ge => PySem.Str.ofString ">="
/-- what the operator gives of two whole numbers within bounds -/
def spec (o : Op) (a b lo hi : Int) : Res := match o with
  | .add => kept lo hi (a + b)
  | .sub => kept lo hi (a - b)
  | .mul => kept lo hi (a * b)
  | .div => if b = 0 then .fault else kept lo hi (a.tdiv b)
  | .mod => if b = 0 then .fault else kept lo hi (a - b * a.tdiv b)
  | .band => kept lo hi (Builtin.bitAnd a b)
  | .bor => kept lo hi (Builtin.bitOr a b)
  | .bxor => kept lo hi (Builtin.bitXor a b)
  | .bnot => kept lo hi (Builtin.bitAnd a (-1 - b))
  | .eq => .bool (a == b)
  | .ne => .bool (a != b)
  | .lt => .bool (decide (a < b))
  | .le => .bool (decide (a ≤ b))
  | .gt => .bool (decide (b < a))
  | .ge => .bool (decide (b ≤ a))
theorem kept_in {lo hi n : Int} {t : Tok} (h : lo ≤ n ∧ n ≤ hi) : (kept lo hi n).Val (.int n t) ∧ kept lo hi n ≠ .fault := by
  rw [kept, if_pos h]; exact ⟨⟨_, rfl⟩, by intro z; cases z⟩
theorem kept_out {lo hi n : Int} (h : ¬ (lo ≤ n ∧ n ≤ hi)) : kept lo hi n = .fault := by rw [kept, if_neg h]
abbrev compsArr : Array Value := #[.str (PySem.Str.ofString "==") 272, .str (PySem.Str.ofString "!=") 273, .str (PySem.Str.ofString "<") 274, .str (PySem.Str.ofString "<=") 275, .str (PySem.Str.ofString ">") 276, .str (PySem.Str.ofString ">=") 277]
theorem lookup_49 (P : Params) : (Mine.hd.heap_39 P).lookup 49 = some { cls := .type "tuple", data := .seq compsArr } := by kernel_rfl
theorem in_comps {w : World} {A : Around} {E : Value → Shared → Prop} {s : Shared} {h₀ : Heap} {L : Addr} {m : PySem.Str → Option Value} {prog : Program} {P : Params} {x : PySem.Str} {u : Tok} {Q : Value → Shared → Prop} (X : (Mine.hd.heap_39 P).In h₀) (F : Fr h₀ L s.heap m)
    (h : Q (.bool (([PySem.Str.ofString "==", PySem.Str.ofString "!=", PySem.Str.ofString "<", PySem.Str.ofString "<=", PySem.Str.ofString ">", PySem.Str.ofString ">="] : List PySem.Str).any (· == x))) s) : wpAny (model prog w) A (compareOp .In (.str x u) (.ref 49)) Q E s :=
  in_tuple_strs ⟨_, F.keep _ _ (X _ _ (lookup_49 _)), rfl, _, rfl⟩ (.cons _ _ (.cons _ _ (.cons _ _ (.cons _ _ (.cons _ _ (.cons _ _ .nil)))))) h
/-- what an operator of two whole numbers reckons, ahead of the bounds -/
def ar (o : Op) (a b : Int) : Int := match o with
  | .add => a + b
  | .sub => a - b
  | .mul => a * b
  | .div => a.tdiv b
  | .mod => a - b * a.tdiv b
  | .band => Builtin.bitAnd a b
  | .bor => Builtin.bitOr a b
  | .bxor => Builtin.bitXor a b
  | .bnot => Builtin.bitAnd a (-1 - b)
  | _ => 0
def cmpv (o : Op) (a b : Int) : Bool := match o with
  | .eq => a == b
  | .ne => a != b
  | .lt => decide (a < b)
  | .le => decide (a ≤ b)
  | .gt => decide (b < a)
  | _ => decide (b ≤ a)
def isCmp (o : Op) : Bool := match o with
  | .eq | .ne | .lt | .le | .gt | .ge => true
  | _ => false
def isDiv (o : Op) : Bool := match o with
  | .div | .mod => true
  | _ => false
abbrev compsL : List PySem.Str := [PySem.Str.ofString "==", PySem.Str.ofString "!=", PySem.Str.ofString "<", PySem.Str.ofString "<=", PySem.Str.ofString ">", PySem.Str.ofString ">="]
theorem comps_is (o : Op) : compsL.any (· == o.text) = isCmp o := by cases o <;> decide +kernel
theorem shifts_is (o : Op) : [PySem.Str.ofString "<<", PySem.Str.ofString ">>"].any (· == o.text) = false := by cases o <;> decide +kernel
theorem spec_cmp {o : Op} {a b lo hi : Int} (ho : isCmp o = true) : (spec o a b lo hi).Val (.bool (cmpv o a b)) ∧ spec o a b lo hi ≠ .fault := by
  cases o <;> first | (cases ho; done) | exact ⟨rfl, fun z => by cases z⟩
theorem spec_ar {o : Op} {a b lo hi : Int} (ho : isCmp o = false) (hd : isDiv o = true → b ≠ 0) : spec o a b lo hi = kept lo hi (ar o a b) := by
  cases o <;> first | (cases ho; done) | rfl | exact if_neg (hd rfl)
theorem spec_zero {o : Op} {a b lo hi : Int} (h : isDiv o = true ∧ b = 0) : spec o a b lo hi = .fault := by
  obtain ⟨h1, h2⟩ := h
  cases o <;> first | (cases h1; done) | exact if_pos h2
theorem spec_in {o : Op} {a b lo hi : Int} {t : Tok} (ho : isCmp o = false) (hd : isDiv o = true → b ≠ 0) (h : lo ≤ ar o a b ∧ ar o a b ≤ hi) : (spec o a b lo hi).Val (.int (ar o a b) t) ∧ spec o a b lo hi ≠ .fault := by
  rw [spec_ar ho hd]; exact kept_in h
theorem spec_out {o : Op} {a b lo hi : Int} (ho : isCmp o = false) (hd : isDiv o = true → b ≠ 0) (h : ¬ (lo ≤ ar o a b ∧ ar o a b ≤ hi)) : spec o a b lo hi = .fault := by
  rw [spec_ar ho hd]; exact kept_out h
theorem in_comps_as {w : World} {A : Around} {E : Value → Shared → Prop} {s : Shared} {h₀ : Heap} {L : Addr} {m : PySem.Str → Option Value} {prog : Program} {P : Params} {x : PySem.Str} {u : Tok} {b : Bool} {Q : Value → Shared → Prop} (X : (Mine.hd.heap_39 P).In h₀) (F : Fr h₀ L s.heap m) (e : compsL.any (· == x) = b)
    (h : Q (.bool b) s) : wpAny (model prog w) A (compareOp .In (.str x u) (.ref 49)) Q E s := in_comps X F (by rw [e]; exact h)
theorem in_two {w : World} {A : Around} {E : Value → Shared → Prop} {s : Shared} {h₀ : Heap} {L a : Addr} {prog : Program} {x y z : PySem.Str} {t1 t2 u : Tok} {b : Bool} {news : List (Addr × Obj)} {Q : Value → Shared → Prop} (N : News h₀ L s.heap news) (hm : (a, { cls := .type "tuple", data := .seq #[.str x t1, .str y t2] }) ∈ news) (e : [x, y].any (· == z) = b)
    (h : Q (.bool b) s) : wpAny (model prog w) A (compareOp .In (.str z u) (.ref a)) Q E s :=
  in_tuple_strs ⟨_, (N _ hm).1, rfl, _, rfl⟩ (.cons _ _ (.cons _ _ .nil)) (by rw [e]; exact h)
section
variable {w : World} {news : List (Addr × Obj)} {kv : Value} {u : Bool} {lo hi : Int}

theorem words_CI_14 : True := by
  (k_with "exec Raise some none" => ((k_here; refine raise_fault rfl ?_)))
  (k_with "call ref" => ((k_here; (with_reducible show wpAny _ _ (call (Value.ref 45) _) _ _ _); k_dflt (refine fault_made (by k_asm) (by k_asm) (by k_asm) (by k_asm) (by k_asm) (rfl) (rfl) (by first | exact rfl | assumption) (by ktr_room) ?_; k_whole); intro e9 t9 h9 tk9 oe9 F9 N9 hc9 hd9 hn9; (try dsimp only))))
  (k_with "FaultRaised" => ((refine fault_raised (by k_asm) (by k_asm) (by k_asm) (by assumption) (by assumption) ?_)))
  (k_with "leaving ref" => ((k_here; first | (refine leave_fault (by k_asm) (by k_asm) (by k_asm) (by assumption) (by assumption) (by assumption) ?_ (rfl) (by first | exact rfl | assumption); intro h9 RS9 U9; (try dsimp only)) | (refine leave_onE (by k_asm) (by k_asm) (by assumption) (by assumption) ?_ (rfl); intro h9 RS9 U9; (try dsimp only)))))
  (k_with "compareOp In str ref" => ((k_here; k_dflt (refine in_comps (by k_asm) (by k_asm) ?_))))
  trivial
set_option maxHeartbeats 8000000 in
theorem sort_int_c {a : Int} {ta : Tok} : CallsR 1 w 127 [.int a ta] news (fun v n' => (∃ t, v = .str (PySem.Str.ofString "int") t) ∧ n' = news) False := by
  w_on
  unfold CallsR
  k_fill
  intro p loose mean mg mb dp un gd cn cs fa ccd cl outer A₀ base h₀ L m hS gS dS tS oS Q E hB hF hX hN hT hk hd hu hret hrais
  refine wpAny_call ?_
  k_dflt (refine' code_def (binds := [(PySem.Str.ofString "value", .int a ta)]) ?k1 ?k2 ?k3 ?k4 ?k5 ?kA ?kF ?kK ?k6 ?k7 ?k8 ?k9 ?kB ?_ ?c2 ?c3 ?c4 ?c5; (case kA => exact rfl); (case kF => exact rfl); (case kK => assumption); (case k1 => k_asm); (case k2 => k_asm); (case k3 => k_asm); (case k4 => k_asm); (case k5 => k_asm); (case k6 => k_is); (case k7 => k_is); (case k8 => ktr_room); (case k9 => exact BindsTo.of_eq (by kernel_rfl)); (case c5 => decide); (case kB => exact locs rfl); (case c2 => exact rfl); (case c3 => exact rfl); (case c4 => exact rfl); k_whole; intro g' L' h' FG' F' N' B' X' T'; (try dsimp only [List.reverse_cons, List.reverse_nil, List.nil_append, List.cons_append, List.length_cons, List.length_nil] at F' ⊢); (try k_lift B'); (try k_fold))
  k_steps
  exact hret _ _ _ _ ⟨⟨_, rfl⟩, rfl⟩ (by k_asm) (by k_asm)
theorem words_CI_15 : True := by
  (k_with "call ref" => (k_here; (with_reducible show wpAny _ _ (call (Value.ref 127) _) _ _ _); k_dflt (refine callsR_v (by k_asm) (by k_asm) (by k_asm) (by k_asm) (by k_asm) ?_; refine RestR.ledF _ _ _ sort_int_c (by first | exact rfl | assumption) (by ktr_room) (by ktr_units) ?_; k_whole); intro v9 h9 tk9 R9 F9 N9; obtain ⟨t9, e9⟩ := R9; subst e9; (try dsimp only); (try k_fold)))
  (k_with "call ref" => (k_here; (with_reducible show wpAny _ _ (call (Value.ref 77) _) _ _ _); k_dflt (refine callsR_v (by k_asm) (by k_asm) (by k_asm) (by k_asm) (by k_asm) ?_; refine RestR.mk _ _ _ (within_range_c (by assumption)) (by first | exact rfl | assumption) (by ktr_room) (by ktr_units) ?_ ?_; k_whole); rotate_left; intro e9 g9 h9 tk9 R9 FG9 U9 RS9; (try dsimp only); rotate_left; intro v9 n9 h9 tk9 R9 F9 N9; obtain ⟨e9, e8, b9⟩ := R9; subst e9 e8; (try dsimp only); (try k_fold)))
  (k_with "call ref" => (k_here; (with_reducible show wpAny _ _ (call (Value.ref 99) _) _ _ _); k_dflt (refine callsR_v (by k_asm) (by k_asm) (by k_asm) (by k_asm) (by k_asm) ?_; refine RestR.mk _ _ _ (quot_c (by assumption)) (by first | exact rfl | assumption) (by ktr_room) (by ktr_units) ?_ ?_; k_whole); rotate_left; intro e9 g9 h9 tk9 R9 FG9 U9 RS9; (try dsimp only); rotate_left; intro v9 n9 h9 tk9 R9 F9 N9; obtain ⟨⟨t9, e9⟩, e8, b9⟩ := R9; subst e9 e8; (try dsimp only); (try k_fold)))
  trivial
set_option maxHeartbeats 8000000 in
theorem int_binary_c {a b : Int} {ta tb to : Tok} {o : Op} (ho : isCmp o = false) (hm : IntMulOk a b) (hm2 : IntMulOk b (a.tdiv b)) (hb : b.natAbs.log2 < 9000) : CallsR 6 w 113 [.str o.text to, .int a ta, .int b tb] news (fun v n' => (∃ t, v = .int (ar o a b) t) ∧ n' = news ∧ (isDiv o = true → b ≠ 0)) (isDiv o = true ∧ b = 0) := by
  w_on
  unfold CallsR
  k_fill
  intro p loose mean mg mb dp un gd cn cs fa ccd cl outer A₀ base h₀ L m hS gS dS tS oS Q E hB hF hX hN hT hk hd hu hret hrais
  cases o <;> dsimp only [Op.text]
  all_goals first | (exact absurd ho (by decide)) | skip
  all_goals (
    refine wpAny_call ?_
    k_dflt (refine' code_def ?k1 ?k2 ?k3 ?k4 ?k5 ?kA ?kF ?kK ?k6 ?k7 ?k8 (?k9 : Binds3 _ _ (PySem.Str.ofString "op") (PySem.Str.ofString "a") (PySem.Str.ofString "b") _ _ _) ?kB ?_ ?c2 ?c3 ?c4 ?c5; (case kA => exact rfl); (case kF => exact rfl); (case kK => assumption); (case k1 => k_asm); (case k2 => k_asm); (case k3 => k_asm); (case k4 => k_asm); (case k5 => k_asm); (case k6 => k_is); (case k7 => k_is); (case k8 => ktr_room); (case k9 => exact BindsTo.of_eq (by kernel_rfl)); (case c5 => decide); (case kB => exact locs rfl); (case c2 => exact rfl); (case c3 => exact rfl); (case c4 => exact rfl); k_whole; intro g' L' h' FG' F' N' B' X' T'; (try dsimp only [List.reverse_cons, List.reverse_nil, List.nil_append, List.cons_append, List.length_cons, List.length_nil] at F' ⊢); (try k_lift B'); (try k_fold))
    k_steps)
  all_goals first
      | exact hret _ _ _ _ ⟨⟨_, rfl⟩, rfl, fun z => by first | assumption | cases z⟩ (by k_asm) (by first | k_asm | exact news_tl (by k_asm) | exact news_tl (news_tl (by k_asm)))
      | ((refine' hrais _ _ _ _ ?_ ?_ ?_ (by first | assumption | exact raised_tl (by assumption) | exact raised_tl (raised_tl (by assumption)))) <;> first | assumption | k_asm | exact ⟨rfl, by assumption⟩ | exact spec_zero (by assumption) | exact spec_out (by assumption) (by assumption) (by assumption))
      | trace_state
theorem words_CI_16 : True := by
  (k_with "call ref" => (k_here; (with_reducible show wpAny _ _ (call (Value.ref 113) _) _ _ _); k_dflt (refine callsR_v (by k_asm) (by k_asm) (by k_asm) (by k_asm) (by k_asm) ?_; refine RestR.mk _ _ _ (int_binary_c (by assumption) (by assumption) (by assumption) (by assumption)) (by first | exact rfl | assumption) (by ktr_room) (by ktr_units) ?_ ?_; k_whole); rotate_left; intro e9 g9 h9 tk9 R9 FG9 U9 RS9; (try dsimp only); rotate_left; intro v9 n9 h9 tk9 R9 F9 N9; obtain ⟨⟨t9, e9⟩, e8, b9⟩ := R9; subst e9 e8; (try dsimp only); (try k_fold)))
  trivial
set_option maxHeartbeats 8000000 in
theorem compared_c {a b : Int} {ta tb to : Tok} {o : Op} (ho : isCmp o = true) : CallsR 1 w 120 [.str o.text to, .int a ta, .int b tb] news (fun v n' => v = .bool (cmpv o a b) ∧ n' = news) False := by
  w_on
  unfold CallsR
  k_fill
  intro p loose mean mg mb dp un gd cn cs fa ccd cl outer A₀ base h₀ L m hS gS dS tS oS Q E hB hF hX hN hT hk hd hu hret hrais
  cases o <;> dsimp only [Op.text]
  all_goals first | (exact absurd ho (by decide)) | skip
  all_goals (
    refine wpAny_call ?_
    k_dflt (refine' code_def ?k1 ?k2 ?k3 ?k4 ?k5 ?kA ?kF ?kK ?k6 ?k7 ?k8 (?k9 : Binds3 _ _ (PySem.Str.ofString "op") (PySem.Str.ofString "a") (PySem.Str.ofString "b") _ _ _) ?kB ?_ ?c2 ?c3 ?c4 ?c5; (case kA => exact rfl); (case kF => exact rfl); (case kK => assumption); (case k1 => k_asm); (case k2 => k_asm); (case k3 => k_asm); (case k4 => k_asm); (case k5 => k_asm); (case k6 => k_is); (case k7 => k_is); (case k8 => ktr_room); (case k9 => exact BindsTo.of_eq (by kernel_rfl)); (case c5 => decide); (case kB => exact locs rfl); (case c2 => exact rfl); (case c3 => exact rfl); (case c4 => exact rfl); k_whole; intro g' L' h' FG' F' N' B' X' T'; (try dsimp only [List.reverse_cons, List.reverse_nil, List.nil_append, List.cons_append, List.length_cons, List.length_nil] at F' ⊢); (try k_lift B'); (try k_fold))
    k_steps)
  all_goals first
      | exact hret _ _ _ _ ⟨rfl, rfl⟩ (by k_asm) (by first | k_asm | exact news_tl (by k_asm) | exact news_tl (news_tl (by k_asm)))
      | trace_state
theorem words_CI_17 : True := by
  (k_with "call ref" => (k_here; (with_reducible show wpAny _ _ (call (Value.ref 120) _) _ _ _); k_dflt (refine callsR_v (by k_asm) (by k_asm) (by k_asm) (by k_asm) (by k_asm) ?_; refine RestR.eqF _ _ _ (compared_c (by assumption)) (by first | exact rfl | assumption) (by ktr_room) (by ktr_units) ?_; k_whole); intro h9 tk9 F9 N9; (try dsimp only); (try k_fold)))
  (k_with "compareOp In str ref" => ((k_here; k_dflt (first | (refine in_comps_as (by k_asm) (by k_asm) (by assumption) ?_) | (refine in_two (by k_asm) (by with_reducible exact List.Mem.head _) (by assumption) ?_)))))
  trivial
set_option maxHeartbeats 8000000 in
theorem binary_c {a b : Int} {ta tb to : Tok} {o : Op} (hkn : KN kv u lo hi) (hm : IntMulOk a b) (hm2 : IntMulOk b (a.tdiv b)) (hb : b.natAbs.log2 < 9000) : CallsR 9 w 135 [.str o.text to, .int a ta, .int b tb, kv] news (fun v n' => ((spec o a b lo hi).Val v ∧ spec o a b lo hi ≠ .fault) ∧ n' = news) (spec o a b lo hi = .fault) := by
  w_on
  unfold CallsR
  k_fill
  intro p loose mean mg mb dp un gd cn cs fa ccd cl outer A₀ base h₀ L m hS gS dS tS oS Q E hB hF hX hN hT hk hd hu hret hrais
  have hsh := shifts_is o
  have hcm := comps_is o
  cases ho : isCmp o
  · rw [ho] at hcm
    refine wpAny_call ?_
    k_dflt (refine' code_def (binds := [(PySem.Str.ofString "op", .str o.text to), (PySem.Str.ofString "a", .int a ta), (PySem.Str.ofString "b", .int b tb), (PySem.Str.ofString "kind", kv)]) ?k1 ?k2 ?k3 ?k4 ?k5 ?kA ?kF ?kK ?k6 ?k7 ?k8 ?k9 ?kB ?_ ?c2 ?c3 ?c4 ?c5; (case kA => exact rfl); (case kF => exact rfl); (case kK => assumption); (case k1 => k_asm); (case k2 => k_asm); (case k3 => k_asm); (case k4 => k_asm); (case k5 => k_asm); (case k6 => k_is); (case k7 => k_is); (case k8 => ktr_room); (case k9 => exact binds_cast (binds_K (by k_in) rfl (by k_is) rfl rfl rfl) (by kernel_rfl)); (case c5 => decide); (case kB => exact locs rfl); (case c2 => exact rfl); (case c3 => exact rfl); (case c4 => exact rfl); k_whole; intro g' L' h' FG' F' N' B' X' T'; (try dsimp only [List.reverse_cons, List.reverse_nil, List.nil_append, List.cons_append, List.length_cons, List.length_nil] at F' ⊢); (try k_lift B'); (try k_fold))
    k_steps
    all_goals first
      | exact hret _ _ _ _ ⟨spec_in (by assumption) (by assumption) (by assumption), rfl⟩ (by k_asm) (by first | k_asm | exact news_tl (by k_asm) | exact news_tl (news_tl (by k_asm)))
      | ((refine' hrais _ _ _ _ ?_ ?_ ?_ (by first | assumption | exact raised_tl (by assumption) | exact raised_tl (raised_tl (by assumption)))) <;> first | assumption | k_asm | exact ⟨rfl, by assumption⟩ | exact spec_zero (by assumption) | exact spec_out (by assumption) (by assumption) (by assumption))
      | trace_state
  · rw [ho] at hcm
    refine wpAny_call ?_
    k_dflt (refine' code_def (binds := [(PySem.Str.ofString "op", .str o.text to), (PySem.Str.ofString "a", .int a ta), (PySem.Str.ofString "b", .int b tb), (PySem.Str.ofString "kind", kv)]) ?k1 ?k2 ?k3 ?k4 ?k5 ?kA ?kF ?kK ?k6 ?k7 ?k8 ?k9 ?kB ?_ ?c2 ?c3 ?c4 ?c5; (case kA => exact rfl); (case kF => exact rfl); (case kK => assumption); (case k1 => k_asm); (case k2 => k_asm); (case k3 => k_asm); (case k4 => k_asm); (case k5 => k_asm); (case k6 => k_is); (case k7 => k_is); (case k8 => ktr_room); (case k9 => exact binds_cast (binds_K (by k_in) rfl (by k_is) rfl rfl rfl) (by kernel_rfl)); (case c5 => decide); (case kB => exact locs rfl); (case c2 => exact rfl); (case c3 => exact rfl); (case c4 => exact rfl); k_whole; intro g' L' h' FG' F' N' B' X' T'; (try dsimp only [List.reverse_cons, List.reverse_nil, List.nil_append, List.cons_append, List.length_cons, List.length_nil] at F' ⊢); (try k_lift B'); (try k_fold))
    k_steps
    all_goals first
      | exact hret _ _ _ _ ⟨spec_cmp (by assumption), rfl⟩ (by k_asm) (by first | k_asm | exact news_tl (by k_asm) | exact news_tl (news_tl (by k_asm)))
      | trace_state
end
end

-- CJ
section
theorem start_CJ : True := by
  w_top off
  k_with_none
  (k_with "eval Constant str" => refine kstr ?_)
  (k_with "eval Constant int" => refine kint ?_)
  (k_with "eval Constant bytes" => refine kbyt ?_)
  (k_with "binaryOp Add int int" => with_reducible refine kadd ?_)
  (k_with "binaryOp Sub int int" => with_reducible refine ksub ?_)
  (k_with "unaryOp USub int" => with_reducible refine kneg ?_)
  (k_with "storeName" => (k_here; k_dflt (refine kstL (by k_asm) (by k_asm) ?_ (rfl) (rfl); k_whole; intro h9 F9 N9; (try k_sweep))))
  (k_with "newTuple" => (k_here; k_dflt (refine ktuK (by k_asm) (by k_asm) ?_ (by kmk_size)); intro D7 h7 F7 N7 l7; (try k_lt l7); (try k_sweep)))
  (k_with "newList" => (k_here; k_dflt (refine kltK (by k_asm) (by k_asm) ?_ (by size_fits)); intro D7 h7 F7 N7 l7; (try k_lt l7); (try k_sweep)))
  (k_with "steps9" => repeat' (first | (k_unfold; (try dsimp only)) | (k_end; wrow_close) | (walk1 <;> (try dsimp only)) | (dsimp only; walk1) | (leave1; walk_say "STEP leave1"; try dsimp only) | (with_reducible refine popN (by assumption) ?_) | (with_reducible refine popR (by assumption) ?_) | ((refine pop_ (by assumption) ?_); (try dsimp only)) | fail "no step"))
  (k_with "all9" => focus ((repeat (first | exact List.forall_mem_nil _ | with_reducible assumption | (refine List.forall_mem_cons.mpr ⟨by k_ne, ?_⟩))); done))
  (k_with "room9" => first | exact rl1 (by with_reducible assumption) (Nat.le_of_ble_eq_true rfl) | exact rl0 (by with_reducible assumption) (Nat.le_of_ble_eq_true rfl) | exact rl2 (by with_reducible assumption) (Nat.le_of_ble_eq_true rfl) | exact rlz (by assumption))
  (k_with "ne9" => (refine neN ?_; (try dsimp only); first | (refine Nat.ne_of_lt ?_; focus ((repeat (first | with_reducible assumption | exact cj0 (by with_reducible assumption) | exact cj1 (by with_reducible assumption) | exact cj2 (by with_reducible assumption) | exact cj3 (by with_reducible assumption) | exact cj4 (by with_reducible assumption) | exact cj5 (by with_reducible assumption) | exact cj6 (by with_reducible assumption) | exact cj7 (by with_reducible assumption) | exact cj8 (by with_reducible assumption) | exact cj9 (by with_reducible assumption) | exact cj10 (by with_reducible assumption) | exact cj11 (by with_reducible assumption) | exact cj12 (by with_reducible assumption) | exact cj13 (by with_reducible assumption) | exact cj14 (by with_reducible assumption) | exact cj15 (by with_reducible assumption) | (refine lt_tr (by with_reducible assumption) ?_))); done)) | (refine Nat.ne_of_gt ?_; focus ((repeat (first | with_reducible assumption | exact cj0 (by with_reducible assumption) | exact cj1 (by with_reducible assumption) | exact cj2 (by with_reducible assumption) | exact cj3 (by with_reducible assumption) | exact cj4 (by with_reducible assumption) | exact cj5 (by with_reducible assumption) | exact cj6 (by with_reducible assumption) | exact cj7 (by with_reducible assumption) | exact cj8 (by with_reducible assumption) | exact cj9 (by with_reducible assumption) | exact cj10 (by with_reducible assumption) | exact cj11 (by with_reducible assumption) | exact cj12 (by with_reducible assumption) | exact cj13 (by with_reducible assumption) | exact cj14 (by with_reducible assumption) | exact cj15 (by with_reducible assumption) | (refine lt_tr (by with_reducible assumption) ?_))); done))))
  (k_with "mem9" => focus ((repeat (first | with_reducible assumption | exact List.Mem.head _ | refine List.mem_cons_of_mem _ ?_)); done))
  trivial


theorem words_CJ_18 : True := by
  (k_with "eval Call" => (((with_reducible show wpAny _ _ (eval (PySem.Expr.Call (PySem.Expr.Name _ _) _ [] _) _) _ _ _); k_dflt (refine Call_ ?_))))
  (k_with "eval Name" => ((k_here; k_dflt (first | (refine ld (by k_asm) (by exact rfl) ?_; k_whole) | (refine name_K (by k_asm) (by k_asm) (by k_asm) (by k_is) ?_; k_whole)))))
  trivial
def shl (a n lo hi : Int) : Res := if n < 0 then .fault else if a = 0 then kept lo hi 0 else if 2 * 512 < n then .fault else kept lo hi (a * 2 ^ n.toNat)
def shr (a n lo hi : Int) : Res := if n < 0 then .fault else kept lo hi (a.fdiv (2 ^ (if 2 * 512 < n then 2 * 512 else n).toNat))
theorem shl_zero {a n lo hi : Int} {t : Tok} (h : ¬ n < 0) (h0 : a = 0) (hb : lo ≤ 0 ∧ 0 ≤ hi) : (shl a n lo hi).Val (.int 0 t) ∧ shl a n lo hi ≠ .fault := by
  rw [shl, if_neg h, if_pos h0]; exact kept_in hb
theorem shl_in {a n lo hi : Int} {t : Tok} (h : ¬ n < 0) (h0 : ¬ a = 0) (h1 : ¬ 2 * 512 < n) (hb : lo ≤ a * 2 ^ n.toNat ∧ a * 2 ^ n.toNat ≤ hi) : (shl a n lo hi).Val (.int (a * 2 ^ n.toNat) t) ∧ shl a n lo hi ≠ .fault := by
  rw [shl, if_neg h, if_neg h0, if_neg h1]; exact kept_in hb
theorem shr_in {a n lo hi : Int} {t : Tok} (h : ¬ n < 0) (hb : lo ≤ a.fdiv (2 ^ (if 2 * 512 < n then 2 * 512 else n).toNat) ∧ a.fdiv (2 ^ (if 2 * 512 < n then 2 * 512 else n).toNat) ≤ hi) : (shr a n lo hi).Val (.int (a.fdiv (2 ^ (if 2 * 512 < n then 2 * 512 else n).toNat)) t) ∧ shr a n lo hi ≠ .fault := by
  rw [shr, if_neg h]; exact kept_in hb
theorem shl_out {a n lo hi : Int} (h : n < 0 ∨ (¬ a = 0 ∧ 2 * 512 < n) ∨ (a = 0 ∧ ¬ (lo ≤ 0 ∧ 0 ≤ hi)) ∨ (¬ a = 0 ∧ ¬ (lo ≤ a * 2 ^ n.toNat ∧ a * 2 ^ n.toNat ≤ hi))) : shl a n lo hi = .fault := by
  unfold shl kept
  by_cases h0 : n < 0
  · rw [if_pos h0]
  · rw [if_neg h0]
    by_cases h1 : a = 0
    · rw [if_pos h1, if_neg]
      rcases h with h | h | h | h
      · exact absurd h h0
      · exact absurd h1 h.1
      · exact h.2
      · exact absurd h1 h.1
    · rw [if_neg h1]
      by_cases h2 : 2 * 512 < n
      · rw [if_pos h2]
      · rw [if_neg h2, if_neg]
        rcases h with h | h | h | h
        · exact absurd h h0
        · exact absurd h.2 h2
        · exact absurd h.1 h1
        · exact h.2
theorem shr_out {a n lo hi : Int} (h : n < 0 ∨ ¬ (lo ≤ a.fdiv (2 ^ (if 2 * 512 < n then 2 * 512 else n).toNat) ∧ a.fdiv (2 ^ (if 2 * 512 < n then 2 * 512 else n).toNat) ≤ hi)) : shr a n lo hi = .fault := by
  unfold shr kept
  by_cases h0 : n < 0
  · rw [if_pos h0]
  · rw [if_neg h0, if_neg (h.resolve_left h0)]
/-- a contract whatever the ledger, the ledger kept -/
inductive Fam (k : Nat) (w : World) (f : Addr) (vs : List Value) (R : Value → Prop) (Rais : Prop) : Prop
  | mk (h : ∀ news, CallsR k w f vs news (fun v n' => R v ∧ n' = news) Rais)
theorem Fam.at {k : Nat} {w : World} {f : Addr} {vs : List Value} {R : Value → Prop} {Rais : Prop} {news : List (Addr × Obj)} (h : Fam k w f vs R Rais) : CallsR k w f vs news (fun v n' => R v ∧ n' = news) Rais := by
  cases h with | mk h => exact h news
theorem Fam.at0 {k : Nat} {w : World} {f : Addr} {vs : List Value} {R : Value → Prop} {news : List (Addr × Obj)} (h : Fam k w f vs R False) : CallsR k w f vs news (fun v n' => R v ∧ n' = news) False := by
  cases h with | mk h => exact h news
section
variable {w : World} {news : List (Addr × Obj)} {kv : Value} {u : Bool} {lo hi : Int}

theorem words_CJ_19 : True := by
  (k_with "exec Raise some none" => ((k_here; refine raise_fault rfl ?_)))
  (k_with "call ref" => ((k_here; (with_reducible show wpAny _ _ (call (Value.ref 45) _) _ _ _); k_dflt (refine fault_made (by k_asm) (by k_asm) (by k_asm) (by k_asm) (by k_asm) (rfl) (rfl) (by first | exact rfl | assumption) (by ktr_room) ?_; k_whole); intro e9 t9 h9 tk9 oe9 F9 N9 hc9 hd9 hn9; (try dsimp only))))
  (k_with "FaultRaised" => ((refine fault_raised (by k_asm) (by k_asm) (by k_asm) (by assumption) (by assumption) ?_)))
  (k_with "leaving ref" => ((k_here; first | (refine leave_fault (by k_asm) (by k_asm) (by k_asm) (by assumption) (by assumption) (by assumption) ?_ (rfl) (by first | exact rfl | assumption); intro h9 RS9 U9; (try dsimp only)) | (refine leave_onE (by k_asm) (by k_asm) (by assumption) (by assumption) ?_ (rfl); intro h9 RS9 U9; (try dsimp only)))))
  (k_with "compareOp In str ref" => ((k_here; k_dflt (refine in_comps (by k_asm) (by k_asm) ?_))))
  (k_with "call ref" => (k_here; (with_reducible show wpAny _ _ (call (Value.ref 127) _) _ _ _); k_dflt (refine callsR_v (by k_asm) (by k_asm) (by k_asm) (by k_asm) (by k_asm) ?_; refine RestR.ledF _ _ _ sort_int_c (by first | exact rfl | assumption) (by ktr_room) (by ktr_units) ?_; k_whole); intro v9 h9 tk9 R9 F9 N9; obtain ⟨t9, e9⟩ := R9; subst e9; (try dsimp only); (try k_fold)))
  (k_with "call ref" => (k_here; (with_reducible show wpAny _ _ (call (Value.ref 77) _) _ _ _); k_dflt (refine callsR_v (by k_asm) (by k_asm) (by k_asm) (by k_asm) (by k_asm) ?_; refine RestR.mk _ _ _ (within_range_c (by assumption)) (by first | exact rfl | assumption) (by ktr_room) (by ktr_units) ?_ ?_; k_whole); rotate_left; intro e9 g9 h9 tk9 R9 FG9 U9 RS9; (try dsimp only); rotate_left; intro v9 n9 h9 tk9 R9 F9 N9; obtain ⟨e9, e8, b9⟩ := R9; subst e9 e8; (try dsimp only); (try k_fold)))
  trivial
set_option maxHeartbeats 8000000 in
theorem shl_s {a n : Int} {ta tb to : Tok} (hkn : KN kv u lo hi) (ha : -18446744073709551616 < a) (ha2 : a < 18446744073709551616)  : CallsR 7 w 106 [.str (PySem.Str.ofString "<<") to, .int a ta, .int n tb, kv] news (fun v n' => ((shl a n lo hi).Val v ∧ shl a n lo hi ≠ .fault) ∧ n' = news) (shl a n lo hi = .fault) := by
  w_on
  unfold CallsR
  k_fill
  intro p loose mean mg mb dp un gd cn cs fa ccd cl outer A₀ base h₀ L m hS gS dS tS oS Q E hB hF hX hN hT hk hd hu hret hrais
  refine wpAny_call ?_
  k_dflt (refine' code_def ?k1 ?k2 ?k3 ?k4 ?k5 ?kA ?kF ?kK ?k6 ?k7 ?k8 (?k9 : Binds4 _ _ (PySem.Str.ofString "op") (PySem.Str.ofString "a") (PySem.Str.ofString "many") (PySem.Str.ofString "kind") _ _ _ _) ?kB ?_ ?c2 ?c3 ?c4 ?c5; (case kA => exact rfl); (case kF => exact rfl); (case kK => assumption); (case k1 => k_asm); (case k2 => k_asm); (case k3 => k_asm); (case k4 => k_asm); (case k5 => k_asm); (case k6 => k_is); (case k7 => k_is); (case k8 => ktr_room); (case k9 => exact BindsTo.of_eq (by kernel_rfl)); (case c5 => decide); (case kB => exact locs rfl); (case c2 => exact rfl); (case c3 => exact rfl); (case c4 => exact rfl); k_whole; intro g' L' h' FG' F' N' B' X' T'; (try dsimp only [List.reverse_cons, List.reverse_nil, List.nil_append, List.cons_append, List.length_cons, List.length_nil] at F' ⊢); (try k_lift B'); (try k_fold))
  k_steps
  all_goals first
      | exact hret _ _ _ _ ⟨shl_zero (by assumption) (by assumption) (by assumption), rfl⟩ (by k_asm) (by first | k_asm | exact news_tl (by k_asm) | exact news_tl (news_tl (by k_asm)))
      | exact hret _ _ _ _ ⟨shl_in (by assumption) (by assumption) (by assumption) (by assumption), rfl⟩ (by k_asm) (by first | k_asm | exact news_tl (by k_asm) | exact news_tl (news_tl (by k_asm)))
      | ((refine' hrais _ _ _ _ ?_ ?_ ?_ (by first | assumption | exact raised_tl (by assumption) | exact raised_tl (raised_tl (by assumption)))) <;> first | assumption | k_asm | exact shl_out (.inl (by assumption)) | exact shl_out (.inr (.inl ⟨by assumption, by assumption⟩)) | exact shl_out (.inr (.inr (.inl ⟨by assumption, by assumption⟩))) | exact shl_out (.inr (.inr (.inr ⟨by assumption, by assumption⟩))))
      | contradiction
      | trace_state
set_option maxHeartbeats 8000000 in
theorem shr_s {a n : Int} {ta tb to : Tok} (hkn : KN kv u lo hi)  : CallsR 7 w 106 [.str (PySem.Str.ofString ">>") to, .int a ta, .int n tb, kv] news (fun v n' => ((shr a n lo hi).Val v ∧ shr a n lo hi ≠ .fault) ∧ n' = news) (shr a n lo hi = .fault) := by
  w_on
  unfold CallsR
  k_fill
  intro p loose mean mg mb dp un gd cn cs fa ccd cl outer A₀ base h₀ L m hS gS dS tS oS Q E hB hF hX hN hT hk hd hu hret hrais
  refine wpAny_call ?_
  k_dflt (refine' code_def ?k1 ?k2 ?k3 ?k4 ?k5 ?kA ?kF ?kK ?k6 ?k7 ?k8 (?k9 : Binds4 _ _ (PySem.Str.ofString "op") (PySem.Str.ofString "a") (PySem.Str.ofString "many") (PySem.Str.ofString "kind") _ _ _ _) ?kB ?_ ?c2 ?c3 ?c4 ?c5; (case kA => exact rfl); (case kF => exact rfl); (case kK => assumption); (case k1 => k_asm); (case k2 => k_asm); (case k3 => k_asm); (case k4 => k_asm); (case k5 => k_asm); (case k6 => k_is); (case k7 => k_is); (case k8 => ktr_room); (case k9 => exact BindsTo.of_eq (by kernel_rfl)); (case c5 => decide); (case kB => exact locs rfl); (case c2 => exact rfl); (case c3 => exact rfl); (case c4 => exact rfl); k_whole; intro g' L' h' FG' F' N' B' X' T'; (try dsimp only [List.reverse_cons, List.reverse_nil, List.nil_append, List.cons_append, List.length_cons, List.length_nil] at F' ⊢); (try k_lift B'); (try k_fold))
  k_steps
  all_goals first
      | exact hret _ _ _ _ ⟨shr_in (by assumption) (by assumption), rfl⟩ (by k_asm) (by first | k_asm | exact news_tl (by k_asm) | exact news_tl (news_tl (by k_asm)))
      | ((refine' hrais _ _ _ _ ?_ ?_ ?_ (by first | assumption | exact raised_tl (by assumption) | exact raised_tl (raised_tl (by assumption)))) <;> first | assumption | k_asm | exact shr_out (.inl (by assumption)) | exact shr_out (.inr (by assumption)))
      | contradiction
      | trace_state


theorem words_CJ_20 : True := by
  (k_with "call ref" => (k_here; (with_reducible show wpAny _ _ (call (Value.ref 106) _) _ _ _); k_dflt (refine callsR_v (by k_asm) (by k_asm) (by k_asm) (by k_asm) (by k_asm) ?_; refine RestR.led _ _ _ _ (Fam.at (by assumption)) (by first | exact rfl | assumption) (by ktr_room) (by ktr_units) ?_ ?_; k_whole); rotate_left; intro e9 g9 h9 tk9 R9 FG9 U9 RS9; (try dsimp only); rotate_left; intro v9 h9 tk9 R9 F9 N9; (try dsimp only); (try k_fold)))
  (k_with "compareOp In str ref" => ((k_here; k_dflt (first | (refine in_comps_as (by k_asm) (by k_asm) (by assumption) ?_) | (refine in_two (by k_asm) (by with_reducible exact List.Mem.head _) (by assumption) ?_)))))
  trivial
set_option maxHeartbeats 8000000 in
theorem shift4 {x : PySem.Str} {a n : Int} {ta tb to : Tok} {R : Value → Prop} {Rais : Prop} (hc : compsL.any (· == x) = false) (hs : [PySem.Str.ofString "<<", PySem.Str.ofString ">>"].any (· == x) = true) (C : Fam 7 w 106 [.str x to, .int a ta, .int n tb, kv] R Rais) : CallsR 9 w 135 [.str x to, .int a ta, .int n tb, kv] news (fun v n' => R v ∧ n' = news) Rais := by
  w_on
  unfold CallsR
  k_fill
  intro p loose mean mg mb dp un gd cn cs fa ccd cl outer A₀ base h₀ L m hS gS dS tS oS Q E hB hF hX hN hT hk hd hu hret hrais
  refine wpAny_call ?_
  k_dflt (refine' code_def (binds := [(PySem.Str.ofString "op", .str x to), (PySem.Str.ofString "a", .int a ta), (PySem.Str.ofString "b", .int n tb), (PySem.Str.ofString "kind", kv)]) ?k1 ?k2 ?k3 ?k4 ?k5 ?kA ?kF ?kK ?k6 ?k7 ?k8 ?k9 ?kB ?_ ?c2 ?c3 ?c4 ?c5; (case kA => exact rfl); (case kF => exact rfl); (case kK => assumption); (case k1 => k_asm); (case k2 => k_asm); (case k3 => k_asm); (case k4 => k_asm); (case k5 => k_asm); (case k6 => k_is); (case k7 => k_is); (case k8 => ktr_room); (case k9 => exact binds_cast (binds_K (by k_in) rfl (by k_is) rfl rfl rfl) (by kernel_rfl)); (case c5 => decide); (case kB => exact locs rfl); (case c2 => exact rfl); (case c3 => exact rfl); (case c4 => exact rfl); k_whole; intro g' L' h' FG' F' N' B' X' T'; (try dsimp only [List.reverse_cons, List.reverse_nil, List.nil_append, List.cons_append, List.length_cons, List.length_nil] at F' ⊢); (try k_lift B'); (try k_fold))
  k_steps
  all_goals first
      | exact hret _ _ _ _ ⟨by assumption, rfl⟩ (by k_asm) (by first | k_asm | exact news_tl (by k_asm) | exact news_tl (news_tl (by k_asm)))
      | ((refine' hrais _ _ _ _ ?_ ?_ ?_ (by first | assumption | exact raised_tl (by assumption) | exact raised_tl (raised_tl (by assumption)))) <;> first | assumption | k_asm)
      | trace_state
theorem shl_c {a n : Int} {ta tb to : Tok} (hkn : KN kv u lo hi) (ha : -18446744073709551616 < a) (ha2 : a < 18446744073709551616)  : CallsR 9 w 135 [.str (PySem.Str.ofString "<<") to, .int a ta, .int n tb, kv] news (fun v n' => ((shl a n lo hi).Val v ∧ shl a n lo hi ≠ .fault) ∧ n' = news) (shl a n lo hi = .fault) := shift4 (by decide +kernel) (by decide +kernel) (.mk fun _ => shl_s hkn ha ha2)
theorem shr_c {a n : Int} {ta tb to : Tok} (hkn : KN kv u lo hi)  : CallsR 9 w 135 [.str (PySem.Str.ofString ">>") to, .int a ta, .int n tb, kv] news (fun v n' => ((shr a n lo hi).Val v ∧ shr a n lo hi ≠ .fault) ∧ n' = news) (shr a n lo hi = .fault) := shift4 (by decide +kernel) (by decide +kernel) (.mk fun _ => shr_s hkn)
end
end

-- CK
section
theorem start_CK : True := by
  w_top off
  k_with_none
  (k_with "eval Constant str" => refine kstr ?_)
  (k_with "eval Constant int" => refine kint ?_)
  (k_with "eval Constant bytes" => refine kbyt ?_)
  (k_with "binaryOp Add int int" => with_reducible refine kadd ?_)
  (k_with "binaryOp Sub int int" => with_reducible refine ksub ?_)
  (k_with "unaryOp USub int" => with_reducible refine kneg ?_)
  (k_with "storeName" => (k_here; k_dflt (refine kstL (by k_asm) (by k_asm) ?_ (rfl) (rfl); k_whole; intro h9 F9 N9; (try k_sweep))))
  (k_with "newTuple" => (k_here; k_dflt (refine ktuK (by k_asm) (by k_asm) ?_ (by kmk_size)); intro D7 h7 F7 N7 l7; (try k_lt l7); (try k_sweep)))
  (k_with "newList" => (k_here; k_dflt (refine kltK (by k_asm) (by k_asm) ?_ (by size_fits)); intro D7 h7 F7 N7 l7; (try k_lt l7); (try k_sweep)))
  (k_with "steps9" => repeat' (first | (k_unfold; (try dsimp only)) | (k_end; wrow_close) | (walk1 <;> (try dsimp only)) | (dsimp only; walk1) | (leave1; walk_say "STEP leave1"; try dsimp only) | (with_reducible refine popN (by assumption) ?_) | (with_reducible refine popR (by assumption) ?_) | ((refine pop_ (by assumption) ?_); (try dsimp only)) | fail "no step"))
  (k_with "all9" => focus ((repeat (first | exact List.forall_mem_nil _ | with_reducible assumption | (refine List.forall_mem_cons.mpr ⟨by k_ne, ?_⟩))); done))
  (k_with "room9" => first | exact rl1 (by with_reducible assumption) (Nat.le_of_ble_eq_true rfl) | exact rl0 (by with_reducible assumption) (Nat.le_of_ble_eq_true rfl) | exact rl2 (by with_reducible assumption) (Nat.le_of_ble_eq_true rfl) | exact rlz (by assumption))
  (k_with "ne9" => (refine neN ?_; (try dsimp only); first | (refine Nat.ne_of_lt ?_; focus ((repeat (first | with_reducible assumption | exact cj0 (by with_reducible assumption) | exact cj1 (by with_reducible assumption) | exact cj2 (by with_reducible assumption) | exact cj3 (by with_reducible assumption) | exact cj4 (by with_reducible assumption) | exact cj5 (by with_reducible assumption) | exact cj6 (by with_reducible assumption) | exact cj7 (by with_reducible assumption) | exact cj8 (by with_reducible assumption) | exact cj9 (by with_reducible assumption) | exact cj10 (by with_reducible assumption) | exact cj11 (by with_reducible assumption) | exact cj12 (by with_reducible assumption) | exact cj13 (by with_reducible assumption) | exact cj14 (by with_reducible assumption) | exact cj15 (by with_reducible assumption) | (refine lt_tr (by with_reducible assumption) ?_))); done)) | (refine Nat.ne_of_gt ?_; focus ((repeat (first | with_reducible assumption | exact cj0 (by with_reducible assumption) | exact cj1 (by with_reducible assumption) | exact cj2 (by with_reducible assumption) | exact cj3 (by with_reducible assumption) | exact cj4 (by with_reducible assumption) | exact cj5 (by with_reducible assumption) | exact cj6 (by with_reducible assumption) | exact cj7 (by with_reducible assumption) | exact cj8 (by with_reducible assumption) | exact cj9 (by with_reducible assumption) | exact cj10 (by with_reducible assumption) | exact cj11 (by with_reducible assumption) | exact cj12 (by with_reducible assumption) | exact cj13 (by with_reducible assumption) | exact cj14 (by with_reducible assumption) | exact cj15 (by with_reducible assumption) | (refine lt_tr (by with_reducible assumption) ?_))); done))))
  (k_with "mem9" => focus ((repeat (first | with_reducible assumption | exact List.Mem.head _ | refine List.mem_cons_of_mem _ ?_)); done))
  trivial


theorem words_CK_21 : True := by
  (k_with "eval Call" => (((with_reducible show wpAny _ _ (eval (PySem.Expr.Call (PySem.Expr.Name _ _) _ [] _) _) _ _ _); k_dflt (refine Call_ ?_))))
  (k_with "eval Name" => ((k_here; k_dflt (first | (refine ld (by k_asm) (by exact rfl) ?_; k_whole) | (refine name_K (by k_asm) (by k_asm) (by k_asm) (by k_is) ?_; k_whole)))))
  trivial
/-- what `^` gives -/
def flip (u : Bool) (a lo hi : Int) : Res := if u then .int (hi - a) else kept lo hi (-1 - a)
theorem flip_f {a lo hi : Int} : flip false a lo hi = kept lo hi (-1 - a) := rfl
theorem flip_t {a lo hi : Int} : flip true a lo hi = .int (hi - a) := rfl
section
variable {w : World} {news : List (Addr × Obj)} {kv : Value} {u : Bool} {lo hi : Int}

theorem words_CK_22 : True := by
  (k_with "exec Raise some none" => ((k_here; refine raise_fault rfl ?_)))
  (k_with "call ref" => ((k_here; (with_reducible show wpAny _ _ (call (Value.ref 45) _) _ _ _); k_dflt (refine fault_made (by k_asm) (by k_asm) (by k_asm) (by k_asm) (by k_asm) (rfl) (rfl) (by first | exact rfl | assumption) (by ktr_room) ?_; k_whole); intro e9 t9 h9 tk9 oe9 F9 N9 hc9 hd9 hn9; (try dsimp only))))
  (k_with "FaultRaised" => ((refine fault_raised (by k_asm) (by k_asm) (by k_asm) (by assumption) (by assumption) ?_)))
  (k_with "leaving ref" => ((k_here; first | (refine leave_fault (by k_asm) (by k_asm) (by k_asm) (by assumption) (by assumption) (by assumption) ?_ (rfl) (by first | exact rfl | assumption); intro h9 RS9 U9; (try dsimp only)) | (refine leave_onE (by k_asm) (by k_asm) (by assumption) (by assumption) ?_ (rfl); intro h9 RS9 U9; (try dsimp only)))))
  (k_with "call ref" => (k_here; (with_reducible show wpAny _ _ (call (Value.ref 77) _) _ _ _); k_dflt (refine callsR_v (by k_asm) (by k_asm) (by k_asm) (by k_asm) (by k_asm) ?_; refine RestR.mk _ _ _ (within_range_c (by assumption)) (by first | exact rfl | assumption) (by ktr_room) (by ktr_units) ?_ ?_; k_whole); rotate_left; intro e9 g9 h9 tk9 R9 FG9 U9 RS9; (try dsimp only); rotate_left; intro v9 n9 h9 tk9 R9 F9 N9; obtain ⟨e9, e8, b9⟩ := R9; subst e9 e8; (try dsimp only); (try k_fold)))
  (k_with "call ref" => (k_here; (with_reducible show wpAny _ _ (call (Value.ref 56) _) _ _ _); k_dflt (refine callsR_v (by k_asm) (by k_asm) (by k_asm) (by k_asm) (by k_asm) ?_; refine RestR.eqF _ _ _ (is_unsigned_c (by assumption)) (by first | exact rfl | assumption) (by ktr_room) (by ktr_units) ?_; k_whole); intro h9 tk9 F9 N9; (try dsimp only); (try k_fold)))
  (k_with "call ref" => (k_here; (with_reducible show wpAny _ _ (call (Value.ref 63) _) _ _ _); k_dflt (refine callsR_v (by k_asm) (by k_asm) (by k_asm) (by k_asm) (by k_asm) ?_; refine RestR.mkF _ _ (int_range_c (by assumption)) (by first | exact rfl | assumption) (by ktr_room) (by ktr_units) ?_; k_whole); intro v9 n9 h9 tk9 R9 F9 N9; obtain ⟨a9, t1, t2, e9, e8, l9⟩ := R9; subst e9 e8; (try dsimp only); (try k_fold)))
  trivial
set_option maxHeartbeats 8000000 in
theorem neg_c {a : Int} {ta to : Tok} (hkn : KN kv u lo hi) : CallsR 8 w 92 [.str (PySem.Str.ofString "-") to, .int a ta, kv] news (fun v n' => ((kept lo hi (0 - a)).Val v ∧ (kept lo hi (0 - a)) ≠ .fault) ∧ n' = news) ((kept lo hi (0 - a)) = .fault) := by
  w_on
  unfold CallsR
  k_fill
  intro p loose mean mg mb dp un gd cn cs fa ccd cl outer A₀ base h₀ L m hS gS dS tS oS Q E hB hF hX hN hT hk hd hu hret hrais
  refine wpAny_call ?_
  k_dflt (refine' code_def (binds := [(PySem.Str.ofString "op", .str (PySem.Str.ofString "-") to), (PySem.Str.ofString "value", .int a ta), (PySem.Str.ofString "kind", kv)]) ?k1 ?k2 ?k3 ?k4 ?k5 ?kA ?kF ?kK ?k6 ?k7 ?k8 ?k9 ?kB ?_ ?c2 ?c3 ?c4 ?c5; (case kA => exact rfl); (case kF => exact rfl); (case kK => assumption); (case k1 => k_asm); (case k2 => k_asm); (case k3 => k_asm); (case k4 => k_asm); (case k5 => k_asm); (case k6 => k_is); (case k7 => k_is); (case k8 => ktr_room); (case k9 => exact binds_cast (binds_K (by k_in) rfl (by k_is) rfl rfl rfl) (by kernel_rfl)); (case c5 => decide); (case kB => exact locs rfl); (case c2 => exact rfl); (case c3 => exact rfl); (case c4 => exact rfl); k_whole; intro g' L' h' FG' F' N' B' X' T'; (try dsimp only [List.reverse_cons, List.reverse_nil, List.nil_append, List.cons_append, List.length_cons, List.length_nil] at F' ⊢); (try k_lift B'); (try k_fold))
  k_steps
  all_goals first
    | exact hret _ _ _ _ ⟨kept_in (by assumption), rfl⟩ (by k_asm) (by first | k_asm | exact news_tl (by k_asm) | exact news_tl (news_tl (by k_asm)))
    | exact hret _ _ _ _ ⟨by rw [flip_t]; exact ⟨⟨_, rfl⟩, by intro z; cases z⟩, rfl⟩ (by k_asm) (by first | k_asm | exact news_tl (by k_asm) | exact news_tl (news_tl (by k_asm)))
    | exact hret _ _ _ _ ⟨by rw [flip_f]; exact kept_in (by assumption), rfl⟩ (by k_asm) (by first | k_asm | exact news_tl (by k_asm) | exact news_tl (news_tl (by k_asm)))
    | ((refine' hrais _ _ _ _ ?_ ?_ ?_ (by first | assumption | exact raised_tl (by assumption) | exact raised_tl (raised_tl (by assumption)))) <;> first | assumption | k_asm | exact kept_out (by assumption) | (rw [flip_f]; exact kept_out (by assumption)))
    | contradiction
    | trace_state


set_option maxHeartbeats 8000000 in
theorem pos_c {a : Int} {ta to : Tok} (hkn : KN kv u lo hi) : CallsR 8 w 92 [.str (PySem.Str.ofString "+") to, .int a ta, kv] news (fun v n' => ((kept lo hi a).Val v ∧ (kept lo hi a) ≠ .fault) ∧ n' = news) ((kept lo hi a) = .fault) := by
  w_on
  unfold CallsR
  k_fill
  intro p loose mean mg mb dp un gd cn cs fa ccd cl outer A₀ base h₀ L m hS gS dS tS oS Q E hB hF hX hN hT hk hd hu hret hrais
  refine wpAny_call ?_
  k_dflt (refine' code_def (binds := [(PySem.Str.ofString "op", .str (PySem.Str.ofString "+") to), (PySem.Str.ofString "value", .int a ta), (PySem.Str.ofString "kind", kv)]) ?k1 ?k2 ?k3 ?k4 ?k5 ?kA ?kF ?kK ?k6 ?k7 ?k8 ?k9 ?kB ?_ ?c2 ?c3 ?c4 ?c5; (case kA => exact rfl); (case kF => exact rfl); (case kK => assumption); (case k1 => k_asm); (case k2 => k_asm); (case k3 => k_asm); (case k4 => k_asm); (case k5 => k_asm); (case k6 => k_is); (case k7 => k_is); (case k8 => ktr_room); (case k9 => exact binds_cast (binds_K (by k_in) rfl (by k_is) rfl rfl rfl) (by kernel_rfl)); (case c5 => decide); (case kB => exact locs rfl); (case c2 => exact rfl); (case c3 => exact rfl); (case c4 => exact rfl); k_whole; intro g' L' h' FG' F' N' B' X' T'; (try dsimp only [List.reverse_cons, List.reverse_nil, List.nil_append, List.cons_append, List.length_cons, List.length_nil] at F' ⊢); (try k_lift B'); (try k_fold))
  k_steps
  all_goals first
    | exact hret _ _ _ _ ⟨kept_in (by assumption), rfl⟩ (by k_asm) (by first | k_asm | exact news_tl (by k_asm) | exact news_tl (news_tl (by k_asm)))
    | exact hret _ _ _ _ ⟨by rw [flip_t]; exact ⟨⟨_, rfl⟩, by intro z; cases z⟩, rfl⟩ (by k_asm) (by first | k_asm | exact news_tl (by k_asm) | exact news_tl (news_tl (by k_asm)))
    | exact hret _ _ _ _ ⟨by rw [flip_f]; exact kept_in (by assumption), rfl⟩ (by k_asm) (by first | k_asm | exact news_tl (by k_asm) | exact news_tl (news_tl (by k_asm)))
    | ((refine' hrais _ _ _ _ ?_ ?_ ?_ (by first | assumption | exact raised_tl (by assumption) | exact raised_tl (raised_tl (by assumption)))) <;> first | assumption | k_asm | exact kept_out (by assumption) | (rw [flip_f]; exact kept_out (by assumption)))
    | contradiction
    | trace_state


set_option maxHeartbeats 8000000 in
theorem flip_c {a : Int} {ta to : Tok} (hkn : KN kv u lo hi) : CallsR 8 w 92 [.str (PySem.Str.ofString "^") to, .int a ta, kv] news (fun v n' => ((flip u a lo hi).Val v ∧ (flip u a lo hi) ≠ .fault) ∧ n' = news) ((flip u a lo hi) = .fault) := by
  w_on
  unfold CallsR
  k_fill
  intro p loose mean mg mb dp un gd cn cs fa ccd cl outer A₀ base h₀ L m hS gS dS tS oS Q E hB hF hX hN hT hk hd hu hret hrais
  have hkn0 := hkn
  refine wpAny_call ?_
  k_dflt (refine' code_def (binds := [(PySem.Str.ofString "op", .str (PySem.Str.ofString "^") to), (PySem.Str.ofString "value", .int a ta), (PySem.Str.ofString "kind", kv)]) ?k1 ?k2 ?k3 ?k4 ?k5 ?kA ?kF ?kK ?k6 ?k7 ?k8 ?k9 ?kB ?_ ?c2 ?c3 ?c4 ?c5; (case kA => exact rfl); (case kF => exact rfl); (case kK => assumption); (case k1 => k_asm); (case k2 => k_asm); (case k3 => k_asm); (case k4 => k_asm); (case k5 => k_asm); (case k6 => k_is); (case k7 => k_is); (case k8 => ktr_room); (case k9 => exact binds_cast (binds_K (by k_in) rfl (by k_is) rfl rfl rfl) (by kernel_rfl)); (case c5 => decide); (case kB => exact locs rfl); (case c2 => exact rfl); (case c3 => exact rfl); (case c4 => exact rfl); k_whole; intro g' L' h' FG' F' N' B' X' T'; (try dsimp only [List.reverse_cons, List.reverse_nil, List.nil_append, List.cons_append, List.length_cons, List.length_nil] at F' ⊢); (try k_lift B'); (try k_fold))
  refine seg0 ?_
  k_steps
  refine .mk ?_
  (try dsimp only)
  refine seg0 ?_
  k_steps
  refine .mk ?_
  (try dsimp only)
  refine seg0 ?_
  k_steps
  refine .mk ?_
  (try dsimp only)
  refine seg0 ?_
  k_steps
  refine .mk ?_
  (try dsimp only)
  cases hkn
  case none =>
    k_steps
    all_goals first
      | exact hret _ _ _ _ ⟨kept_in (by assumption), rfl⟩ (by k_asm) (by first | k_asm | exact news_tl (by k_asm) | exact news_tl (news_tl (by k_asm)))
      | exact hret _ _ _ _ ⟨by rw [flip_t]; exact ⟨⟨_, rfl⟩, by intro z; cases z⟩, rfl⟩ (by k_asm) (by first | k_asm | exact news_tl (by k_asm) | exact news_tl (news_tl (by k_asm)))
      | exact hret _ _ _ _ ⟨by rw [flip_f]; exact kept_in (by assumption), rfl⟩ (by k_asm) (by first | k_asm | exact news_tl (by k_asm) | exact news_tl (news_tl (by k_asm)))
      | ((refine' hrais _ _ _ _ ?_ ?_ ?_ (by first | assumption | exact raised_tl (by assumption) | exact raised_tl (raised_tl (by assumption)))) <;> first | assumption | k_asm | exact kept_out (by assumption) | (rw [flip_f]; exact kept_out (by assumption)))
      | contradiction
      | trace_state
  case some hkv =>
    obtain ⟨x, tx, rfl, hx6⟩ := hkv.text
    cases u
    all_goals k_steps
    all_goals first
      | exact hret _ _ _ _ ⟨kept_in (by assumption), rfl⟩ (by k_asm) (by first | k_asm | exact news_tl (by k_asm) | exact news_tl (news_tl (by k_asm)))
      | exact hret _ _ _ _ ⟨by rw [flip_t]; exact ⟨⟨_, rfl⟩, by intro z; cases z⟩, rfl⟩ (by k_asm) (by first | k_asm | exact news_tl (by k_asm) | exact news_tl (news_tl (by k_asm)))
      | exact hret _ _ _ _ ⟨by rw [flip_f]; exact kept_in (by assumption), rfl⟩ (by k_asm) (by first | k_asm | exact news_tl (by k_asm) | exact news_tl (news_tl (by k_asm)))
      | ((refine' hrais _ _ _ _ ?_ ?_ ?_ (by first | assumption | exact raised_tl (by assumption) | exact raised_tl (raised_tl (by assumption)))) <;> first | assumption | k_asm | exact kept_out (by assumption) | (rw [flip_f]; exact kept_out (by assumption)))
      | contradiction
      | trace_state
end
end

-- GA
section
theorem start_GA : True := by
  w_top off
  k_with_none
  (k_with "eval Constant str" => refine kstr ?_)
  (k_with "eval Constant int" => refine kint ?_)
  (k_with "eval Constant bytes" => refine kbyt ?_)
  (k_with "binaryOp Add int int" => with_reducible refine kadd ?_)
  (k_with "binaryOp Sub int int" => with_reducible refine ksub ?_)
  (k_with "unaryOp USub int" => with_reducible refine kneg ?_)
  (k_with "storeName" => (k_here; k_dflt (refine kstL (by k_asm) (by k_asm) ?_ (rfl) (rfl); k_whole; intro h9 F9 N9; (try k_sweep))))
  (k_with "newTuple" => (k_here; k_dflt (refine ktuK (by k_asm) (by k_asm) ?_ (by kmk_size)); intro D7 h7 F7 N7 l7; (try k_lt l7); (try k_sweep)))
  (k_with "newList" => (k_here; k_dflt (refine kltK (by k_asm) (by k_asm) ?_ (by size_fits)); intro D7 h7 F7 N7 l7; (try k_lt l7); (try k_sweep)))
  (k_with "steps9" => repeat' (first | (k_unfold; (try dsimp only)) | (k_end; wrow_close) | (walk1 <;> (try dsimp only)) | (dsimp only; walk1) | (leave1; walk_say "STEP leave1"; try dsimp only) | (with_reducible refine popN (by assumption) ?_) | (with_reducible refine popR (by assumption) ?_) | ((refine pop_ (by assumption) ?_); (try dsimp only)) | fail "no step"))
  (k_with "all9" => focus ((repeat (first | exact List.forall_mem_nil _ | with_reducible assumption | (refine List.forall_mem_cons.mpr ⟨by k_ne, ?_⟩))); done))
  (k_with "room9" => first | exact rl1 (by with_reducible assumption) (Nat.le_of_ble_eq_true rfl) | exact rl0 (by with_reducible assumption) (Nat.le_of_ble_eq_true rfl) | exact rl2 (by with_reducible assumption) (Nat.le_of_ble_eq_true rfl) | exact rlz (by assumption))
  (k_with "ne9" => (refine neN ?_; (try dsimp only); first | (refine Nat.ne_of_lt ?_; focus ((repeat (first | with_reducible assumption | exact cj0 (by with_reducible assumption) | exact cj1 (by with_reducible assumption) | exact cj2 (by with_reducible assumption) | exact cj3 (by with_reducible assumption) | exact cj4 (by with_reducible assumption) | exact cj5 (by with_reducible assumption) | exact cj6 (by with_reducible assumption) | exact cj7 (by with_reducible assumption) | exact cj8 (by with_reducible assumption) | exact cj9 (by with_reducible assumption) | exact cj10 (by with_reducible assumption) | exact cj11 (by with_reducible assumption) | exact cj12 (by with_reducible assumption) | exact cj13 (by with_reducible assumption) | exact cj14 (by with_reducible assumption) | exact cj15 (by with_reducible assumption) | (refine lt_tr (by with_reducible assumption) ?_))); done)) | (refine Nat.ne_of_gt ?_; focus ((repeat (first | with_reducible assumption | exact cj0 (by with_reducible assumption) | exact cj1 (by with_reducible assumption) | exact cj2 (by with_reducible assumption) | exact cj3 (by with_reducible assumption) | exact cj4 (by with_reducible assumption) | exact cj5 (by with_reducible assumption) | exact cj6 (by with_reducible assumption) | exact cj7 (by with_reducible assumption) | exact cj8 (by with_reducible assumption) | exact cj9 (by with_reducible assumption) | exact cj10 (by with_reducible assumption) | exact cj11 (by with_reducible assumption) | exact cj12 (by with_reducible assumption) | exact cj13 (by with_reducible assumption) | exact cj14 (by with_reducible assumption) | exact cj15 (by with_reducible assumption) | (refine lt_tr (by with_reducible assumption) ?_))); done))))
  (k_with "mem9" => focus ((repeat (first | with_reducible assumption | exact List.Mem.head _ | refine List.mem_cons_of_mem _ ?_)); done))
  trivial


theorem words_GA_23 : True := by
  (k_with "eval Call" => (((with_reducible show wpAny _ _ (eval (PySem.Expr.Call (PySem.Expr.Name _ _) _ [] _) _) _ _ _); k_dflt (refine Call_ ?_))))
  (k_with "eval Name" => ((k_here; k_dflt (first | (refine ld (by k_asm) (by exact rfl) ?_; k_whole) | (refine name_K (by k_asm) (by k_asm) (by k_asm) (by k_is) ?_; k_whole)))))
  trivial
section
variable {w : World} {news : List (Addr × Obj)}

theorem words_GA_24 : True := by
  (k_with "exec Raise some none" => ((k_here; refine raise_fault rfl ?_)))
  (k_with "call ref" => ((k_here; (with_reducible show wpAny _ _ (call (Value.ref 45) _) _ _ _); k_dflt (refine fault_made (by k_asm) (by k_asm) (by k_asm) (by k_asm) (by k_asm) (rfl) (rfl) (by first | exact rfl | assumption) (by ktr_room) ?_; k_whole); intro e9 t9 h9 tk9 oe9 F9 N9 hc9 hd9 hn9; (try dsimp only))))
  (k_with "FaultRaised" => ((refine fault_raised (by k_asm) (by k_asm) (by k_asm) (by assumption) (by assumption) ?_)))
  (k_with "leaving ref" => ((k_here; first | (refine leave_fault (by k_asm) (by k_asm) (by k_asm) (by assumption) (by assumption) (by assumption) ?_ (rfl) (by first | exact rfl | assumption); intro h9 RS9 U9; (try dsimp only)) | (refine leave_onE (by k_asm) (by k_asm) (by assumption) (by assumption) ?_ (rfl); intro h9 RS9 U9; (try dsimp only)))))
  (k_with "call ref" => (k_here; (with_reducible show wpAny _ _ (call (Value.ref 127) _) _ _ _); k_dflt (refine callsR_v (by k_asm) (by k_asm) (by k_asm) (by k_asm) (by k_asm) ?_; refine RestR.ledF _ _ _ sort_int_c (by first | exact rfl | assumption) (by ktr_room) (by ktr_units) ?_; k_whole); intro v9 h9 tk9 R9 F9 N9; obtain ⟨t9, e9⟩ := R9; subst e9; (try dsimp only); (try k_fold)))
  (k_with "call ref" => (k_here; (with_reducible show wpAny _ _ (call (Value.ref 113) _) _ _ _); k_dflt (refine callsR_v (by k_asm) (by k_asm) (by k_asm) (by k_asm) (by k_asm) ?_; refine RestR.mk _ _ _ (int_binary_c (by assumption) (by assumption) (by assumption) (by assumption)) (by first | exact rfl | assumption) (by ktr_room) (by ktr_units) ?_ ?_; k_whole); rotate_left; intro e9 g9 h9 tk9 R9 FG9 U9 RS9; (try dsimp only); rotate_left; intro v9 n9 h9 tk9 R9 F9 N9; obtain ⟨⟨t9, e9⟩, e8, b9⟩ := R9; subst e9 e8; (try dsimp only); (try k_fold)))
  (k_with "call ref" => (k_here; (with_reducible show wpAny _ _ (call (Value.ref 77) _) _ _ _); k_dflt (refine callsR_v (by k_asm) (by k_asm) (by k_asm) (by k_asm) (by k_asm) ?_; refine RestR.mk _ _ _ (within_range_c (by assumption)) (by first | exact rfl | assumption) (by ktr_room) (by ktr_units) ?_ ?_; k_whole); rotate_left; intro e9 g9 h9 tk9 R9 FG9 U9 RS9; (try dsimp only); rotate_left; intro v9 n9 h9 tk9 R9 F9 N9; obtain ⟨e9, e8, b9⟩ := R9; subst e9 e8; (try dsimp only); (try k_fold)))
  (k_with "compareOp In str ref" => ((k_here; k_dflt (first | (refine in_comps_as (by k_asm) (by k_asm) (by assumption) ?_) | (refine in_two (by k_asm) (by with_reducible exact List.Mem.head _) (by assumption) ?_)))))
  trivial
set_option maxHeartbeats 8000000 in
theorem ar3_c {a b : Int} {ta tb to : Tok} {o : Op} (ho : isCmp o = false) (hm : IntMulOk a b) (hm2 : IntMulOk b (a.tdiv b)) (hb : b.natAbs.log2 < 9000) : CallsR 9 w 135 [.str o.text to, .int a ta, .int b tb] news (fun v n' => ((spec o a b (1 - 2 ^ 512) (2 ^ 512 - 1)).Val v ∧ spec o a b (1 - 2 ^ 512) (2 ^ 512 - 1) ≠ .fault) ∧ n' = news) (spec o a b (1 - 2 ^ 512) (2 ^ 512 - 1) = .fault) := by
  w_on
  unfold CallsR
  k_fill
  intro p loose mean mg mb dp un gd cn cs fa ccd cl outer A₀ base h₀ L m hS gS dS tS oS Q E hB hF hX hN hT hk hd hu hret hrais
  have hkn := KN.none
  have hsh := shifts_is o
  have hcm := comps_is o
  rw [ho] at hcm
  refine wpAny_call ?_
  k_dflt (refine' code_def (binds := [(PySem.Str.ofString "op", .str o.text to), (PySem.Str.ofString "a", .int a ta), (PySem.Str.ofString "b", .int b tb), (PySem.Str.ofString "kind", .none)]) ?k1 ?k2 ?k3 ?k4 ?k5 ?kA ?kF ?kK ?k6 ?k7 ?k8 ?k9 ?kB ?_ ?c2 ?c3 ?c4 ?c5; (case kA => exact rfl); (case kF => exact rfl); (case kK => assumption); (case k1 => k_asm); (case k2 => k_asm); (case k3 => k_asm); (case k4 => k_asm); (case k5 => k_asm); (case k6 => k_is); (case k7 => k_is); (case k8 => ktr_room); (case k9 => exact binds_cast (binds_K (by k_in) rfl (by k_is) rfl rfl rfl) (by kernel_rfl)); (case c5 => decide); (case kB => exact locs rfl); (case c2 => exact rfl); (case c3 => exact rfl); (case c4 => exact rfl); k_whole; intro g' L' h' FG' F' N' B' X' T'; (try dsimp only [List.reverse_cons, List.reverse_nil, List.nil_append, List.cons_append, List.length_cons, List.length_nil] at F' ⊢); (try k_lift B'); (try k_fold))
  k_steps
  all_goals first
      | exact hret _ _ _ _ ⟨spec_in (by assumption) (by assumption) (by assumption), rfl⟩ (by k_asm) (by first | k_asm | exact news_tl (by k_asm) | exact news_tl (news_tl (by k_asm)))
      | ((refine' hrais _ _ _ _ ?_ ?_ ?_ (by first | assumption | exact raised_tl (by assumption) | exact raised_tl (raised_tl (by assumption)))) <;> first | assumption | k_asm | exact spec_zero (by assumption) | exact spec_out (by assumption) (by assumption) (by assumption))
      | trace_state
theorem mul3_c {a b : Int} {ta tb to : Tok} (hm : IntMulOk a b) (hm2 : IntMulOk b (a.tdiv b)) (hb : b.natAbs.log2 < 9000) : CallsR 9 w 135 [.str (PySem.Str.ofString "*") to, .int a ta, .int b tb] news (fun v n' => ((spec .mul a b (1 - 2 ^ 512) (2 ^ 512 - 1)).Val v ∧ spec .mul a b (1 - 2 ^ 512) (2 ^ 512 - 1) ≠ .fault) ∧ n' = news) (spec .mul a b (1 - 2 ^ 512) (2 ^ 512 - 1) = .fault) := ar3_c (o := .mul) rfl hm hm2 hb
theorem div3_c {a b : Int} {ta tb to : Tok} (hm : IntMulOk a b) (hm2 : IntMulOk b (a.tdiv b)) (hb : b.natAbs.log2 < 9000) : CallsR 9 w 135 [.str (PySem.Str.ofString "/") to, .int a ta, .int b tb] news (fun v n' => ((spec .div a b (1 - 2 ^ 512) (2 ^ 512 - 1)).Val v ∧ spec .div a b (1 - 2 ^ 512) (2 ^ 512 - 1) ≠ .fault) ∧ n' = news) (spec .div a b (1 - 2 ^ 512) (2 ^ 512 - 1) = .fault) := ar3_c (o := .div) rfl hm hm2 hb
theorem mod3_c {a b : Int} {ta tb to : Tok} (hm : IntMulOk a b) (hm2 : IntMulOk b (a.tdiv b)) (hb : b.natAbs.log2 < 9000) : CallsR 9 w 135 [.str (PySem.Str.ofString "%") to, .int a ta, .int b tb] news (fun v n' => ((spec .mod a b (1 - 2 ^ 512) (2 ^ 512 - 1)).Val v ∧ spec .mod a b (1 - 2 ^ 512) (2 ^ 512 - 1) ≠ .fault) ∧ n' = news) (spec .mod a b (1 - 2 ^ 512) (2 ^ 512 - 1) = .fault) := ar3_c (o := .mod) rfl hm hm2 hb
theorem words_GA_25 : True := by
  (k_with "call ref" => (k_here; (with_reducible show wpAny _ _ (call (Value.ref 106) _) _ _ _); k_dflt (refine callsR_v (by k_asm) (by k_asm) (by k_asm) (by k_asm) (by k_asm) ?_; refine RestR.led _ _ _ _ (Fam.at (by assumption)) (by first | exact rfl | assumption) (by ktr_room) (by ktr_units) ?_ ?_; k_whole); rotate_left; intro e9 g9 h9 tk9 R9 FG9 U9 RS9; (try dsimp only); rotate_left; intro v9 h9 tk9 R9 F9 N9; (try dsimp only); (try k_fold)))
  trivial
set_option maxHeartbeats 8000000 in
theorem shift3 {x : PySem.Str} {a n : Int} {ta tb to : Tok} {R : Value → Prop} {Rais : Prop} (hc : compsL.any (· == x) = false) (hs : [PySem.Str.ofString "<<", PySem.Str.ofString ">>"].any (· == x) = true) (C : Fam 7 w 106 [.str x to, .int a ta, .int n tb, .none] R Rais) : CallsR 9 w 135 [.str x to, .int a ta, .int n tb] news (fun v n' => R v ∧ n' = news) Rais := by
  w_on
  unfold CallsR
  k_fill
  intro p loose mean mg mb dp un gd cn cs fa ccd cl outer A₀ base h₀ L m hS gS dS tS oS Q E hB hF hX hN hT hk hd hu hret hrais
  refine wpAny_call ?_
  k_dflt (refine' code_def (binds := [(PySem.Str.ofString "op", .str x to), (PySem.Str.ofString "a", .int a ta), (PySem.Str.ofString "b", .int n tb), (PySem.Str.ofString "kind", .none)]) ?k1 ?k2 ?k3 ?k4 ?k5 ?kA ?kF ?kK ?k6 ?k7 ?k8 ?k9 ?kB ?_ ?c2 ?c3 ?c4 ?c5; (case kA => exact rfl); (case kF => exact rfl); (case kK => assumption); (case k1 => k_asm); (case k2 => k_asm); (case k3 => k_asm); (case k4 => k_asm); (case k5 => k_asm); (case k6 => k_is); (case k7 => k_is); (case k8 => ktr_room); (case k9 => exact binds_cast (binds_K (by k_in) rfl (by k_is) rfl rfl rfl) (by kernel_rfl)); (case c5 => decide); (case kB => exact locs rfl); (case c2 => exact rfl); (case c3 => exact rfl); (case c4 => exact rfl); k_whole; intro g' L' h' FG' F' N' B' X' T'; (try dsimp only [List.reverse_cons, List.reverse_nil, List.nil_append, List.cons_append, List.length_cons, List.length_nil] at F' ⊢); (try k_lift B'); (try k_fold))
  k_steps
  all_goals first
      | exact hret _ _ _ _ ⟨by assumption, rfl⟩ (by k_asm) (by first | k_asm | exact news_tl (by k_asm) | exact news_tl (news_tl (by k_asm)))
      | ((refine' hrais _ _ _ _ ?_ ?_ ?_ (by first | assumption | exact raised_tl (by assumption) | exact raised_tl (raised_tl (by assumption)))) <;> first | assumption | k_asm)
      | trace_state
theorem shl3_c {a n : Int} {ta tb to : Tok} (ha : -18446744073709551616 < a) (ha2 : a < 18446744073709551616)  : CallsR 9 w 135 [.str (PySem.Str.ofString "<<") to, .int a ta, .int n tb] news (fun v n' => ((shl a n (1 - 2 ^ 512) (2 ^ 512 - 1)).Val v ∧ shl a n (1 - 2 ^ 512) (2 ^ 512 - 1) ≠ .fault) ∧ n' = news) (shl a n (1 - 2 ^ 512) (2 ^ 512 - 1) = .fault) := shift3 (by decide +kernel) (by decide +kernel) (.mk fun _ => shl_s .none ha ha2)
theorem shr3_c {a n : Int} {ta tb to : Tok}  : CallsR 9 w 135 [.str (PySem.Str.ofString ">>") to, .int a ta, .int n tb] news (fun v n' => ((shr a n (1 - 2 ^ 512) (2 ^ 512 - 1)).Val v ∧ shr a n (1 - 2 ^ 512) (2 ^ 512 - 1) ≠ .fault) ∧ n' = news) (shr a n (1 - 2 ^ 512) (2 ^ 512 - 1) = .fault) := shift3 (by decide +kernel) (by decide +kernel) (.mk fun _ => shr_s .none)
end
end

-- SA
section
theorem start_SA : True := by
  w_top off
  k_with_none
  (k_with "eval Constant str" => refine kstr ?_)
  (k_with "eval Constant int" => refine kint ?_)
  (k_with "eval Constant bytes" => refine kbyt ?_)
  (k_with "binaryOp Add int int" => with_reducible refine kadd ?_)
  (k_with "binaryOp Sub int int" => with_reducible refine ksub ?_)
  (k_with "unaryOp USub int" => with_reducible refine kneg ?_)
  (k_with "storeName" => (k_here; k_dflt (refine kstL (by k_asm) (by k_asm) ?_ (rfl) (rfl); k_whole; intro h9 F9 N9; (try k_sweep))))
  (k_with "newTuple" => (k_here; k_dflt (refine ktuK (by k_asm) (by k_asm) ?_ (by kmk_size)); intro D7 h7 F7 N7 l7; (try k_lt l7); (try k_sweep)))
  (k_with "newList" => (k_here; k_dflt (refine kltK (by k_asm) (by k_asm) ?_ (by size_fits)); intro D7 h7 F7 N7 l7; (try k_lt l7); (try k_sweep)))
  (k_with "steps9" => repeat' (first | (k_unfold; (try dsimp only)) | (k_end; wrow_close) | (walk1 <;> (try dsimp only)) | (dsimp only; walk1) | (leave1; walk_say "STEP leave1"; try dsimp only) | (with_reducible refine popN (by assumption) ?_) | (with_reducible refine popR (by assumption) ?_) | ((refine pop_ (by assumption) ?_); (try dsimp only)) | fail "no step"))
  (k_with "all9" => focus ((repeat (first | exact List.forall_mem_nil _ | with_reducible assumption | (refine List.forall_mem_cons.mpr ⟨by k_ne, ?_⟩))); done))
  (k_with "room9" => first | exact rl1 (by with_reducible assumption) (Nat.le_of_ble_eq_true rfl) | exact rl0 (by with_reducible assumption) (Nat.le_of_ble_eq_true rfl) | exact rl2 (by with_reducible assumption) (Nat.le_of_ble_eq_true rfl) | exact rlz (by assumption))
  (k_with "ne9" => (refine neN ?_; (try dsimp only); first | (refine Nat.ne_of_lt ?_; focus ((repeat (first | with_reducible assumption | exact cj0 (by with_reducible assumption) | exact cj1 (by with_reducible assumption) | exact cj2 (by with_reducible assumption) | exact cj3 (by with_reducible assumption) | exact cj4 (by with_reducible assumption) | exact cj5 (by with_reducible assumption) | exact cj6 (by with_reducible assumption) | exact cj7 (by with_reducible assumption) | exact cj8 (by with_reducible assumption) | exact cj9 (by with_reducible assumption) | exact cj10 (by with_reducible assumption) | exact cj11 (by with_reducible assumption) | exact cj12 (by with_reducible assumption) | exact cj13 (by with_reducible assumption) | exact cj14 (by with_reducible assumption) | exact cj15 (by with_reducible assumption) | (refine lt_tr (by with_reducible assumption) ?_))); done)) | (refine Nat.ne_of_gt ?_; focus ((repeat (first | with_reducible assumption | exact cj0 (by with_reducible assumption) | exact cj1 (by with_reducible assumption) | exact cj2 (by with_reducible assumption) | exact cj3 (by with_reducible assumption) | exact cj4 (by with_reducible assumption) | exact cj5 (by with_reducible assumption) | exact cj6 (by with_reducible assumption) | exact cj7 (by with_reducible assumption) | exact cj8 (by with_reducible assumption) | exact cj9 (by with_reducible assumption) | exact cj10 (by with_reducible assumption) | exact cj11 (by with_reducible assumption) | exact cj12 (by with_reducible assumption) | exact cj13 (by with_reducible assumption) | exact cj14 (by with_reducible assumption) | exact cj15 (by with_reducible assumption) | (refine lt_tr (by with_reducible assumption) ?_))); done))))
  (k_with "mem9" => focus ((repeat (first | with_reducible assumption | exact List.Mem.head _ | refine List.mem_cons_of_mem _ ?_)); done))
  trivial


theorem words_SA_26 : True := by
  (k_with "eval Call" => (((with_reducible show wpAny _ _ (eval (PySem.Expr.Call (PySem.Expr.Name _ _) _ [] _) _) _ _ _); k_dflt (refine Call_ ?_))))
  (k_with "eval Name" => ((k_here; k_dflt (first | (refine ld (by k_asm) (by exact rfl) ?_; k_whole) | (refine name_K (by k_asm) (by k_asm) (by k_asm) (by k_is) ?_; k_whole)))))
  trivial
/-- the rows that are refused -/
inductive BadRow : PySem.Str → Value → Value → Prop
  | r1 (a b : Bool) : BadRow (PySem.Str.ofString "+") (.bool a) (.bool b)
  | r2 (a b : Bool) : BadRow (PySem.Str.ofString "<") (.bool a) (.bool b)
  | r3 (x y : Array UInt8) (t u : Tok) : BadRow (PySem.Str.ofString "-") (.bytes x t) (.bytes y u)
  | r4 (i : Int) (y : Array UInt8) (t u : Tok) : BadRow (PySem.Str.ofString "+") (.int i t) (.bytes y u)
  | r5 (a : Bool) (i : Int) (u : Tok) : BadRow (PySem.Str.ofString "==") (.bool a) (.int i u)
  | r6 (i j : Int) (t u : Tok) : BadRow (PySem.Str.ofString "&&") (.int i t) (.int j u)
  | r7 (x : Array UInt8) (j : Int) (t u : Tok) : BadRow (PySem.Str.ofString "<<") (.bytes x t) (.int j u)
  | r8 (i j : Int) (t u : Tok) : BadRow (PySem.Str.ofString "**") (.int i t) (.int j u)
  | r9 (i j : Int) (t u : Tok) : BadRow (PySem.Str.ofString "!") (.int i t) (.int j u)
  | r10 (x y : Array UInt8) (t u : Tok) : BadRow (PySem.Str.ofString "%") (.bytes x t) (.bytes y u)
  | r11 (x : Array UInt8) (j : Int) (t u : Tok) : BadRow (PySem.Str.ofString "==") (.bytes x t) (.int j u)
/-- the signs that are refused -/
inductive BadSign : PySem.Str → Value → Prop
  | s1 (i : Int) (t : Tok) : BadSign (PySem.Str.ofString "!") (.int i t)
  | s2 (a : Bool) : BadSign (PySem.Str.ofString "-") (.bool a)
  | s3 (x : Array UInt8) (t : Tok) : BadSign (PySem.Str.ofString "^") (.bytes x t)
  | s4 (x : Array UInt8) (t : Tok) : BadSign (PySem.Str.ofString "+") (.bytes x t)
  | s5 (i : Int) (t : Tok) : BadSign (PySem.Str.ofString "&") (.int i t)

theorem slot_bytes_lt : Slot "bytes" (cmpInfo .Lt).2.1 "bytes.__lt__" :=
  .of (owner := "bytes") (n := "__lt__") (by rw [typeLookup_type, builtinLookup_eq_fast]; kernel_rfl) (by decide +kernel) (by decide +kernel) (by decide +kernel)
    (by first | exact .inl (by decide +kernel) | exact .inr (by decide +kernel)) (by rw [isSubtype_type]; kernel_rfl)
theorem entry_bytes_lt : entryFor table "bytes.__lt__" = some Builtin.«bytes.__lt__» := entryFor_of_tree (by kernel_rfl)
theorem args_bytes_lt (a b : Value) : argsOk "bytes.__lt__" ⟨[a, b], []⟩ := by
  unfold argsOk; rw [signature?_of (id := "bytes.__lt__") (n := ['_', '_', 't', 'l', '_', '_']) (o := ['s', 'e', 't', 'y', 'b']) (by kernel_rfl) FB.owner_bytes]; kernel_rfl
theorem gives_bytes_lt (b c : Array UInt8) (t u : Tok) : Gives (Builtin.«bytes.__lt__» ⟨[.bytes b t, .bytes c u], []⟩) (.val (.bool (Builtin.Bytes.order b.toList c.toList == .lt))) := by
  refine .of_wp fun M A E s Q hq => ?_
  show wpAny M A (isInstance (.bytes c u) (.type "bytes") >>= fun r => _) _ E s
  refine wpAny_bind (wpAny_isInstance (typeIs_bytes s c u) F.sub_bytes_bytes ?_)
  exact wpAny_pure ⟨_, rfl, hq⟩
theorem lt_bytes {prog : Program} {w : World} {A : Around} {E : Value → Shared → Prop} {s : Shared} {b c : Array UInt8} {t u : Tok} {Q : Value → Shared → Prop} (h : Q (.bool (Builtin.Bytes.order b.toList c.toList == .lt)) s) : wpAny (model prog w) A (compareOp .Lt (.bytes b t) (.bytes c u)) Q E s :=
  compareOp_gives (op := .Lt) (typeIs_bytes s b t) (typeIs_bytes s c u) slot_bytes_lt entry_bytes_lt (args_bytes_lt _ _) (gives_bytes_lt b c t u) (fun e => nomatch e) h
theorem eq_str_as {prog : Program} {w : World} {A : Around} {E : Value → Shared → Prop} {s : Shared} {x y : PySem.Str} {t u : Tok} {b : Bool} {Q : Value → Shared → Prop} (e : (x == y) = b) (h : Q (.bool b) s) : wpAny (model prog w) A (compareOp .Eq (.str x t) (.str y u)) Q E s :=
  PyProof.Rows.eq_str (by rw [e]; exact h)
theorem ne_str_as {prog : Program} {w : World} {A : Around} {E : Value → Shared → Prop} {s : Shared} {x y : PySem.Str} {t u : Tok} {b : Bool} {Q : Value → Shared → Prop} (e : (x != y) = b) (h : Q (.bool b) s) : wpAny (model prog w) A (compareOp .NotEq (.str x t) (.str y u)) Q E s :=
  PyProof.Rows.ne_str (by rw [e]; exact h)
abbrev SortC (w : World) (x : Value) (sx : PySem.Str) : Prop := Fam 1 w 127 [x] (fun v => ∃ t, v = .str sx t) False
section
variable {w : World} {news : List (Addr × Obj)} {kv : Value} {u : Bool} {lo hi : Int}

theorem words_SA_27 : True := by
  (k_with "exec Raise some none" => ((k_here; refine raise_fault rfl ?_)))
  (k_with "call ref" => ((k_here; (with_reducible show wpAny _ _ (call (Value.ref 45) _) _ _ _); k_dflt (refine fault_made (by k_asm) (by k_asm) (by k_asm) (by k_asm) (by k_asm) (rfl) (rfl) (by first | exact rfl | assumption) (by ktr_room) ?_; k_whole); intro e9 t9 h9 tk9 oe9 F9 N9 hc9 hd9 hn9; (try dsimp only))))
  (k_with "FaultRaised" => ((refine fault_raised (by k_asm) (by k_asm) (by k_asm) (by assumption) (by assumption) ?_)))
  (k_with "leaving ref" => ((k_here; first | (refine leave_fault (by k_asm) (by k_asm) (by k_asm) (by assumption) (by assumption) (by assumption) ?_ (rfl) (by first | exact rfl | assumption); intro h9 RS9 U9; (try dsimp only)) | (refine leave_onE (by k_asm) (by k_asm) (by assumption) (by assumption) ?_ (rfl); intro h9 RS9 U9; (try dsimp only)))))
  (k_with "compareOp In str ref" => ((k_here; k_dflt (refine in_comps (by k_asm) (by k_asm) ?_))))
  (k_with "call ref" => ((k_here; (with_reducible show wpAny _ _ (call (Value.ref 120) _) _ _ _); k_dflt (refine wpAny_call ?_; refine code_def (by k_asm) (by k_asm) (by k_asm) (by k_asm) (by k_asm) (rfl) (rfl) (by first | exact rfl | assumption) (by k_is) (by k_is) (by ktr_room) ((BindsTo.of_eq (by kernel_rfl)) : Binds3 _ _ (PySem.Str.ofString "op") (PySem.Str.ofString "a") (PySem.Str.ofString "b") _ _ _) (locs rfl) ?_ (rfl) (rfl) (rfl) (by decide); k_whole; intro g' L' h' FG' F' N' B' X' T'; (try dsimp only [List.reverse_cons, List.reverse_nil, List.nil_append, List.cons_append, List.length_cons, List.length_nil] at F' ⊢); (try k_lift B'); (try k_fold)))))
  (k_with "call ref" => (k_here; (with_reducible show wpAny _ _ (call (Value.ref 127) _) _ _ _); k_dflt (refine callsR_v (by k_asm) (by k_asm) (by k_asm) (by k_asm) (by k_asm) ?_; refine RestR.ledF _ _ _ sort_int_c (by first | exact rfl | assumption) (by ktr_room) (by ktr_units) ?_; k_whole); intro v9 h9 tk9 R9 F9 N9; obtain ⟨t9, e9⟩ := R9; subst e9; (try dsimp only); (try k_fold)))
  trivial
set_option maxHeartbeats 8000000 in
theorem sort_bool_c {x : Bool} : CallsR 1 w 127 [.bool x] news (fun v n' => (∃ t, v = .str (PySem.Str.ofString "bool") t) ∧ n' = news) False := by
  w_on
  unfold CallsR
  k_fill
  intro p loose mean mg mb dp un gd cn cs fa ccd cl outer A₀ base h₀ L m hS gS dS tS oS Q E hB hF hX hN hT hk hd hu hret hrais
  refine wpAny_call ?_
  k_dflt (refine' code_def (binds := [(PySem.Str.ofString "value", .bool x)]) ?k1 ?k2 ?k3 ?k4 ?k5 ?kA ?kF ?kK ?k6 ?k7 ?k8 ?k9 ?kB ?_ ?c2 ?c3 ?c4 ?c5; (case kA => exact rfl); (case kF => exact rfl); (case kK => assumption); (case k1 => k_asm); (case k2 => k_asm); (case k3 => k_asm); (case k4 => k_asm); (case k5 => k_asm); (case k6 => k_is); (case k7 => k_is); (case k8 => ktr_room); (case k9 => exact BindsTo.of_eq (by kernel_rfl)); (case c5 => decide); (case kB => exact locs rfl); (case c2 => exact rfl); (case c3 => exact rfl); (case c4 => exact rfl); k_whole; intro g' L' h' FG' F' N' B' X' T'; (try dsimp only [List.reverse_cons, List.reverse_nil, List.nil_append, List.cons_append, List.length_cons, List.length_nil] at F' ⊢); (try k_lift B'); (try k_fold))
  k_steps
  exact hret _ _ _ _ ⟨⟨_, rfl⟩, rfl⟩ (by k_asm) (by k_asm)
theorem words_SA_28 : True := by
  (k_with "call ref" => (k_here; (with_reducible show wpAny _ _ (call (Value.ref 127) _) _ _ _); k_dflt (refine callsR_v (by k_asm) (by k_asm) (by k_asm) (by k_asm) (by k_asm) ?_; refine RestR.ledF _ _ _ sort_bool_c (by first | exact rfl | assumption) (by ktr_room) (by ktr_units) ?_; k_whole); intro v9 h9 tk9 R9 F9 N9; obtain ⟨t9, e9⟩ := R9; subst e9; (try dsimp only); (try k_fold)))
  trivial
set_option maxHeartbeats 8000000 in
theorem sort_bytes_c {x : Array UInt8} {t : Tok} : CallsR 1 w 127 [.bytes x t] news (fun v n' => (∃ t, v = .str (PySem.Str.ofString "string") t) ∧ n' = news) False := by
  w_on
  unfold CallsR
  k_fill
  intro p loose mean mg mb dp un gd cn cs fa ccd cl outer A₀ base h₀ L m hS gS dS tS oS Q E hB hF hX hN hT hk hd hu hret hrais
  refine wpAny_call ?_
  k_dflt (refine' code_def (binds := [(PySem.Str.ofString "value", .bytes x t)]) ?k1 ?k2 ?k3 ?k4 ?k5 ?kA ?kF ?kK ?k6 ?k7 ?k8 ?k9 ?kB ?_ ?c2 ?c3 ?c4 ?c5; (case kA => exact rfl); (case kF => exact rfl); (case kK => assumption); (case k1 => k_asm); (case k2 => k_asm); (case k3 => k_asm); (case k4 => k_asm); (case k5 => k_asm); (case k6 => k_is); (case k7 => k_is); (case k8 => ktr_room); (case k9 => exact BindsTo.of_eq (by kernel_rfl)); (case c5 => decide); (case kB => exact locs rfl); (case c2 => exact rfl); (case c3 => exact rfl); (case c4 => exact rfl); k_whole; intro g' L' h' FG' F' N' B' X' T'; (try dsimp only [List.reverse_cons, List.reverse_nil, List.nil_append, List.cons_append, List.length_cons, List.length_nil] at F' ⊢); (try k_lift B'); (try k_fold))
  k_steps
  exact hret _ _ _ _ ⟨⟨_, rfl⟩, rfl⟩ (by k_asm) (by k_asm)
theorem words_SA_29 : True := by
  (k_with "call ref" => (k_here; (with_reducible show wpAny _ _ (call (Value.ref 127) _) _ _ _); k_dflt (refine callsR_v (by k_asm) (by k_asm) (by k_asm) (by k_asm) (by k_asm) ?_; refine RestR.ledF _ _ _ sort_bytes_c (by first | exact rfl | assumption) (by ktr_room) (by ktr_units) ?_; k_whole); intro v9 h9 tk9 R9 F9 N9; obtain ⟨t9, e9⟩ := R9; subst e9; (try dsimp only); (try k_fold)))
  (k_with "call ref" => (k_here; (with_reducible show wpAny _ _ (call (Value.ref 127) _) _ _ _); k_dflt (refine callsR_v (by k_asm) (by k_asm) (by k_asm) (by k_asm) (by k_asm) ?_; refine RestR.ledF _ _ _ (Fam.at0 (by with_reducible assumption)) (by first | exact rfl | assumption) (by ktr_room) (by ktr_units) ?_; k_whole); intro v9 h9 tk9 R9 F9 N9; obtain ⟨t9, e9⟩ := R9; subst e9; (try dsimp only); (try k_fold)))
  (k_with "compareOp Eq str str" => ((k_here; refine eq_str_as (by with_reducible assumption) ?_)))
  (k_with "compareOp NotEq str str" => ((k_here; refine ne_str_as (by with_reducible assumption) ?_)))
  (k_with "compareOp In str ref" => ((k_here; k_dflt (first | (refine in_comps_as (by k_asm) (by k_asm) (by assumption) ?_) | (refine in_two (by k_asm) (by with_reducible exact List.Mem.head _) (by assumption) ?_)))))
  trivial
set_option maxHeartbeats 8000000 in
theorem unlike_c {op s1 s2 : PySem.Str} {x y : Value} {to : Tok} (hl : op.length ≤ 2) (Cx : SortC w x s1) (Cy : SortC w y s2) (hne : (s1 != s2) = true) : CallsR 9 w 135 [.str op to, x, y] news (fun v n' => False) True := by
  w_on
  unfold CallsR
  k_fill
  intro p loose mean mg mb dp un gd cn cs fa ccd cl outer A₀ base h₀ L m hS gS dS tS oS Q E hB hF hX hN hT hk hd hu hret hrais
  refine wpAny_call ?_
  k_dflt (refine' code_def (binds := [(PySem.Str.ofString "op", .str op to), (PySem.Str.ofString "a", x), (PySem.Str.ofString "b", y), (PySem.Str.ofString "kind", .none)]) ?k1 ?k2 ?k3 ?k4 ?k5 ?kA ?kF ?kK ?k6 ?k7 ?k8 ?k9 ?kB ?_ ?c2 ?c3 ?c4 ?c5; (case kA => exact rfl); (case kF => exact rfl); (case kK => assumption); (case k1 => k_asm); (case k2 => k_asm); (case k3 => k_asm); (case k4 => k_asm); (case k5 => k_asm); (case k6 => k_is); (case k7 => k_is); (case k8 => ktr_room); (case k9 => exact binds_cast (binds_K (by k_in) rfl (by k_is) rfl rfl rfl) (by kernel_rfl)); (case c5 => decide); (case kB => exact locs rfl); (case c2 => exact rfl); (case c3 => exact rfl); (case c4 => exact rfl); k_whole; intro g' L' h' FG' F' N' B' X' T'; (try dsimp only [List.reverse_cons, List.reverse_nil, List.nil_append, List.cons_append, List.length_cons, List.length_nil] at F' ⊢); (try k_lift B'); (try k_fold))
  k_steps
  all_goals first
      | ((refine' hrais _ _ _ _ ?_ ?_ ?_ (by first | assumption | exact raised_tl (by assumption) | exact raised_tl (raised_tl (by assumption)))) <;> first | exact trivial | assumption | k_asm)
      | trace_state
set_option maxHeartbeats 8000000 in
theorem bytes2_c {op : PySem.Str} {x y : Array UInt8} {t u to : Tok} (hl : op.length ≤ 2) (hc : compsL.any (· == op) = false) (hp : (op == PySem.Str.ofString "+") = false) : CallsR 9 w 135 [.str op to, .bytes x t, .bytes y u] news (fun v n' => False) True := by
  w_on
  unfold CallsR
  k_fill
  intro p loose mean mg mb dp un gd cn cs fa ccd cl outer A₀ base h₀ L m hS gS dS tS oS Q E hB hF hX hN hT hk hd hu hret hrais
  have C1 : SortC w (.bytes x t) (PySem.Str.ofString "string") := .mk fun _ => sort_bytes_c
  have C2 : SortC w (.bytes y u) (PySem.Str.ofString "string") := .mk fun _ => sort_bytes_c
  refine wpAny_call ?_
  k_dflt (refine' code_def (binds := [(PySem.Str.ofString "op", .str op to), (PySem.Str.ofString "a", .bytes x t), (PySem.Str.ofString "b", .bytes y u), (PySem.Str.ofString "kind", .none)]) ?k1 ?k2 ?k3 ?k4 ?k5 ?kA ?kF ?kK ?k6 ?k7 ?k8 ?k9 ?kB ?_ ?c2 ?c3 ?c4 ?c5; (case kA => exact rfl); (case kF => exact rfl); (case kK => assumption); (case k1 => k_asm); (case k2 => k_asm); (case k3 => k_asm); (case k4 => k_asm); (case k5 => k_asm); (case k6 => k_is); (case k7 => k_is); (case k8 => ktr_room); (case k9 => exact binds_cast (binds_K (by k_in) rfl (by k_is) rfl rfl rfl) (by kernel_rfl)); (case c5 => decide); (case kB => exact locs rfl); (case c2 => exact rfl); (case c3 => exact rfl); (case c4 => exact rfl); k_whole; intro g' L' h' FG' F' N' B' X' T'; (try dsimp only [List.reverse_cons, List.reverse_nil, List.nil_append, List.cons_append, List.length_cons, List.length_nil] at F' ⊢); (try k_lift B'); (try k_fold))
  k_steps
  all_goals first
      | ((refine' hrais _ _ _ _ ?_ ?_ ?_ (by first | assumption | exact raised_tl (by assumption) | exact raised_tl (raised_tl (by assumption)))) <;> first | exact trivial | assumption | k_asm)
      | trace_state
set_option maxHeartbeats 8000000 in
theorem int_noop_c {x : PySem.Str} {i j : Int} {t u to : Tok} (hl : x.length ≤ 2) (n1 : (x == PySem.Str.ofString "+") = false) (n2 : (x == PySem.Str.ofString "-") = false) (n3 : (x == PySem.Str.ofString "*") = false) (n4 : (x == PySem.Str.ofString "/") = false) (n5 : (x == PySem.Str.ofString "%") = false) (n6 : (x == PySem.Str.ofString "&") = false) (n7 : (x == PySem.Str.ofString "|") = false) (n8 : (x == PySem.Str.ofString "^") = false) (n9 : (x == PySem.Str.ofString "&^") = false) : CallsR 6 w 113 [.str x to, .int i t, .int j u] news (fun v n' => False) True := by
  w_on
  unfold CallsR
  k_fill
  intro p loose mean mg mb dp un gd cn cs fa ccd cl outer A₀ base h₀ L m hS gS dS tS oS Q E hB hF hX hN hT hk hd hu hret hrais
  refine wpAny_call ?_
  k_dflt (refine' code_def ?k1 ?k2 ?k3 ?k4 ?k5 ?kA ?kF ?kK ?k6 ?k7 ?k8 (?k9 : Binds3 _ _ (PySem.Str.ofString "op") (PySem.Str.ofString "a") (PySem.Str.ofString "b") _ _ _) ?kB ?_ ?c2 ?c3 ?c4 ?c5; (case kA => exact rfl); (case kF => exact rfl); (case kK => assumption); (case k1 => k_asm); (case k2 => k_asm); (case k3 => k_asm); (case k4 => k_asm); (case k5 => k_asm); (case k6 => k_is); (case k7 => k_is); (case k8 => ktr_room); (case k9 => exact BindsTo.of_eq (by kernel_rfl)); (case c5 => decide); (case kB => exact locs rfl); (case c2 => exact rfl); (case c3 => exact rfl); (case c4 => exact rfl); k_whole; intro g' L' h' FG' F' N' B' X' T'; (try dsimp only [List.reverse_cons, List.reverse_nil, List.nil_append, List.cons_append, List.length_cons, List.length_nil] at F' ⊢); (try k_lift B'); (try k_fold))
  k_steps
  all_goals first
      | ((refine' hrais _ _ _ _ ?_ ?_ ?_ (by first | assumption | exact raised_tl (by assumption) | exact raised_tl (raised_tl (by assumption)))) <;> first | exact trivial | assumption | k_asm)
      | trace_state
theorem words_SA_30 : True := by
  (k_with "call ref" => (k_here; (with_reducible show wpAny _ _ (call (Value.ref 113) _) _ _ _); k_dflt (refine callsR_v (by k_asm) (by k_asm) (by k_asm) (by k_asm) (by k_asm) ?_; refine RestR.mk _ _ _ (int_noop_c (by assumption) (by assumption) (by assumption) (by assumption) (by assumption) (by assumption) (by assumption) (by assumption) (by assumption) (by assumption)) (by first | exact rfl | assumption) (by ktr_room) (by ktr_units) ?_ ?_; k_whole); rotate_left; intro e9 g9 h9 tk9 R9 FG9 U9 RS9; (try dsimp only); rotate_left; (exact fun _ _ _ _ z => z.elim)))
  trivial
set_option maxHeartbeats 8000000 in
theorem ints2_c {x : PySem.Str} {i j : Int} {t u to : Tok} (hl : x.length ≤ 2) (hc : compsL.any (· == x) = false) (hs : [PySem.Str.ofString "<<", PySem.Str.ofString ">>"].any (· == x) = false) (n1 : (x == PySem.Str.ofString "+") = false) (n2 : (x == PySem.Str.ofString "-") = false) (n3 : (x == PySem.Str.ofString "*") = false) (n4 : (x == PySem.Str.ofString "/") = false) (n5 : (x == PySem.Str.ofString "%") = false) (n6 : (x == PySem.Str.ofString "&") = false) (n7 : (x == PySem.Str.ofString "|") = false) (n8 : (x == PySem.Str.ofString "^") = false) (n9 : (x == PySem.Str.ofString "&^") = false) : CallsR 9 w 135 [.str x to, .int i t, .int j u] news (fun v n' => False) True := by
  w_on
  unfold CallsR
  k_fill
  intro p loose mean mg mb dp un gd cn cs fa ccd cl outer A₀ base h₀ L m hS gS dS tS oS Q E hB hF hX hN hT hk hd hu hret hrais
  have C1 : SortC w (.int i t) (PySem.Str.ofString "int") := .mk fun _ => sort_int_c
  have C2 : SortC w (.int j u) (PySem.Str.ofString "int") := .mk fun _ => sort_int_c
  refine wpAny_call ?_
  k_dflt (refine' code_def (binds := [(PySem.Str.ofString "op", .str x to), (PySem.Str.ofString "a", .int i t), (PySem.Str.ofString "b", .int j u), (PySem.Str.ofString "kind", .none)]) ?k1 ?k2 ?k3 ?k4 ?k5 ?kA ?kF ?kK ?k6 ?k7 ?k8 ?k9 ?kB ?_ ?c2 ?c3 ?c4 ?c5; (case kA => exact rfl); (case kF => exact rfl); (case kK => assumption); (case k1 => k_asm); (case k2 => k_asm); (case k3 => k_asm); (case k4 => k_asm); (case k5 => k_asm); (case k6 => k_is); (case k7 => k_is); (case k8 => ktr_room); (case k9 => exact binds_cast (binds_K (by k_in) rfl (by k_is) rfl rfl rfl) (by kernel_rfl)); (case c5 => decide); (case kB => exact locs rfl); (case c2 => exact rfl); (case c3 => exact rfl); (case c4 => exact rfl); k_whole; intro g' L' h' FG' F' N' B' X' T'; (try dsimp only [List.reverse_cons, List.reverse_nil, List.nil_append, List.cons_append, List.length_cons, List.length_nil] at F' ⊢); (try k_lift B'); (try k_fold))
  k_steps
  all_goals first
      | ((refine' hrais _ _ _ _ ?_ ?_ ?_ (by first | assumption | exact raised_tl (by assumption) | exact raised_tl (raised_tl (by assumption)))) <;> first | exact trivial | assumption | k_asm)
      | trace_state
set_option maxHeartbeats 8000000 in
theorem bad_r1 {a b : Bool} {to : Tok} : CallsR 9 w 135 [.str (PySem.Str.ofString "+") to, .bool a, .bool b] news (fun v n' => False) True := by
  w_on
  unfold CallsR
  k_fill
  intro p loose mean mg mb dp un gd cn cs fa ccd cl outer A₀ base h₀ L m hS gS dS tS oS Q E hB hF hX hN hT hk hd hu hret hrais
  refine wpAny_call ?_
  k_dflt (refine' code_def (binds := [(PySem.Str.ofString "op", .str (PySem.Str.ofString "+") to), (PySem.Str.ofString "a", .bool a), (PySem.Str.ofString "b", .bool b), (PySem.Str.ofString "kind", .none)]) ?k1 ?k2 ?k3 ?k4 ?k5 ?kA ?kF ?kK ?k6 ?k7 ?k8 ?k9 ?kB ?_ ?c2 ?c3 ?c4 ?c5; (case kA => exact rfl); (case kF => exact rfl); (case kK => assumption); (case k1 => k_asm); (case k2 => k_asm); (case k3 => k_asm); (case k4 => k_asm); (case k5 => k_asm); (case k6 => k_is); (case k7 => k_is); (case k8 => ktr_room); (case k9 => exact binds_cast (binds_K (by k_in) rfl (by k_is) rfl rfl rfl) (by kernel_rfl)); (case c5 => decide); (case kB => exact locs rfl); (case c2 => exact rfl); (case c3 => exact rfl); (case c4 => exact rfl); k_whole; intro g' L' h' FG' F' N' B' X' T'; (try dsimp only [List.reverse_cons, List.reverse_nil, List.nil_append, List.cons_append, List.length_cons, List.length_nil] at F' ⊢); (try k_lift B'); (try k_fold))
  k_steps
  all_goals first
    | ((refine' hrais _ _ _ _ ?_ ?_ ?_ (by first | assumption | exact raised_tl (by assumption) | exact raised_tl (raised_tl (by assumption)))) <;> first | exact trivial | assumption | k_asm)
    | trace_state
set_option maxHeartbeats 8000000 in
theorem bad_r2 {a b : Bool} {to : Tok} : CallsR 9 w 135 [.str (PySem.Str.ofString "<") to, .bool a, .bool b] news (fun v n' => False) True := by
  w_on
  unfold CallsR
  k_fill
  intro p loose mean mg mb dp un gd cn cs fa ccd cl outer A₀ base h₀ L m hS gS dS tS oS Q E hB hF hX hN hT hk hd hu hret hrais
  refine wpAny_call ?_
  k_dflt (refine' code_def (binds := [(PySem.Str.ofString "op", .str (PySem.Str.ofString "<") to), (PySem.Str.ofString "a", .bool a), (PySem.Str.ofString "b", .bool b), (PySem.Str.ofString "kind", .none)]) ?k1 ?k2 ?k3 ?k4 ?k5 ?kA ?kF ?kK ?k6 ?k7 ?k8 ?k9 ?kB ?_ ?c2 ?c3 ?c4 ?c5; (case kA => exact rfl); (case kF => exact rfl); (case kK => assumption); (case k1 => k_asm); (case k2 => k_asm); (case k3 => k_asm); (case k4 => k_asm); (case k5 => k_asm); (case k6 => k_is); (case k7 => k_is); (case k8 => ktr_room); (case k9 => exact binds_cast (binds_K (by k_in) rfl (by k_is) rfl rfl rfl) (by kernel_rfl)); (case c5 => decide); (case kB => exact locs rfl); (case c2 => exact rfl); (case c3 => exact rfl); (case c4 => exact rfl); k_whole; intro g' L' h' FG' F' N' B' X' T'; (try dsimp only [List.reverse_cons, List.reverse_nil, List.nil_append, List.cons_append, List.length_cons, List.length_nil] at F' ⊢); (try k_lift B'); (try k_fold))
  k_steps
  all_goals first
    | ((refine' hrais _ _ _ _ ?_ ?_ ?_ (by first | assumption | exact raised_tl (by assumption) | exact raised_tl (raised_tl (by assumption)))) <;> first | exact trivial | assumption | k_asm)
    | trace_state
theorem bad_c {op : PySem.Str} {x y : Value} {to : Tok} (h : BadRow op x y) : CallsR 9 w 135 [.str op to, x, y] news (fun v n' => False) True := by
  cases h with
  | r1 a b => exact bad_r1
  | r2 a b => exact bad_r2
  | r3 x y t u => exact bytes2_c (by decide +kernel) (by decide +kernel) (by decide +kernel)
  | r4 i y t u => exact unlike_c (by decide +kernel) (.mk fun _ => sort_int_c) (.mk fun _ => sort_bytes_c) (by decide +kernel)
  | r5 a i u => exact unlike_c (by decide +kernel) (.mk fun _ => sort_bool_c) (.mk fun _ => sort_int_c) (by decide +kernel)
  | r6 i j t u => exact ints2_c (by decide +kernel) (by decide +kernel) (by decide +kernel) (by decide +kernel) (by decide +kernel) (by decide +kernel) (by decide +kernel) (by decide +kernel) (by decide +kernel) (by decide +kernel) (by decide +kernel) (by decide +kernel)
  | r7 x j t u => exact unlike_c (by decide +kernel) (.mk fun _ => sort_bytes_c) (.mk fun _ => sort_int_c) (by decide +kernel)
  | r8 i j t u => exact ints2_c (by decide +kernel) (by decide +kernel) (by decide +kernel) (by decide +kernel) (by decide +kernel) (by decide +kernel) (by decide +kernel) (by decide +kernel) (by decide +kernel) (by decide +kernel) (by decide +kernel) (by decide +kernel)
  | r9 i j t u => exact ints2_c (by decide +kernel) (by decide +kernel) (by decide +kernel) (by decide +kernel) (by decide +kernel) (by decide +kernel) (by decide +kernel) (by decide +kernel) (by decide +kernel) (by decide +kernel) (by decide +kernel) (by decide +kernel)
  | r10 x y t u => exact bytes2_c (by decide +kernel) (by decide +kernel) (by decide +kernel)
  | r11 x j t u => exact unlike_c (by decide +kernel) (.mk fun _ => sort_bytes_c) (.mk fun _ => sort_int_c) (by decide +kernel)

set_option maxHeartbeats 8000000 in
theorem badsign_c {op : PySem.Str} {x : Value} {to : Tok} (h : BadSign op x) : CallsR 9 w 92 [.str op to, x] news (fun v n' => False) True := by
  w_on
  unfold CallsR
  k_fill
  intro p loose mean mg mb dp un gd cn cs fa ccd cl outer A₀ base h₀ L m hS gS dS tS oS Q E hB hF hX hN hT hk hd hu hret hrais
  cases h
  case s1 i   t   =>
    refine wpAny_call ?_
    k_dflt (refine' code_def (binds := [(PySem.Str.ofString "op", .str (PySem.Str.ofString "!") to), (PySem.Str.ofString "value", .int i t), (PySem.Str.ofString "kind", .none)]) ?k1 ?k2 ?k3 ?k4 ?k5 ?kA ?kF ?kK ?k6 ?k7 ?k8 ?k9 ?kB ?_ ?c2 ?c3 ?c4 ?c5; (case kA => exact rfl); (case kF => exact rfl); (case kK => assumption); (case k1 => k_asm); (case k2 => k_asm); (case k3 => k_asm); (case k4 => k_asm); (case k5 => k_asm); (case k6 => k_is); (case k7 => k_is); (case k8 => ktr_room); (case k9 => exact binds_cast (binds_K (by k_in) rfl (by k_is) rfl rfl rfl) (by kernel_rfl)); (case c5 => decide); (case kB => exact locs rfl); (case c2 => exact rfl); (case c3 => exact rfl); (case c4 => exact rfl); k_whole; intro g' L' h' FG' F' N' B' X' T'; (try dsimp only [List.reverse_cons, List.reverse_nil, List.nil_append, List.cons_append, List.length_cons, List.length_nil] at F' ⊢); (try k_lift B'); (try k_fold))
    k_steps
    all_goals first
      | ((refine' hrais _ _ _ _ ?_ ?_ ?_ (by first | assumption | exact raised_tl (by assumption) | exact raised_tl (raised_tl (by assumption)))) <;> first | exact trivial | assumption | k_asm)
      | trace_state
  case s2 a   =>
    refine wpAny_call ?_
    k_dflt (refine' code_def (binds := [(PySem.Str.ofString "op", .str (PySem.Str.ofString "-") to), (PySem.Str.ofString "value", .bool a), (PySem.Str.ofString "kind", .none)]) ?k1 ?k2 ?k3 ?k4 ?k5 ?kA ?kF ?kK ?k6 ?k7 ?k8 ?k9 ?kB ?_ ?c2 ?c3 ?c4 ?c5; (case kA => exact rfl); (case kF => exact rfl); (case kK => assumption); (case k1 => k_asm); (case k2 => k_asm); (case k3 => k_asm); (case k4 => k_asm); (case k5 => k_asm); (case k6 => k_is); (case k7 => k_is); (case k8 => ktr_room); (case k9 => exact binds_cast (binds_K (by k_in) rfl (by k_is) rfl rfl rfl) (by kernel_rfl)); (case c5 => decide); (case kB => exact locs rfl); (case c2 => exact rfl); (case c3 => exact rfl); (case c4 => exact rfl); k_whole; intro g' L' h' FG' F' N' B' X' T'; (try dsimp only [List.reverse_cons, List.reverse_nil, List.nil_append, List.cons_append, List.length_cons, List.length_nil] at F' ⊢); (try k_lift B'); (try k_fold))
    k_steps
    all_goals first
      | ((refine' hrais _ _ _ _ ?_ ?_ ?_ (by first | assumption | exact raised_tl (by assumption) | exact raised_tl (raised_tl (by assumption)))) <;> first | exact trivial | assumption | k_asm)
      | trace_state
  case s3 x    t   =>
    refine wpAny_call ?_
    k_dflt (refine' code_def (binds := [(PySem.Str.ofString "op", .str (PySem.Str.ofString "^") to), (PySem.Str.ofString "value", .bytes x t), (PySem.Str.ofString "kind", .none)]) ?k1 ?k2 ?k3 ?k4 ?k5 ?kA ?kF ?kK ?k6 ?k7 ?k8 ?k9 ?kB ?_ ?c2 ?c3 ?c4 ?c5; (case kA => exact rfl); (case kF => exact rfl); (case kK => assumption); (case k1 => k_asm); (case k2 => k_asm); (case k3 => k_asm); (case k4 => k_asm); (case k5 => k_asm); (case k6 => k_is); (case k7 => k_is); (case k8 => ktr_room); (case k9 => exact binds_cast (binds_K (by k_in) rfl (by k_is) rfl rfl rfl) (by kernel_rfl)); (case c5 => decide); (case kB => exact locs rfl); (case c2 => exact rfl); (case c3 => exact rfl); (case c4 => exact rfl); k_whole; intro g' L' h' FG' F' N' B' X' T'; (try dsimp only [List.reverse_cons, List.reverse_nil, List.nil_append, List.cons_append, List.length_cons, List.length_nil] at F' ⊢); (try k_lift B'); (try k_fold))
    k_steps
    all_goals first
      | ((refine' hrais _ _ _ _ ?_ ?_ ?_ (by first | assumption | exact raised_tl (by assumption) | exact raised_tl (raised_tl (by assumption)))) <;> first | exact trivial | assumption | k_asm)
      | trace_state
  case s4 x    t   =>
    refine wpAny_call ?_
    k_dflt (refine' code_def (binds := [(PySem.Str.ofString "op", .str (PySem.Str.ofString "+") to), (PySem.Str.ofString "value", .bytes x t), (PySem.Str.ofString "kind", .none)]) ?k1 ?k2 ?k3 ?k4 ?k5 ?kA ?kF ?kK ?k6 ?k7 ?k8 ?k9 ?kB ?_ ?c2 ?c3 ?c4 ?c5; (case kA => exact rfl); (case kF => exact rfl); (case kK => assumption); (case k1 => k_asm); (case k2 => k_asm); (case k3 => k_asm); (case k4 => k_asm); (case k5 => k_asm); (case k6 => k_is); (case k7 => k_is); (case k8 => ktr_room); (case k9 => exact binds_cast (binds_K (by k_in) rfl (by k_is) rfl rfl rfl) (by kernel_rfl)); (case c5 => decide); (case kB => exact locs rfl); (case c2 => exact rfl); (case c3 => exact rfl); (case c4 => exact rfl); k_whole; intro g' L' h' FG' F' N' B' X' T'; (try dsimp only [List.reverse_cons, List.reverse_nil, List.nil_append, List.cons_append, List.length_cons, List.length_nil] at F' ⊢); (try k_lift B'); (try k_fold))
    k_steps
    all_goals first
      | ((refine' hrais _ _ _ _ ?_ ?_ ?_ (by first | assumption | exact raised_tl (by assumption) | exact raised_tl (raised_tl (by assumption)))) <;> first | exact trivial | assumption | k_asm)
      | trace_state
  case s5 i   t   =>
    refine wpAny_call ?_
    k_dflt (refine' code_def (binds := [(PySem.Str.ofString "op", .str (PySem.Str.ofString "&") to), (PySem.Str.ofString "value", .int i t), (PySem.Str.ofString "kind", .none)]) ?k1 ?k2 ?k3 ?k4 ?k5 ?kA ?kF ?kK ?k6 ?k7 ?k8 ?k9 ?kB ?_ ?c2 ?c3 ?c4 ?c5; (case kA => exact rfl); (case kF => exact rfl); (case kK => assumption); (case k1 => k_asm); (case k2 => k_asm); (case k3 => k_asm); (case k4 => k_asm); (case k5 => k_asm); (case k6 => k_is); (case k7 => k_is); (case k8 => ktr_room); (case k9 => exact binds_cast (binds_K (by k_in) rfl (by k_is) rfl rfl rfl) (by kernel_rfl)); (case c5 => decide); (case kB => exact locs rfl); (case c2 => exact rfl); (case c3 => exact rfl); (case c4 => exact rfl); k_whole; intro g' L' h' FG' F' N' B' X' T'; (try dsimp only [List.reverse_cons, List.reverse_nil, List.nil_append, List.cons_append, List.length_cons, List.length_nil] at F' ⊢); (try k_lift B'); (try k_fold))
    k_steps
    all_goals first
      | ((refine' hrais _ _ _ _ ?_ ?_ ?_ (by first | assumption | exact raised_tl (by assumption) | exact raised_tl (raised_tl (by assumption)))) <;> first | exact trivial | assumption | k_asm)
      | trace_state

theorem words_SA_31 : True := by
  (k_with "compareOp Lt bytes bytes" => ((refine lt_bytes ?_)))
  (k_with "binaryOp Add bytes bytes" => ((refine KBy.add_bytes (by omega) ?_; intro t9 k9)))
  trivial
set_option maxHeartbeats 8000000 in
theorem and_t_c {b : Bool} {to : Tok} : CallsR 9 w 135 [.str (PySem.Str.ofString "&&") to, .bool true, .bool b] news (fun v n' => v = .bool b ∧ n' = news) False := by
  w_on
  unfold CallsR
  k_fill
  intro p loose mean mg mb dp un gd cn cs fa ccd cl outer A₀ base h₀ L m hS gS dS tS oS Q E hB hF hX hN hT hk hd hu hret hrais
  refine wpAny_call ?_
  k_dflt (refine' code_def (binds := [(PySem.Str.ofString "op", .str (PySem.Str.ofString "&&") to), (PySem.Str.ofString "a", .bool true), (PySem.Str.ofString "b", .bool b), (PySem.Str.ofString "kind", .none)]) ?k1 ?k2 ?k3 ?k4 ?k5 ?kA ?kF ?kK ?k6 ?k7 ?k8 ?k9 ?kB ?_ ?c2 ?c3 ?c4 ?c5; (case kA => exact rfl); (case kF => exact rfl); (case kK => assumption); (case k1 => k_asm); (case k2 => k_asm); (case k3 => k_asm); (case k4 => k_asm); (case k5 => k_asm); (case k6 => k_is); (case k7 => k_is); (case k8 => ktr_room); (case k9 => exact binds_cast (binds_K (by k_in) rfl (by k_is) rfl rfl rfl) (by kernel_rfl)); (case c5 => decide); (case kB => exact locs rfl); (case c2 => exact rfl); (case c3 => exact rfl); (case c4 => exact rfl); k_whole; intro g' L' h' FG' F' N' B' X' T'; (try dsimp only [List.reverse_cons, List.reverse_nil, List.nil_append, List.cons_append, List.length_cons, List.length_nil] at F' ⊢); (try k_lift B'); (try k_fold))
  k_steps
  all_goals first
    | exact hret _ _ _ _ ⟨rfl, rfl⟩ (by k_asm) (by first | k_asm | exact news_tl (by k_asm) | exact news_tl (news_tl (by k_asm)))
    | exact hret _ _ _ _ ⟨⟨_, rfl⟩, rfl⟩ (by k_asm) (by first | k_asm | exact news_tl (by k_asm) | exact news_tl (news_tl (by k_asm)))
    | trace_state

set_option maxHeartbeats 8000000 in
theorem and_f_c {b : Bool} {to : Tok} : CallsR 9 w 135 [.str (PySem.Str.ofString "&&") to, .bool false, .bool b] news (fun v n' => v = .bool false ∧ n' = news) False := by
  w_on
  unfold CallsR
  k_fill
  intro p loose mean mg mb dp un gd cn cs fa ccd cl outer A₀ base h₀ L m hS gS dS tS oS Q E hB hF hX hN hT hk hd hu hret hrais
  refine wpAny_call ?_
  k_dflt (refine' code_def (binds := [(PySem.Str.ofString "op", .str (PySem.Str.ofString "&&") to), (PySem.Str.ofString "a", .bool false), (PySem.Str.ofString "b", .bool b), (PySem.Str.ofString "kind", .none)]) ?k1 ?k2 ?k3 ?k4 ?k5 ?kA ?kF ?kK ?k6 ?k7 ?k8 ?k9 ?kB ?_ ?c2 ?c3 ?c4 ?c5; (case kA => exact rfl); (case kF => exact rfl); (case kK => assumption); (case k1 => k_asm); (case k2 => k_asm); (case k3 => k_asm); (case k4 => k_asm); (case k5 => k_asm); (case k6 => k_is); (case k7 => k_is); (case k8 => ktr_room); (case k9 => exact binds_cast (binds_K (by k_in) rfl (by k_is) rfl rfl rfl) (by kernel_rfl)); (case c5 => decide); (case kB => exact locs rfl); (case c2 => exact rfl); (case c3 => exact rfl); (case c4 => exact rfl); k_whole; intro g' L' h' FG' F' N' B' X' T'; (try dsimp only [List.reverse_cons, List.reverse_nil, List.nil_append, List.cons_append, List.length_cons, List.length_nil] at F' ⊢); (try k_lift B'); (try k_fold))
  k_steps
  all_goals first
    | exact hret _ _ _ _ ⟨rfl, rfl⟩ (by k_asm) (by first | k_asm | exact news_tl (by k_asm) | exact news_tl (news_tl (by k_asm)))
    | exact hret _ _ _ _ ⟨⟨_, rfl⟩, rfl⟩ (by k_asm) (by first | k_asm | exact news_tl (by k_asm) | exact news_tl (news_tl (by k_asm)))
    | trace_state

set_option maxHeartbeats 8000000 in
theorem or_t_c {b : Bool} {to : Tok} : CallsR 9 w 135 [.str (PySem.Str.ofString "||") to, .bool true, .bool b] news (fun v n' => v = .bool true ∧ n' = news) False := by
  w_on
  unfold CallsR
  k_fill
  intro p loose mean mg mb dp un gd cn cs fa ccd cl outer A₀ base h₀ L m hS gS dS tS oS Q E hB hF hX hN hT hk hd hu hret hrais
  refine wpAny_call ?_
  k_dflt (refine' code_def (binds := [(PySem.Str.ofString "op", .str (PySem.Str.ofString "||") to), (PySem.Str.ofString "a", .bool true), (PySem.Str.ofString "b", .bool b), (PySem.Str.ofString "kind", .none)]) ?k1 ?k2 ?k3 ?k4 ?k5 ?kA ?kF ?kK ?k6 ?k7 ?k8 ?k9 ?kB ?_ ?c2 ?c3 ?c4 ?c5; (case kA => exact rfl); (case kF => exact rfl); (case kK => assumption); (case k1 => k_asm); (case k2 => k_asm); (case k3 => k_asm); (case k4 => k_asm); (case k5 => k_asm); (case k6 => k_is); (case k7 => k_is); (case k8 => ktr_room); (case k9 => exact binds_cast (binds_K (by k_in) rfl (by k_is) rfl rfl rfl) (by kernel_rfl)); (case c5 => decide); (case kB => exact locs rfl); (case c2 => exact rfl); (case c3 => exact rfl); (case c4 => exact rfl); k_whole; intro g' L' h' FG' F' N' B' X' T'; (try dsimp only [List.reverse_cons, List.reverse_nil, List.nil_append, List.cons_append, List.length_cons, List.length_nil] at F' ⊢); (try k_lift B'); (try k_fold))
  k_steps
  all_goals first
    | exact hret _ _ _ _ ⟨rfl, rfl⟩ (by k_asm) (by first | k_asm | exact news_tl (by k_asm) | exact news_tl (news_tl (by k_asm)))
    | exact hret _ _ _ _ ⟨⟨_, rfl⟩, rfl⟩ (by k_asm) (by first | k_asm | exact news_tl (by k_asm) | exact news_tl (news_tl (by k_asm)))
    | trace_state

set_option maxHeartbeats 8000000 in
theorem or_f_c {b : Bool} {to : Tok} : CallsR 9 w 135 [.str (PySem.Str.ofString "||") to, .bool false, .bool b] news (fun v n' => v = .bool b ∧ n' = news) False := by
  w_on
  unfold CallsR
  k_fill
  intro p loose mean mg mb dp un gd cn cs fa ccd cl outer A₀ base h₀ L m hS gS dS tS oS Q E hB hF hX hN hT hk hd hu hret hrais
  refine wpAny_call ?_
  k_dflt (refine' code_def (binds := [(PySem.Str.ofString "op", .str (PySem.Str.ofString "||") to), (PySem.Str.ofString "a", .bool false), (PySem.Str.ofString "b", .bool b), (PySem.Str.ofString "kind", .none)]) ?k1 ?k2 ?k3 ?k4 ?k5 ?kA ?kF ?kK ?k6 ?k7 ?k8 ?k9 ?kB ?_ ?c2 ?c3 ?c4 ?c5; (case kA => exact rfl); (case kF => exact rfl); (case kK => assumption); (case k1 => k_asm); (case k2 => k_asm); (case k3 => k_asm); (case k4 => k_asm); (case k5 => k_asm); (case k6 => k_is); (case k7 => k_is); (case k8 => ktr_room); (case k9 => exact binds_cast (binds_K (by k_in) rfl (by k_is) rfl rfl rfl) (by kernel_rfl)); (case c5 => decide); (case kB => exact locs rfl); (case c2 => exact rfl); (case c3 => exact rfl); (case c4 => exact rfl); k_whole; intro g' L' h' FG' F' N' B' X' T'; (try dsimp only [List.reverse_cons, List.reverse_nil, List.nil_append, List.cons_append, List.length_cons, List.length_nil] at F' ⊢); (try k_lift B'); (try k_fold))
  k_steps
  all_goals first
    | exact hret _ _ _ _ ⟨rfl, rfl⟩ (by k_asm) (by first | k_asm | exact news_tl (by k_asm) | exact news_tl (news_tl (by k_asm)))
    | exact hret _ _ _ _ ⟨⟨_, rfl⟩, rfl⟩ (by k_asm) (by first | k_asm | exact news_tl (by k_asm) | exact news_tl (news_tl (by k_asm)))
    | trace_state

set_option maxHeartbeats 8000000 in
theorem beq_c {a b : Bool} {to : Tok} : CallsR 9 w 135 [.str (PySem.Str.ofString "==") to, .bool a, .bool b] news (fun v n' => v = .bool (a == b) ∧ n' = news) False := by
  w_on
  unfold CallsR
  k_fill
  intro p loose mean mg mb dp un gd cn cs fa ccd cl outer A₀ base h₀ L m hS gS dS tS oS Q E hB hF hX hN hT hk hd hu hret hrais
  refine wpAny_call ?_
  k_dflt (refine' code_def (binds := [(PySem.Str.ofString "op", .str (PySem.Str.ofString "==") to), (PySem.Str.ofString "a", .bool a), (PySem.Str.ofString "b", .bool b), (PySem.Str.ofString "kind", .none)]) ?k1 ?k2 ?k3 ?k4 ?k5 ?kA ?kF ?kK ?k6 ?k7 ?k8 ?k9 ?kB ?_ ?c2 ?c3 ?c4 ?c5; (case kA => exact rfl); (case kF => exact rfl); (case kK => assumption); (case k1 => k_asm); (case k2 => k_asm); (case k3 => k_asm); (case k4 => k_asm); (case k5 => k_asm); (case k6 => k_is); (case k7 => k_is); (case k8 => ktr_room); (case k9 => exact binds_cast (binds_K (by k_in) rfl (by k_is) rfl rfl rfl) (by kernel_rfl)); (case c5 => decide); (case kB => exact locs rfl); (case c2 => exact rfl); (case c3 => exact rfl); (case c4 => exact rfl); k_whole; intro g' L' h' FG' F' N' B' X' T'; (try dsimp only [List.reverse_cons, List.reverse_nil, List.nil_append, List.cons_append, List.length_cons, List.length_nil] at F' ⊢); (try k_lift B'); (try k_fold))
  k_steps
  all_goals first
    | exact hret _ _ _ _ ⟨rfl, rfl⟩ (by k_asm) (by first | k_asm | exact news_tl (by k_asm) | exact news_tl (news_tl (by k_asm)))
    | exact hret _ _ _ _ ⟨⟨_, rfl⟩, rfl⟩ (by k_asm) (by first | k_asm | exact news_tl (by k_asm) | exact news_tl (news_tl (by k_asm)))
    | trace_state

set_option maxHeartbeats 8000000 in
theorem tadd_c {x y : Array UInt8} {t u to : Tok} (hx : x.size ≤ 1) (hy : y.size ≤ 1) : CallsR 9 w 135 [.str (PySem.Str.ofString "+") to, .bytes x t, .bytes y u] news (fun v n' => (∃ t', v = .bytes (x ++ y) t') ∧ n' = news) False := by
  w_on
  unfold CallsR
  k_fill
  intro p loose mean mg mb dp un gd cn cs fa ccd cl outer A₀ base h₀ L m hS gS dS tS oS Q E hB hF hX hN hT hk hd hu hret hrais
  refine wpAny_call ?_
  k_dflt (refine' code_def (binds := [(PySem.Str.ofString "op", .str (PySem.Str.ofString "+") to), (PySem.Str.ofString "a", .bytes x t), (PySem.Str.ofString "b", .bytes y u), (PySem.Str.ofString "kind", .none)]) ?k1 ?k2 ?k3 ?k4 ?k5 ?kA ?kF ?kK ?k6 ?k7 ?k8 ?k9 ?kB ?_ ?c2 ?c3 ?c4 ?c5; (case kA => exact rfl); (case kF => exact rfl); (case kK => assumption); (case k1 => k_asm); (case k2 => k_asm); (case k3 => k_asm); (case k4 => k_asm); (case k5 => k_asm); (case k6 => k_is); (case k7 => k_is); (case k8 => ktr_room); (case k9 => exact binds_cast (binds_K (by k_in) rfl (by k_is) rfl rfl rfl) (by kernel_rfl)); (case c5 => decide); (case kB => exact locs rfl); (case c2 => exact rfl); (case c3 => exact rfl); (case c4 => exact rfl); k_whole; intro g' L' h' FG' F' N' B' X' T'; (try dsimp only [List.reverse_cons, List.reverse_nil, List.nil_append, List.cons_append, List.length_cons, List.length_nil] at F' ⊢); (try k_lift B'); (try k_fold))
  k_steps
  all_goals first
    | exact hret _ _ _ _ ⟨rfl, rfl⟩ (by k_asm) (by first | k_asm | exact news_tl (by k_asm) | exact news_tl (news_tl (by k_asm)))
    | exact hret _ _ _ _ ⟨⟨_, rfl⟩, rfl⟩ (by k_asm) (by first | k_asm | exact news_tl (by k_asm) | exact news_tl (news_tl (by k_asm)))
    | trace_state

set_option maxHeartbeats 8000000 in
theorem tlt_c {x y : Array UInt8} {t u to : Tok} (hx : x.size ≤ 1) (hy : y.size ≤ 1) : CallsR 9 w 135 [.str (PySem.Str.ofString "<") to, .bytes x t, .bytes y u] news (fun v n' => v = .bool (Builtin.Bytes.order x.toList y.toList == .lt) ∧ n' = news) False := by
  w_on
  unfold CallsR
  k_fill
  intro p loose mean mg mb dp un gd cn cs fa ccd cl outer A₀ base h₀ L m hS gS dS tS oS Q E hB hF hX hN hT hk hd hu hret hrais
  refine wpAny_call ?_
  k_dflt (refine' code_def (binds := [(PySem.Str.ofString "op", .str (PySem.Str.ofString "<") to), (PySem.Str.ofString "a", .bytes x t), (PySem.Str.ofString "b", .bytes y u), (PySem.Str.ofString "kind", .none)]) ?k1 ?k2 ?k3 ?k4 ?k5 ?kA ?kF ?kK ?k6 ?k7 ?k8 ?k9 ?kB ?_ ?c2 ?c3 ?c4 ?c5; (case kA => exact rfl); (case kF => exact rfl); (case kK => assumption); (case k1 => k_asm); (case k2 => k_asm); (case k3 => k_asm); (case k4 => k_asm); (case k5 => k_asm); (case k6 => k_is); (case k7 => k_is); (case k8 => ktr_room); (case k9 => exact binds_cast (binds_K (by k_in) rfl (by k_is) rfl rfl rfl) (by kernel_rfl)); (case c5 => decide); (case kB => exact locs rfl); (case c2 => exact rfl); (case c3 => exact rfl); (case c4 => exact rfl); k_whole; intro g' L' h' FG' F' N' B' X' T'; (try dsimp only [List.reverse_cons, List.reverse_nil, List.nil_append, List.cons_append, List.length_cons, List.length_nil] at F' ⊢); (try k_lift B'); (try k_fold))
  k_steps
  all_goals first
    | exact hret _ _ _ _ ⟨rfl, rfl⟩ (by k_asm) (by first | k_asm | exact news_tl (by k_asm) | exact news_tl (news_tl (by k_asm)))
    | exact hret _ _ _ _ ⟨⟨_, rfl⟩, rfl⟩ (by k_asm) (by first | k_asm | exact news_tl (by k_asm) | exact news_tl (news_tl (by k_asm)))
    | trace_state

set_option maxHeartbeats 8000000 in
theorem not_c {b : Bool} {to : Tok} : CallsR 8 w 92 [.str (PySem.Str.ofString "!") to, .bool b] news (fun v n' => v = .bool (!b) ∧ n' = news) False := by
  w_on
  unfold CallsR
  k_fill
  intro p loose mean mg mb dp un gd cn cs fa ccd cl outer A₀ base h₀ L m hS gS dS tS oS Q E hB hF hX hN hT hk hd hu hret hrais
  refine wpAny_call ?_
  k_dflt (refine' code_def (binds := [(PySem.Str.ofString "op", .str (PySem.Str.ofString "!") to), (PySem.Str.ofString "value", .bool b), (PySem.Str.ofString "kind", .none)]) ?k1 ?k2 ?k3 ?k4 ?k5 ?kA ?kF ?kK ?k6 ?k7 ?k8 ?k9 ?kB ?_ ?c2 ?c3 ?c4 ?c5; (case kA => exact rfl); (case kF => exact rfl); (case kK => assumption); (case k1 => k_asm); (case k2 => k_asm); (case k3 => k_asm); (case k4 => k_asm); (case k5 => k_asm); (case k6 => k_is); (case k7 => k_is); (case k8 => ktr_room); (case k9 => exact binds_cast (binds_K (by k_in) rfl (by k_is) rfl rfl rfl) (by kernel_rfl)); (case c5 => decide); (case kB => exact locs rfl); (case c2 => exact rfl); (case c3 => exact rfl); (case c4 => exact rfl); k_whole; intro g' L' h' FG' F' N' B' X' T'; (try dsimp only [List.reverse_cons, List.reverse_nil, List.nil_append, List.cons_append, List.length_cons, List.length_nil] at F' ⊢); (try k_lift B'); (try k_fold))
  k_steps
  all_goals first
    | exact hret _ _ _ _ ⟨rfl, rfl⟩ (by k_asm) (by first | k_asm | exact news_tl (by k_asm) | exact news_tl (news_tl (by k_asm)))
    | trace_state

end
end

end

-- group 4
section

-- CL
section
theorem start_CL : True := by
  w_top off
  k_with_none
  (k_with "eval Constant str" => refine kstr ?_)
  (k_with "eval Constant int" => refine kint ?_)
  (k_with "eval Constant bytes" => refine kbyt ?_)
  (k_with "binaryOp Add int int" => with_reducible refine kadd ?_)
  (k_with "binaryOp Sub int int" => with_reducible refine ksub ?_)
  (k_with "unaryOp USub int" => with_reducible refine kneg ?_)
  (k_with "storeName" => (k_here; k_dflt (refine kstL (by k_asm) (by k_asm) ?_ (rfl) (rfl); k_whole; intro h9 F9 N9; (try k_sweep))))
  (k_with "newTuple" => (k_here; k_dflt (refine ktuK (by k_asm) (by k_asm) ?_ (by kmk_size)); intro D7 h7 F7 N7 l7; (try k_lt l7); (try k_sweep)))
  (k_with "newList" => (k_here; k_dflt (refine kltK (by k_asm) (by k_asm) ?_ (by size_fits)); intro D7 h7 F7 N7 l7; (try k_lt l7); (try k_sweep)))
  (k_with "steps9" => repeat' (first | (k_unfold; (try dsimp only)) | (k_end; wrow_close) | (walk1 <;> (try dsimp only)) | (dsimp only; walk1) | (leave1; walk_say "STEP leave1"; try dsimp only) | (with_reducible refine popN (by assumption) ?_) | (with_reducible refine popR (by assumption) ?_) | ((refine pop_ (by assumption) ?_); (try dsimp only)) | fail "no step"))
  (k_with "all9" => focus ((repeat (first | exact List.forall_mem_nil _ | with_reducible assumption | (refine List.forall_mem_cons.mpr ⟨by k_ne, ?_⟩))); done))
  (k_with "room9" => first | exact rl1 (by with_reducible assumption) (Nat.le_of_ble_eq_true rfl) | exact rl0 (by with_reducible assumption) (Nat.le_of_ble_eq_true rfl) | exact rl2 (by with_reducible assumption) (Nat.le_of_ble_eq_true rfl) | exact rlz (by assumption))
  (k_with "ne9" => (refine neN ?_; (try dsimp only); first | (refine Nat.ne_of_lt ?_; focus ((repeat (first | with_reducible assumption | exact cj0 (by with_reducible assumption) | exact cj1 (by with_reducible assumption) | exact cj2 (by with_reducible assumption) | exact cj3 (by with_reducible assumption) | exact cj4 (by with_reducible assumption) | exact cj5 (by with_reducible assumption) | exact cj6 (by with_reducible assumption) | exact cj7 (by with_reducible assumption) | exact cj8 (by with_reducible assumption) | exact cj9 (by with_reducible assumption) | exact cj10 (by with_reducible assumption) | exact cj11 (by with_reducible assumption) | exact cj12 (by with_reducible assumption) | exact cj13 (by with_reducible assumption) | exact cj14 (by with_reducible assumption) | exact cj15 (by with_reducible assumption) | (refine lt_tr (by with_reducible assumption) ?_))); done)) | (refine Nat.ne_of_gt ?_; focus ((repeat (first | with_reducible assumption | exact cj0 (by with_reducible assumption) | exact cj1 (by with_reducible assumption) | exact cj2 (by with_reducible assumption) | exact cj3 (by with_reducible assumption) | exact cj4 (by with_reducible assumption) | exact cj5 (by with_reducible assumption) | exact cj6 (by with_reducible assumption) | exact cj7 (by with_reducible assumption) | exact cj8 (by with_reducible assumption) | exact cj9 (by with_reducible assumption) | exact cj10 (by with_reducible assumption) | exact cj11 (by with_reducible assumption) | exact cj12 (by with_reducible assumption) | exact cj13 (by with_reducible assumption) | exact cj14 (by with_reducible assumption) | exact cj15 (by with_reducible assumption) | (refine lt_tr (by with_reducible assumption) ?_))); done))))
  (k_with "mem9" => focus ((repeat (first | with_reducible assumption | exact List.Mem.head _ | refine List.mem_cons_of_mem _ ?_)); done))
  trivial


theorem words_CL_32 : True := by
  (k_with "eval Call" => (((with_reducible show wpAny _ _ (eval (PySem.Expr.Call (PySem.Expr.Name _ _) _ [] _) _) _ _ _); k_dflt (refine Call_ ?_))))
  (k_with "eval Name" => ((k_here; k_dflt (first | (refine ld (by k_asm) (by exact rfl) ?_; k_whole) | (refine name_K (by k_asm) (by k_asm) (by k_asm) (by k_is) ?_; k_whole)))))
  trivial
def isBit (o : Op) : Bool := match o with
  | .band | .bor | .bxor | .bnot => true
  | _ => false
def pick (o : Op) (p q r t : Int) : Int := match o with
  | .band => p
  | .bor => q
  | .bxor => r
  | .bnot => t
  | _ => 0
theorem four_look {o : Op} {p q r t : Int} {t0 t1 t2 t3 t4 t5 t6 t7 : Tok} (ho : isBit o = true) : PySem.Spec.lookup (.str o.text) (strData [(.str (PySem.Str.ofString "&") t0, .int p t1), (.str (PySem.Str.ofString "|") t2, .int q t3), (.str (PySem.Str.ofString "^") t4, .int r t5), (.str (PySem.Str.ofString "&^") t6, .int t t7)]) = some (.int (pick o p q r t)) := by
  cases o <;> first | (cases ho; done) | rfl | kernel_rfl
/-- one bit of what an operator gives -/
def bitOf (o : Op) (x y : Int) : Int := pick o (x * y) (if x < y then y else x) ((x + y).fmod 2) (x * (1 - y))
theorem fmod2_or (z : Int) : z.fmod 2 = 0 ∨ z.fmod 2 = 1 := by
  rw [Int.fmod_eq_emod_of_nonneg _ (by decide)]; omega
theorem pick_ok {o : Op} {x y c : Int} (hx : x = 0 ∨ x = 1) (hy : y = 0 ∨ y = 1) : IntMulOk (pick o (x * y) (if y > x then y else x) ((x + y).fmod 2) (x * (1 - y))) c := by
  rcases hx with rfl | rfl <;> rcases hy with rfl | rfl <;> cases o <;> exact .of_left (by decide)
def bitSum (o : Op) (a b : Int) : Nat → Int
  | 0 => 0
  | k + 1 => bitSum o a b k + bitOf o ((a.fdiv (2 ^ k)).fmod 2) ((b.fdiv (2 ^ k)).fmod 2) * (if (k : Int) < 99 then 2 ^ k else 0 - 2 ^ k)
theorem bit_step {o : Op} {a b f k : Int} {pre : List Int} (h : f = bitSum o a b pre.length) (hk : k = 0 + (pre.length : Int)) (z : Int) (hz : z = if k < 99 then 2 ^ k.toNat else 0 - 2 ^ k.toNat) :
    f + bitOf o ((a.fdiv (2 ^ k.toNat)).fmod 2) ((b.fdiv (2 ^ k.toNat)).fmod 2) * z = bitSum o a b (pre ++ [k]).length := by
  have e : k.toNat = pre.length := by omega
  have e2 : k = (pre.length : Int) := by omega
  rw [List.length_append, List.length_singleton, bitSum, hz, h, e, e2]
theorem bit_lt {o : Op} {a b f k : Int} {pre : List Int} (h : f = bitSum o a b pre.length) (hk : k = 0 + (pre.length : Int)) (h9 : k < 99) :
    f + bitOf o ((a.fdiv (2 ^ k.toNat)).fmod 2) ((b.fdiv (2 ^ k.toNat)).fmod 2) * 2 ^ k.toNat = bitSum o a b (pre ++ [k]).length := bit_step h hk _ (by rw [if_pos h9])
theorem bit_ge {o : Op} {a b f k : Int} {pre : List Int} (h : f = bitSum o a b pre.length) (hk : k = 0 + (pre.length : Int)) (h9 : ¬ k < 99) :
    f + bitOf o ((a.fdiv (2 ^ k.toNat)).fmod 2) ((b.fdiv (2 ^ k.toNat)).fmod 2) * (0 - 2 ^ k.toNat) = bitSum o a b (pre ++ [k]).length := bit_step h hk _ (by rw [if_neg h9])
section
variable {w : World} {news : List (Addr × Obj)} {kv : Value} {u : Bool} {lo hi : Int}
theorem words_CL_33 : True := by
  (k_with "exec For Name Call cons nil" => ((k_here; (rename Fr _ _ _ _ => lF'); (with_unfolding_all refine For_invVF lF' (rfl) (rfl) ?_; k_whole))))
  (k_with "binaryOp Mult int int" => ((with_reducible refine PyProof.Rows.mul_int ?_ (pick_ok (fmod2_or _) (fmod2_or _)))))
  (k_with "getItem ref str" => ((k_here; k_dflt (refine getItem_tab PyProof.V.same_str (strKind_is _ _ _ _) (by k_tabat) (four_look (by assumption)) ?_; k_whole); intro _ hv'; dict_open hv')))
  trivial
set_option hygiene false in
local macro_rules | `(tactic| walk_at "pyIter ref") => `(tactic| (k_here; k_dflt (k_state (fun pre found => found = bitSum o a b pre.length) "found")))
set_option maxHeartbeats 8000000 in
theorem bitwise_c {o : Op} {a b : Int} {ta tb to : Tok} (ho : isBit o = true) : CallsR 1 w 199 [.str o.text to, .int a ta, .int b tb] news (fun v n' => (∃ t, v = .int (bitSum o a b 100) t) ∧ n' = news) False := by
  w_on
  unfold CallsR
  k_fill
  intro p loose mean mg mb dp un gd cn cs fa ccd cl outer A₀ base h₀ L m hS gS dS tS oS Q E hB hF hX hN hT hk hd hu hret hrais
  refine wpAny_call ?_
  k_dflt (refine' code_def (binds := [(PySem.Str.ofString "op", .str o.text to), (PySem.Str.ofString "a", .int a ta), (PySem.Str.ofString "b", .int b tb)]) ?k1 ?k2 ?k3 ?k4 ?k5 ?kA ?kF ?kK ?k6 ?k7 ?k8 ?k9 ?kB ?_ ?c2 ?c3 ?c4 ?c5; (case kA => exact rfl); (case kF => exact rfl); (case kK => assumption); (case k1 => k_asm); (case k2 => k_asm); (case k3 => k_asm); (case k4 => k_asm); (case k5 => k_asm); (case k6 => k_is); (case k7 => k_is); (case k8 => ktr_room); (case k9 => exact BindsTo.of_eq (by kernel_rfl)); (case c5 => decide); (case kB => exact locs rfl); (case c2 => exact rfl); (case c3 => exact rfl); (case c4 => exact rfl); k_whole; intro g' L' h' FG' F' N' B' X' T'; (try dsimp only [List.reverse_cons, List.reverse_nil, List.nil_append, List.cons_append, List.length_cons, List.length_nil] at F' ⊢); (try k_lift B'); (try k_fold))
  k_with "state" => first | exact bit_lt (o := o) (by assumption) (by assumption) (by assumption) | exact bit_ge (o := o) (by assumption) (by assumption) (by assumption)
  k_steps
  all_goals first
    | (subst kInv; exact hret _ _ _ _ ⟨⟨_, rfl⟩, rfl⟩ (by k_asm) (by k_asm))
    | trace_state

end
end

-- MB
section
theorem start_MB : True := by
  w_top off
  k_with_none
  (k_with "eval Constant str" => refine kstr ?_)
  (k_with "eval Constant int" => refine kint ?_)
  (k_with "eval Constant bytes" => refine kbyt ?_)
  (k_with "binaryOp Add int int" => with_reducible refine kadd ?_)
  (k_with "binaryOp Sub int int" => with_reducible refine ksub ?_)
  (k_with "unaryOp USub int" => with_reducible refine kneg ?_)
  (k_with "storeName" => (k_here; k_dflt (refine kstL (by k_asm) (by k_asm) ?_ (rfl) (rfl); k_whole; intro h9 F9 N9; (try k_sweep))))
  (k_with "newTuple" => (k_here; k_dflt (refine ktuK (by k_asm) (by k_asm) ?_ (by kmk_size)); intro D7 h7 F7 N7 l7; (try k_lt l7); (try k_sweep)))
  (k_with "newList" => (k_here; k_dflt (refine kltK (by k_asm) (by k_asm) ?_ (by size_fits)); intro D7 h7 F7 N7 l7; (try k_lt l7); (try k_sweep)))
  (k_with "steps9" => repeat' (first | (k_unfold; (try dsimp only)) | (k_end; wrow_close) | (walk1 <;> (try dsimp only)) | (dsimp only; walk1) | (leave1; walk_say "STEP leave1"; try dsimp only) | (with_reducible refine popN (by assumption) ?_) | (with_reducible refine popR (by assumption) ?_) | ((refine pop_ (by assumption) ?_); (try dsimp only)) | fail "no step"))
  (k_with "all9" => focus ((repeat (first | exact List.forall_mem_nil _ | with_reducible assumption | (refine List.forall_mem_cons.mpr ⟨by k_ne, ?_⟩))); done))
  (k_with "room9" => first | exact rl1 (by with_reducible assumption) (Nat.le_of_ble_eq_true rfl) | exact rl0 (by with_reducible assumption) (Nat.le_of_ble_eq_true rfl) | exact rl2 (by with_reducible assumption) (Nat.le_of_ble_eq_true rfl) | exact rlz (by assumption))
  (k_with "ne9" => (refine neN ?_; (try dsimp only); first | (refine Nat.ne_of_lt ?_; focus ((repeat (first | with_reducible assumption | exact cj0 (by with_reducible assumption) | exact cj1 (by with_reducible assumption) | exact cj2 (by with_reducible assumption) | exact cj3 (by with_reducible assumption) | exact cj4 (by with_reducible assumption) | exact cj5 (by with_reducible assumption) | exact cj6 (by with_reducible assumption) | exact cj7 (by with_reducible assumption) | exact cj8 (by with_reducible assumption) | exact cj9 (by with_reducible assumption) | exact cj10 (by with_reducible assumption) | exact cj11 (by with_reducible assumption) | exact cj12 (by with_reducible assumption) | exact cj13 (by with_reducible assumption) | exact cj14 (by with_reducible assumption) | exact cj15 (by with_reducible assumption) | (refine lt_tr (by with_reducible assumption) ?_))); done)) | (refine Nat.ne_of_gt ?_; focus ((repeat (first | with_reducible assumption | exact cj0 (by with_reducible assumption) | exact cj1 (by with_reducible assumption) | exact cj2 (by with_reducible assumption) | exact cj3 (by with_reducible assumption) | exact cj4 (by with_reducible assumption) | exact cj5 (by with_reducible assumption) | exact cj6 (by with_reducible assumption) | exact cj7 (by with_reducible assumption) | exact cj8 (by with_reducible assumption) | exact cj9 (by with_reducible assumption) | exact cj10 (by with_reducible assumption) | exact cj11 (by with_reducible assumption) | exact cj12 (by with_reducible assumption) | exact cj13 (by with_reducible assumption) | exact cj14 (by with_reducible assumption) | exact cj15 (by with_reducible assumption) | (refine lt_tr (by with_reducible assumption) ?_))); done))))
  (k_with "mem9" => focus ((repeat (first | with_reducible assumption | exact List.Mem.head _ | refine List.mem_cons_of_mem _ ?_)); done))
  trivial

def gain (o : Op) (a b : Int) : Int := match o with
  | .band => Builtin.bitAnd a b
  | .bor => Builtin.bitOr a b
  | .bxor => Builtin.bitXor a b
  | .bnot => Builtin.bitAnd a (-1 - b)
  | _ => 0
def bsS (K : Nat) (o : Op) (a b : Int) : Nat → Int
  | 0 => 0
  | k + 1 => bsS K o a b k + bitOf o ((a.fdiv (2 ^ k)).fmod 2) ((b.fdiv (2 ^ k)).fmod 2) * (if k < K then 2 ^ k else 0 - 2 ^ k)
theorem bsS_sum (o : Op) (a b : Int) : ∀ k, bsS 99 o a b k = bitSum o a b k
  | 0 => rfl
  | k + 1 => by
    rw [bsS, bitSum, bsS_sum o a b k]
    have : ((k : Int) < 99) ↔ k < 99 := by omega
    by_cases h : k < 99
    · rw [if_pos h, if_pos (this.mpr h)]
    · rw [if_neg h, if_neg (fun z => h (this.mp z))]
theorem half_pow (a : Int) (k : Nat) : a.fdiv (2 ^ (k + 1)) = (a / 2).fdiv (2 ^ k) := by
  have h1 : (0 : Int) ≤ 2 ^ (k + 1) := Int.le_of_lt (Int.pow_pos (by decide))
  have h2 : (0 : Int) ≤ 2 ^ k := Int.le_of_lt (Int.pow_pos (by decide))
  rw [Int.fdiv_eq_ediv_of_nonneg _ h1, Int.fdiv_eq_ediv_of_nonneg _ h2, Int.pow_succ, Int.mul_comm, Int.ediv_ediv_of_nonneg (by decide)]
theorem bsS_half (K : Nat) (o : Op) (a b : Int) : ∀ k, bsS (K + 1) o a b (k + 1) = bitOf o (a % 2) (b % 2) + 2 * bsS K o (a / 2) (b / 2) k
  | 0 => by
    simp only [bsS, Nat.zero_lt_succ, if_true, Int.pow_zero, Int.fdiv_one, Int.mul_one, Int.mul_zero, Int.zero_add, Int.add_zero]
    rw [Int.fmod_eq_emod_of_nonneg _ (by decide), Int.fmod_eq_emod_of_nonneg _ (by decide)]
  | k + 1 => by
    rw [bsS, bsS_half K o a b k, bsS, half_pow, half_pow]
    have e : (if k + 1 < K + 1 then (2 : Int) ^ (k + 1) else 0 - 2 ^ (k + 1)) = 2 * (if k < K then 2 ^ k else 0 - 2 ^ k) := by
      by_cases h : k < K
      · rw [if_pos h, if_pos (by omega), Int.pow_succ]; omega
      · rw [if_neg h, if_neg (by omega), Int.pow_succ]; omega
    rw [e, Int.mul_add, Int.add_assoc]
    congr 2
    rw [Int.mul_left_comm]
theorem lin_or {a b x y A B P g : Int} (ha : 2 * A + x = a) (hb : 2 * B + y = b) : a + b - (2 * P + g) = (x + y - g) + 2 * (A + B - P) := by omega
theorem lin_xor {a b x y A B P g : Int} (ha : 2 * A + x = a) (hb : 2 * B + y = b) : a + b - 2 * (2 * P + g) = (x + y - 2 * g) + 2 * (A + B - 2 * P) := by omega
theorem bit2 (z : Int) : z % 2 = 0 ∨ z % 2 = 1 := by omega
theorem not2 (b : Int) : (-1 - b) / 2 = -1 - b / 2 ∧ (-1 - b) % 2 = 1 - b % 2 := by omega
theorem and1 {x y : Int} (hx : x = 0 ∨ x = 1) (hy : y = 0 ∨ y = 1) : (if x = 1 ∧ y = 1 then (1 : Int) else 0) = x * y := by
  rcases hx with rfl | rfl <;> rcases hy with rfl | rfl <;> rfl
theorem or1 {x y : Int} (hx : x = 0 ∨ x = 1) (hy : y = 0 ∨ y = 1) : x + y - x * y = if x < y then y else x := by
  rcases hx with rfl | rfl <;> rcases hy with rfl | rfl <;> rfl
theorem xor1 {x y : Int} (hx : x = 0 ∨ x = 1) (hy : y = 0 ∨ y = 1) : x + y - 2 * (x * y) = (x + y).fmod 2 := by
  rcases hx with rfl | rfl <;> rcases hy with rfl | rfl <;> rfl
theorem not1 {y : Int} (hy : y = 0 ∨ y = 1) : 1 - y = 0 ∨ 1 - y = 1 := by
  rcases hy with rfl | rfl
  · exact .inr rfl
  · exact .inl rfl
theorem four_half {o : Op} (ho : isBit o = true) (a b : Int) : gain o a b = bitOf o (a % 2) (b % 2) + 2 * gain o (a / 2) (b / 2) := by
  cases o <;> first | (cases ho; done) | skip
  · show Builtin.bitAnd a b = (a % 2) * (b % 2) + 2 * Builtin.bitAnd (a / 2) (b / 2)
    rw [kbt_halves, and1 (bit2 a) (bit2 b), Int.add_comm]
  · show Builtin.bitOr a b = (if a % 2 < b % 2 then b % 2 else a % 2) + 2 * Builtin.bitOr (a / 2) (b / 2)
    rw [bitOr_and, bitOr_and, kbt_halves a b, and1 (bit2 a) (bit2 b), lin_or (Int.mul_ediv_add_emod a 2) (Int.mul_ediv_add_emod b 2), or1 (bit2 a) (bit2 b)]
  · show Builtin.bitXor a b = ((a % 2) + (b % 2)).fmod 2 + 2 * Builtin.bitXor (a / 2) (b / 2)
    rw [bitXor_and, bitXor_and, kbt_halves a b, and1 (bit2 a) (bit2 b), lin_xor (Int.mul_ediv_add_emod a 2) (Int.mul_ediv_add_emod b 2), xor1 (bit2 a) (bit2 b)]
  · show Builtin.bitAnd a (-1 - b) = (a % 2) * (1 - b % 2) + 2 * Builtin.bitAnd (a / 2) (-1 - b / 2)
    rw [kbt_halves, (not2 b).1, (not2 b).2, and1 (bit2 a) (not1 (bit2 b)), Int.add_comm]
theorem four_ends {o : Op} (ho : isBit o = true) {a b : Int} (ha : a = 0 ∨ a = -1) (hb : b = 0 ∨ b = -1) : bsS 0 o a b 1 = gain o a b := by
  rcases ha with rfl | rfl <;> rcases hb with rfl | rfl <;> cases o <;> first | (cases ho; done) | decide +kernel
theorem bsS_gain {o : Op} (ho : isBit o = true) : ∀ (K : Nat) (a b : Int), -2 ^ K ≤ a → a < 2 ^ K → -2 ^ K ≤ b → b < 2 ^ K → bsS K o a b (K + 1) = gain o a b
  | 0, a, b, h1, h2, h3, h4 => four_ends ho (by omega) (by omega)
  | K + 1, a, b, h1, h2, h3, h4 => by
    rw [Int.pow_succ] at h1 h2 h3 h4
    rw [bsS_half, bsS_gain ho K (a / 2) (b / 2) (by omega) (by omega) (by omega) (by omega), ← four_half ho]
theorem bitSum_gain {o : Op} (ho : isBit o = true) {a b : Int} (h1 : -18446744073709551616 < a) (h2 : a < 18446744073709551616) (h3 : -18446744073709551616 < b) (h4 : b < 18446744073709551616) : bitSum o a b 100 = gain o a b := by
  have e : (2 : Int) ^ 99 = 633825300114114700748351602688 := by decide +kernel
  rw [← bsS_sum, bsS_gain ho 99 a b (by rw [e]; omega) (by rw [e]; omega) (by rw [e]; omega) (by rw [e]; omega)]
theorem spec_four {o : Op} (ho : isBit o = true) (a b lo hi : Int) : spec o a b lo hi = kept lo hi (gain o a b) := by
  cases o <;> first | (cases ho; done) | rfl
end

-- CM
section
theorem start_CM : True := by
  w_top off
  k_with_none
  (k_with "eval Constant str" => refine kstr ?_)
  (k_with "eval Constant int" => refine kint ?_)
  (k_with "eval Constant bytes" => refine kbyt ?_)
  (k_with "binaryOp Add int int" => with_reducible refine kadd ?_)
  (k_with "binaryOp Sub int int" => with_reducible refine ksub ?_)
  (k_with "unaryOp USub int" => with_reducible refine kneg ?_)
  (k_with "storeName" => (k_here; k_dflt (refine kstL (by k_asm) (by k_asm) ?_ (rfl) (rfl); k_whole; intro h9 F9 N9; (try k_sweep))))
  (k_with "newTuple" => (k_here; k_dflt (refine ktuK (by k_asm) (by k_asm) ?_ (by kmk_size)); intro D7 h7 F7 N7 l7; (try k_lt l7); (try k_sweep)))
  (k_with "newList" => (k_here; k_dflt (refine kltK (by k_asm) (by k_asm) ?_ (by size_fits)); intro D7 h7 F7 N7 l7; (try k_lt l7); (try k_sweep)))
  (k_with "steps9" => repeat' (first | (k_unfold; (try dsimp only)) | (k_end; wrow_close) | (walk1 <;> (try dsimp only)) | (dsimp only; walk1) | (leave1; walk_say "STEP leave1"; try dsimp only) | (with_reducible refine popN (by assumption) ?_) | (with_reducible refine popR (by assumption) ?_) | ((refine pop_ (by assumption) ?_); (try dsimp only)) | fail "no step"))
  (k_with "all9" => focus ((repeat (first | exact List.forall_mem_nil _ | with_reducible assumption | (refine List.forall_mem_cons.mpr ⟨by k_ne, ?_⟩))); done))
  (k_with "room9" => first | exact rl1 (by with_reducible assumption) (Nat.le_of_ble_eq_true rfl) | exact rl0 (by with_reducible assumption) (Nat.le_of_ble_eq_true rfl) | exact rl2 (by with_reducible assumption) (Nat.le_of_ble_eq_true rfl) | exact rlz (by assumption))
  (k_with "ne9" => (refine neN ?_; (try dsimp only); first | (refine Nat.ne_of_lt ?_; focus ((repeat (first | with_reducible assumption | exact cj0 (by with_reducible assumption) | exact cj1 (by with_reducible assumption) | exact cj2 (by with_reducible assumption) | exact cj3 (by with_reducible assumption) | exact cj4 (by with_reducible assumption) | exact cj5 (by with_reducible assumption) | exact cj6 (by with_reducible assumption) | exact cj7 (by with_reducible assumption) | exact cj8 (by with_reducible assumption) | exact cj9 (by with_reducible assumption) | exact cj10 (by with_reducible assumption) | exact cj11 (by with_reducible assumption) | exact cj12 (by with_reducible assumption) | exact cj13 (by with_reducible assumption) | exact cj14 (by with_reducible assumption) | exact cj15 (by with_reducible assumption) | (refine lt_tr (by with_reducible assumption) ?_))); done)) | (refine Nat.ne_of_gt ?_; focus ((repeat (first | with_reducible assumption | exact cj0 (by with_reducible assumption) | exact cj1 (by with_reducible assumption) | exact cj2 (by with_reducible assumption) | exact cj3 (by with_reducible assumption) | exact cj4 (by with_reducible assumption) | exact cj5 (by with_reducible assumption) | exact cj6 (by with_reducible assumption) | exact cj7 (by with_reducible assumption) | exact cj8 (by with_reducible assumption) | exact cj9 (by with_reducible assumption) | exact cj10 (by with_reducible assumption) | exact cj11 (by with_reducible assumption) | exact cj12 (by with_reducible assumption) | exact cj13 (by with_reducible assumption) | exact cj14 (by with_reducible assumption) | exact cj15 (by with_reducible assumption) | (refine lt_tr (by with_reducible assumption) ?_))); done))))
  (k_with "mem9" => focus ((repeat (first | with_reducible assumption | exact List.Mem.head _ | refine List.mem_cons_of_mem _ ?_)); done))
  trivial


theorem words_CM_34 : True := by
  (k_with "eval Call" => (((with_reducible show wpAny _ _ (eval (PySem.Expr.Call (PySem.Expr.Name _ _) _ [] _) _) _ _ _); k_dflt (refine Call_ ?_))))
  (k_with "eval Name" => ((k_here; k_dflt (first | (refine ld (by k_asm) (by exact rfl) ?_; k_whole) | (refine name_K (by k_asm) (by k_asm) (by k_asm) (by k_is) ?_; k_whole)))))
  trivial
theorem tdiv_pp {a b : Int} (ha : 0 ≤ a) (hb : 0 ≤ b) : 0 ≤ a.tdiv b := Int.tdiv_nonneg ha hb
theorem tdiv_pn {a b : Int} (ha : 0 ≤ a) (hb : ¬ 0 ≤ b) : a.tdiv b ≤ 0 := by
  have h := tdiv_pp ha (show 0 ≤ -b by omega)
  rw [Int.tdiv_neg] at h; omega
theorem tdiv_np {a b : Int} (ha : ¬ 0 ≤ a) (hb : 0 ≤ b) : a.tdiv b ≤ 0 := by
  have h := tdiv_pp (show 0 ≤ -a by omega) hb
  rw [Int.neg_tdiv] at h; omega
theorem tdiv_nn {a b : Int} (ha : ¬ 0 ≤ a) (hb : ¬ 0 ≤ b) : 0 ≤ a.tdiv b := by
  have h := tdiv_pp (show 0 ≤ -a by omega) (show 0 ≤ -b by omega)
  rw [Int.neg_tdiv, Int.tdiv_neg] at h; omega
theorem fdiv_as {a b : Int} (hb : b ≠ 0) : (b ∣ a ∧ a.fdiv b = a.tdiv b) ∨ (¬ b ∣ a ∧ ((0 ≤ a ∧ 0 ≤ b ∨ ¬ 0 ≤ a ∧ ¬ 0 ≤ b) ∧ 0 ≤ a.tdiv b ∧ a.fdiv b = a.tdiv b ∨ a.tdiv b ≤ 0 ∧ a.fdiv b = a.tdiv b - 1)) := by
  have h1 := Int.fdiv_eq_tdiv (a := a) (b := b)
  by_cases hd : b ∣ a
  · rw [if_pos hd] at h1; exact .inl ⟨hd, by omega⟩
  · rw [if_neg hd] at h1
    refine .inr ⟨hd, ?_⟩
    by_cases ha : 0 ≤ a
    · rw [if_pos ha] at h1
      by_cases hb' : 0 ≤ b
      · rw [if_pos hb'] at h1; exact .inl ⟨.inl ⟨ha, hb'⟩, tdiv_pp ha hb', by omega⟩
      · rw [if_neg hb'] at h1; exact .inr ⟨tdiv_pn ha hb', h1⟩
    · rw [if_neg ha] at h1
      by_cases hb' : 0 ≤ b
      · rw [if_pos hb', Int.sign_eq_one_of_pos (by omega)] at h1; exact .inr ⟨tdiv_np ha hb', h1⟩
      · rw [if_neg hb', Int.sign_eq_neg_one_of_neg (by omega)] at h1; exact .inl ⟨.inr ⟨ha, hb'⟩, tdiv_nn ha hb', by omega⟩
theorem whole_lt {a b : Int} (hb : b ≠ 0) (h : a.fdiv b < 0) : a.fdiv b + (if (a.fdiv b * b != a) = true then 1 else 0) = a.tdiv b := by
  rcases fdiv_as (a := a) hb with ⟨hd, e⟩ | ⟨hd, ⟨_, h2, e⟩ | ⟨h2, e⟩⟩
  · rw [if_neg (by simpa using Int.fdiv_mul_cancel hd), Int.add_zero, e]
  · omega
  · rw [if_pos (by
      simp only [bne_iff_ne, ne_eq]
      intro z
      exact hd ⟨a.fdiv b, by rw [Int.mul_comm]; exact z.symm⟩), e]; omega
theorem whole_ge {a b : Int} (hb : b ≠ 0) (h : ¬ a.fdiv b < 0) : a.fdiv b + (if decide (a.fdiv b < 0) = true then 1 else 0) = a.tdiv b := by
  rw [if_neg (by simpa using h), Int.add_zero]
  rcases fdiv_as (a := a) hb with ⟨hd, e⟩ | ⟨hd, ⟨_, h2, e⟩ | ⟨h2, e⟩⟩
  · exact e
  · exact e
  · omega
theorem spec_div0 {a b lo hi : Int} {v : Value} (h : b = 0) (hv : ∃ t, v = .str (PySem.Str.ofString "fault") t) : (spec .div a b lo hi).Val v := by
  have e : spec .div a b lo hi = .fault := if_pos h
  rw [e]; exact hv
theorem spec_mod0 {a b lo hi : Int} {v : Value} (h : b = 0) (hv : ∃ t, v = .str (PySem.Str.ofString "fault") t) : (spec .mod a b lo hi).Val v := by
  have e : spec .mod a b lo hi = .fault := if_pos h
  rw [e]; exact hv
theorem spec_div {a b lo hi x : Int} {v : Value} (h : b ≠ 0) (hv : (kept lo hi x).Val v) (hx : x = a.tdiv b) : (spec .div a b lo hi).Val v := by
  have e : spec .div a b lo hi = kept lo hi (a.tdiv b) := if_neg h
  rw [e, ← hx]; exact hv
theorem spec_mod {a b lo hi x : Int} {v : Value} (h : b ≠ 0) (hv : (kept lo hi (a - b * x)).Val v) (hx : x = a.tdiv b) : (spec .mod a b lo hi).Val v := by
  have e : spec .mod a b lo hi = kept lo hi (a - b * a.tdiv b) := if_neg h
  rw [e, ← hx]; exact hv
theorem val_at {r r' : Res} {v : Value} (h : r.Val v) (e : r = r') : r'.Val v := e ▸ h
theorem ite_t {b : Bool} {p q : Prop} (h : b = true) (hp : p) : if b = true then p else q := by rw [h]; exact hp
theorem truthy_as {M : Model} {A : Around} {X b : Bool} {Q : Bool → Shared → Prop} {E : Value → Shared → Prop} {s : Shared} (h : X = b) (g : wpAny M A (truthy (.bool b)) Q E s) : wpAny M A (truthy (.bool X)) Q E s := h ▸ g
def pick6 (o : Op) (p q r s t z : Bool) : Bool := match o with
  | .eq => p
  | .ne => q
  | .lt => r
  | .le => s
  | .gt => t
  | _ => z
theorem six_look {o : Op} {p q r s t z : Bool} {t0 t1 t2 t3 t4 t5 : Tok} (ho : isCmp o = true) : PySem.Spec.lookup (.str o.text) (strData [(.str (PySem.Str.ofString "==") t0, .bool p), (.str (PySem.Str.ofString "!=") t1, .bool q), (.str (PySem.Str.ofString "<") t2, .bool r), (.str (PySem.Str.ofString "<=") t3, .bool s), (.str (PySem.Str.ofString ">") t4, .bool t), (.str (PySem.Str.ofString ">=") t5, .bool z)]) = some (.bool (pick6 o p q r s t z)) := by
  cases o <;> first | (cases ho; done) | rfl | kernel_rfl
theorem six_some {o : Op} {p q r s t z : Bool} {t0 t1 t2 t3 t4 t5 : Tok} (ho : isCmp o = true) : (PySem.Spec.lookup (.str o.text) (strData [(.str (PySem.Str.ofString "==") t0, .bool p), (.str (PySem.Str.ofString "!=") t1, .bool q), (.str (PySem.Str.ofString "<") t2, .bool r), (.str (PySem.Str.ofString "<=") t3, .bool s), (.str (PySem.Str.ofString ">") t4, .bool t), (.str (PySem.Str.ofString ">=") t5, .bool z)])).isSome = true := by
  rw [six_look ho]; rfl
theorem six_spec {o : Op} {a b lo hi : Int} (ho : isCmp o = true) : (spec o a b lo hi).Val (.bool (pick6 o (a == b) (a != b) (decide (b - a > 0)) (decide (b - a ≥ 0)) (decide (a - b > 0)) (decide (a - b ≥ 0)))) := by
  cases o <;> first | (cases ho; done) | rfl | exact congrArg Value.bool (decide_eq_decide.mpr (by omega))
theorem any_div (o : Op) : [PySem.Str.ofString "/", PySem.Str.ofString "%"].any (· == o.text) = isDiv o := by cases o <;> decide +kernel
theorem any_bit (o : Op) : [PySem.Str.ofString "&", PySem.Str.ofString "|", PySem.Str.ofString "^", PySem.Str.ofString "&^"].any (· == o.text) = isBit o := by cases o <;> decide +kernel
theorem div_not_bit {o : Op} (h : isBit o = true) : isDiv o = false := by cases o <;> first | (cases h; done) | rfl
theorem div_not_cmp {o : Op} (h : isCmp o = true) : isDiv o = false := by cases o <;> first | (cases h; done) | rfl
theorem bit_not_cmp {o : Op} (h : isCmp o = true) : isBit o = false := by cases o <;> first | (cases h; done) | rfl
section
variable {w : World} {news : List (Addr × Obj)} {kv : Value} {u : Bool} {lo hi : Int}
theorem words_CM_35 : True := by
  (k_with "call ref" => (k_here; (with_reducible show wpAny _ _ (call (Value.ref 192) _) _ _ _); k_dflt (refine callsR_v (by k_asm) (by k_asm) (by k_asm) (by k_asm) (by k_asm) ?_; refine RestR.ledF _ _ _ (kept_c (by assumption)) (by first | exact rfl | assumption) (by ktr_room) (by ktr_units) ?_; k_whole); intro v9 h9 tk9 R9 F9 N9; (try dsimp only); (try k_fold)))
  (k_with "call ref" => (k_here; (with_reducible show wpAny _ _ (call (Value.ref 199) _) _ _ _); k_dflt (refine callsR_v (by k_asm) (by k_asm) (by k_asm) (by k_asm) (by k_asm) ?_; refine RestR.ledF _ _ _ (bitwise_c (by assumption)) (by first | exact rfl | assumption) (by ktr_room) (by ktr_units) ?_; k_whole); intro v9 h9 tk9 R9 F9 N9; obtain ⟨t9, e9⟩ := R9; subst e9; (try dsimp only); (try k_fold)))
  (k_with "binaryOp FloorDiv int int" => ((refine PyProof.Rows.floordiv_int (by assumption) ?_ (Or.inl (PyProof.noPylong_of_log2 (by assumption))))))
  (k_with "ite" => (first | (with_reducible refine ite_isFalse (by assumption) ?_) | (with_reducible refine ite_t (by assumption) ?_)))
  (k_with "truthy bool" => ((k_here; (with_reducible show wpAny _ _ (truthy (Value.bool (Option.isSome _))) _ _ _); k_dflt (refine truthy_as (b := false) (by kernel_rfl) ?_))))
  trivial
set_option maxHeartbeats 8000000 in
theorem due_add {a b : Int} {ta tb to : Tok} (hkn : KN kv u lo hi) (ha : -18446744073709551616 < a) (ha2 : a < 18446744073709551616) (hb : -18446744073709551616 < b) (hb2 : b < 18446744073709551616) : CallsR 4 w 206 [.str (PySem.Str.ofString "+") to, .int a ta, .int b tb, kv] news (fun v n' => ((spec .add a b lo hi).Val v) ∧ n' = news) False := by
  w_on
  unfold CallsR
  k_fill
  intro p loose mean mg mb dp un gd cn cs fa ccd cl outer A₀ base h₀ L m hS gS dS tS oS Q E hB hF hX hN hT hk hd hu hret hrais
  have any0 : ([PySem.Str.ofString "/", PySem.Str.ofString "%"].any fun x => x == PySem.Str.ofString "+") = false := by decide +kernel
  have any1 : ([PySem.Str.ofString "&", PySem.Str.ofString "|", PySem.Str.ofString "^", PySem.Str.ofString "&^"].any fun x => x == PySem.Str.ofString "+") = false := by decide +kernel
  have hlog := log2_small hb hb2
  refine wpAny_call ?_
  k_dflt (refine' code_def (binds := [(PySem.Str.ofString "op", .str (PySem.Str.ofString "+") to), (PySem.Str.ofString "a", .int a ta), (PySem.Str.ofString "b", .int b tb), (PySem.Str.ofString "kind", kv)]) ?k1 ?k2 ?k3 ?k4 ?k5 ?kA ?kF ?kK ?k6 ?k7 ?k8 ?k9 ?kB ?_ ?c2 ?c3 ?c4 ?c5; (case kA => exact rfl); (case kF => exact rfl); (case kK => assumption); (case k1 => k_asm); (case k2 => k_asm); (case k3 => k_asm); (case k4 => k_asm); (case k5 => k_asm); (case k6 => k_is); (case k7 => k_is); (case k8 => ktr_room); (case k9 => exact BindsTo.of_eq (by kernel_rfl)); (case c5 => decide); (case kB => exact locs rfl); (case c2 => exact rfl); (case c3 => exact rfl); (case c4 => exact rfl); k_whole; intro g' L' h' FG' F' N' B' X' T'; (try dsimp only [List.reverse_cons, List.reverse_nil, List.nil_append, List.cons_append, List.length_cons, List.length_nil] at F' ⊢); (try k_lift B'); (try k_fold))
  k_steps
  all_goals first
      | exact hret _ _ _ _ ⟨by assumption, rfl⟩ (by k_asm) (by first | k_asm | exact news_tl (by k_asm) | exact news_tl (news_tl (by k_asm)) | exact news_tl (news_tl (news_tl (by k_asm))))
      | trace_state

set_option maxHeartbeats 8000000 in
theorem due_sub {a b : Int} {ta tb to : Tok} (hkn : KN kv u lo hi) (ha : -18446744073709551616 < a) (ha2 : a < 18446744073709551616) (hb : -18446744073709551616 < b) (hb2 : b < 18446744073709551616) : CallsR 4 w 206 [.str (PySem.Str.ofString "-") to, .int a ta, .int b tb, kv] news (fun v n' => ((spec .sub a b lo hi).Val v) ∧ n' = news) False := by
  w_on
  unfold CallsR
  k_fill
  intro p loose mean mg mb dp un gd cn cs fa ccd cl outer A₀ base h₀ L m hS gS dS tS oS Q E hB hF hX hN hT hk hd hu hret hrais
  have any0 : ([PySem.Str.ofString "/", PySem.Str.ofString "%"].any fun x => x == PySem.Str.ofString "-") = false := by decide +kernel
  have any1 : ([PySem.Str.ofString "&", PySem.Str.ofString "|", PySem.Str.ofString "^", PySem.Str.ofString "&^"].any fun x => x == PySem.Str.ofString "-") = false := by decide +kernel
  have hlog := log2_small hb hb2
  refine wpAny_call ?_
  k_dflt (refine' code_def (binds := [(PySem.Str.ofString "op", .str (PySem.Str.ofString "-") to), (PySem.Str.ofString "a", .int a ta), (PySem.Str.ofString "b", .int b tb), (PySem.Str.ofString "kind", kv)]) ?k1 ?k2 ?k3 ?k4 ?k5 ?kA ?kF ?kK ?k6 ?k7 ?k8 ?k9 ?kB ?_ ?c2 ?c3 ?c4 ?c5; (case kA => exact rfl); (case kF => exact rfl); (case kK => assumption); (case k1 => k_asm); (case k2 => k_asm); (case k3 => k_asm); (case k4 => k_asm); (case k5 => k_asm); (case k6 => k_is); (case k7 => k_is); (case k8 => ktr_room); (case k9 => exact BindsTo.of_eq (by kernel_rfl)); (case c5 => decide); (case kB => exact locs rfl); (case c2 => exact rfl); (case c3 => exact rfl); (case c4 => exact rfl); k_whole; intro g' L' h' FG' F' N' B' X' T'; (try dsimp only [List.reverse_cons, List.reverse_nil, List.nil_append, List.cons_append, List.length_cons, List.length_nil] at F' ⊢); (try k_lift B'); (try k_fold))
  k_steps
  all_goals first
      | exact hret _ _ _ _ ⟨by assumption, rfl⟩ (by k_asm) (by first | k_asm | exact news_tl (by k_asm) | exact news_tl (news_tl (by k_asm)) | exact news_tl (news_tl (news_tl (by k_asm))))
      | trace_state

set_option maxHeartbeats 8000000 in
theorem due_mul {a b : Int} {ta tb to : Tok} (hkn : KN kv u lo hi) (ha : -18446744073709551616 < a) (ha2 : a < 18446744073709551616) (hb : -18446744073709551616 < b) (hb2 : b < 18446744073709551616) : CallsR 4 w 206 [.str (PySem.Str.ofString "*") to, .int a ta, .int b tb, kv] news (fun v n' => ((spec .mul a b lo hi).Val v) ∧ n' = news) False := by
  w_on
  unfold CallsR
  k_fill
  intro p loose mean mg mb dp un gd cn cs fa ccd cl outer A₀ base h₀ L m hS gS dS tS oS Q E hB hF hX hN hT hk hd hu hret hrais
  have any0 : ([PySem.Str.ofString "/", PySem.Str.ofString "%"].any fun x => x == PySem.Str.ofString "*") = false := by decide +kernel
  have any1 : ([PySem.Str.ofString "&", PySem.Str.ofString "|", PySem.Str.ofString "^", PySem.Str.ofString "&^"].any fun x => x == PySem.Str.ofString "*") = false := by decide +kernel
  have hlog := log2_small hb hb2
  refine wpAny_call ?_
  k_dflt (refine' code_def (binds := [(PySem.Str.ofString "op", .str (PySem.Str.ofString "*") to), (PySem.Str.ofString "a", .int a ta), (PySem.Str.ofString "b", .int b tb), (PySem.Str.ofString "kind", kv)]) ?k1 ?k2 ?k3 ?k4 ?k5 ?kA ?kF ?kK ?k6 ?k7 ?k8 ?k9 ?kB ?_ ?c2 ?c3 ?c4 ?c5; (case kA => exact rfl); (case kF => exact rfl); (case kK => assumption); (case k1 => k_asm); (case k2 => k_asm); (case k3 => k_asm); (case k4 => k_asm); (case k5 => k_asm); (case k6 => k_is); (case k7 => k_is); (case k8 => ktr_room); (case k9 => exact BindsTo.of_eq (by kernel_rfl)); (case c5 => decide); (case kB => exact locs rfl); (case c2 => exact rfl); (case c3 => exact rfl); (case c4 => exact rfl); k_whole; intro g' L' h' FG' F' N' B' X' T'; (try dsimp only [List.reverse_cons, List.reverse_nil, List.nil_append, List.cons_append, List.length_cons, List.length_nil] at F' ⊢); (try k_lift B'); (try k_fold))
  k_steps
  all_goals first
      | exact hret _ _ _ _ ⟨by assumption, rfl⟩ (by k_asm) (by first | k_asm | exact news_tl (by k_asm) | exact news_tl (news_tl (by k_asm)) | exact news_tl (news_tl (news_tl (by k_asm))))
      | trace_state

set_option maxHeartbeats 8000000 in
theorem due_div {a b : Int} {ta tb to : Tok} (hkn : KN kv u lo hi) (ha : -18446744073709551616 < a) (ha2 : a < 18446744073709551616) (hb : -18446744073709551616 < b) (hb2 : b < 18446744073709551616) : CallsR 4 w 206 [.str (PySem.Str.ofString "/") to, .int a ta, .int b tb, kv] news (fun v n' => ((spec .div a b lo hi).Val v) ∧ n' = news) False := by
  w_on
  unfold CallsR
  k_fill
  intro p loose mean mg mb dp un gd cn cs fa ccd cl outer A₀ base h₀ L m hS gS dS tS oS Q E hB hF hX hN hT hk hd hu hret hrais
  have any0 : ([PySem.Str.ofString "/", PySem.Str.ofString "%"].any fun x => x == PySem.Str.ofString "/") = true := by decide +kernel
  have hlog := log2_small hb hb2
  refine wpAny_call ?_
  k_dflt (refine' code_def (binds := [(PySem.Str.ofString "op", .str (PySem.Str.ofString "/") to), (PySem.Str.ofString "a", .int a ta), (PySem.Str.ofString "b", .int b tb), (PySem.Str.ofString "kind", kv)]) ?k1 ?k2 ?k3 ?k4 ?k5 ?kA ?kF ?kK ?k6 ?k7 ?k8 ?k9 ?kB ?_ ?c2 ?c3 ?c4 ?c5; (case kA => exact rfl); (case kF => exact rfl); (case kK => assumption); (case k1 => k_asm); (case k2 => k_asm); (case k3 => k_asm); (case k4 => k_asm); (case k5 => k_asm); (case k6 => k_is); (case k7 => k_is); (case k8 => ktr_room); (case k9 => exact BindsTo.of_eq (by kernel_rfl)); (case c5 => decide); (case kB => exact locs rfl); (case c2 => exact rfl); (case c3 => exact rfl); (case c4 => exact rfl); k_whole; intro g' L' h' FG' F' N' B' X' T'; (try dsimp only [List.reverse_cons, List.reverse_nil, List.nil_append, List.cons_append, List.length_cons, List.length_nil] at F' ⊢); (try k_lift B'); (try k_fold))
  k_steps
  all_goals first
      | exact hret _ _ _ _ ⟨spec_div0 (by assumption) ⟨_, rfl⟩, rfl⟩ (by k_asm) (by first | k_asm | exact news_tl (by k_asm) | exact news_tl (news_tl (by k_asm)) | exact news_tl (news_tl (news_tl (by k_asm))))
      | exact hret _ _ _ _ ⟨spec_div (by assumption) (by assumption) (whole_lt (by assumption) (by assumption)), rfl⟩ (by k_asm) (by first | k_asm | exact news_tl (by k_asm) | exact news_tl (news_tl (by k_asm)) | exact news_tl (news_tl (news_tl (by k_asm))))
      | exact hret _ _ _ _ ⟨spec_div (by assumption) (by assumption) (whole_ge (by assumption) (by assumption)), rfl⟩ (by k_asm) (by first | k_asm | exact news_tl (by k_asm) | exact news_tl (news_tl (by k_asm)) | exact news_tl (news_tl (news_tl (by k_asm))))
      | trace_state

set_option maxHeartbeats 8000000 in
theorem due_mod {a b : Int} {ta tb to : Tok} (hkn : KN kv u lo hi) (ha : -18446744073709551616 < a) (ha2 : a < 18446744073709551616) (hb : -18446744073709551616 < b) (hb2 : b < 18446744073709551616) : CallsR 4 w 206 [.str (PySem.Str.ofString "%") to, .int a ta, .int b tb, kv] news (fun v n' => ((spec .mod a b lo hi).Val v) ∧ n' = news) False := by
  w_on
  unfold CallsR
  k_fill
  intro p loose mean mg mb dp un gd cn cs fa ccd cl outer A₀ base h₀ L m hS gS dS tS oS Q E hB hF hX hN hT hk hd hu hret hrais
  have any0 : ([PySem.Str.ofString "/", PySem.Str.ofString "%"].any fun x => x == PySem.Str.ofString "%") = true := by decide +kernel
  have hlog := log2_small hb hb2
  refine wpAny_call ?_
  k_dflt (refine' code_def (binds := [(PySem.Str.ofString "op", .str (PySem.Str.ofString "%") to), (PySem.Str.ofString "a", .int a ta), (PySem.Str.ofString "b", .int b tb), (PySem.Str.ofString "kind", kv)]) ?k1 ?k2 ?k3 ?k4 ?k5 ?kA ?kF ?kK ?k6 ?k7 ?k8 ?k9 ?kB ?_ ?c2 ?c3 ?c4 ?c5; (case kA => exact rfl); (case kF => exact rfl); (case kK => assumption); (case k1 => k_asm); (case k2 => k_asm); (case k3 => k_asm); (case k4 => k_asm); (case k5 => k_asm); (case k6 => k_is); (case k7 => k_is); (case k8 => ktr_room); (case k9 => exact BindsTo.of_eq (by kernel_rfl)); (case c5 => decide); (case kB => exact locs rfl); (case c2 => exact rfl); (case c3 => exact rfl); (case c4 => exact rfl); k_whole; intro g' L' h' FG' F' N' B' X' T'; (try dsimp only [List.reverse_cons, List.reverse_nil, List.nil_append, List.cons_append, List.length_cons, List.length_nil] at F' ⊢); (try k_lift B'); (try k_fold))
  k_steps
  all_goals first
      | exact hret _ _ _ _ ⟨spec_mod0 (by assumption) ⟨_, rfl⟩, rfl⟩ (by k_asm) (by first | k_asm | exact news_tl (by k_asm) | exact news_tl (news_tl (by k_asm)) | exact news_tl (news_tl (news_tl (by k_asm))))
      | exact hret _ _ _ _ ⟨spec_mod (by assumption) (by assumption) (whole_lt (by assumption) (by assumption)), rfl⟩ (by k_asm) (by first | k_asm | exact news_tl (by k_asm) | exact news_tl (news_tl (by k_asm)) | exact news_tl (news_tl (news_tl (by k_asm))))
      | exact hret _ _ _ _ ⟨spec_mod (by assumption) (by assumption) (whole_ge (by assumption) (by assumption)), rfl⟩ (by k_asm) (by first | k_asm | exact news_tl (by k_asm) | exact news_tl (news_tl (by k_asm)) | exact news_tl (news_tl (news_tl (by k_asm))))
      | trace_state

set_option maxHeartbeats 8000000 in
theorem due_bit {o : Op} {a b : Int} {ta tb to : Tok} (ho : isBit o = true) (hkn : KN kv u lo hi) (ha : -18446744073709551616 < a) (ha2 : a < 18446744073709551616) (hb : -18446744073709551616 < b) (hb2 : b < 18446744073709551616) : CallsR 4 w 206 [.str o.text to, .int a ta, .int b tb, kv] news (fun v n' => ((spec o a b lo hi).Val v) ∧ n' = news) False := by
  w_on
  unfold CallsR
  k_fill
  intro p loose mean mg mb dp un gd cn cs fa ccd cl outer A₀ base h₀ L m hS gS dS tS oS Q E hB hF hX hN hT hk hd hu hret hrais
  have any0 := (any_div o).trans (div_not_bit ho)
  have any1 := (any_bit o).trans ho
  have hlog := log2_small hb hb2
  refine wpAny_call ?_
  k_dflt (refine' code_def (binds := [(PySem.Str.ofString "op", .str o.text to), (PySem.Str.ofString "a", .int a ta), (PySem.Str.ofString "b", .int b tb), (PySem.Str.ofString "kind", kv)]) ?k1 ?k2 ?k3 ?k4 ?k5 ?kA ?kF ?kK ?k6 ?k7 ?k8 ?k9 ?kB ?_ ?c2 ?c3 ?c4 ?c5; (case kA => exact rfl); (case kF => exact rfl); (case kK => assumption); (case k1 => k_asm); (case k2 => k_asm); (case k3 => k_asm); (case k4 => k_asm); (case k5 => k_asm); (case k6 => k_is); (case k7 => k_is); (case k8 => ktr_room); (case k9 => exact BindsTo.of_eq (by kernel_rfl)); (case c5 => decide); (case kB => exact locs rfl); (case c2 => exact rfl); (case c3 => exact rfl); (case c4 => exact rfl); k_whole; intro g' L' h' FG' F' N' B' X' T'; (try dsimp only [List.reverse_cons, List.reverse_nil, List.nil_append, List.cons_append, List.length_cons, List.length_nil] at F' ⊢); (try k_lift B'); (try k_fold))
  k_steps
  all_goals first
      | exact hret _ _ _ _ ⟨val_at (by assumption) (by rw [spec_four ho, bitSum_gain ho ha ha2 hb hb2]), rfl⟩ (by k_asm) (by first | k_asm | exact news_tl (by k_asm) | exact news_tl (news_tl (by k_asm)) | exact news_tl (news_tl (news_tl (by k_asm))))
      | trace_state

theorem words_CM_36 : True := by
  (k_with "truthy bool" => ((k_here; (with_reducible show wpAny _ _ (truthy (Value.bool (Option.isSome _))) _ _ _); k_dflt (refine truthy_as (b := true) (six_some (by assumption)) ?_))))
  (k_with "subscriptTail" => ((k_here; (with_reducible show wpAny _ _ (subscriptTail _ _ (Value.ref _) (Value.str _ _)) _ _ _); k_dflt (refine item_strTab (by k_tabat) (by exact six_look (by assumption)) ?_; k_whole); intro _ hv'; dict_open hv')))
  trivial
set_option maxHeartbeats 8000000 in
theorem due_cmp {o : Op} {a b : Int} {ta tb to : Tok} (ho : isCmp o = true) (hkn : KN kv u lo hi) (ha : -18446744073709551616 < a) (ha2 : a < 18446744073709551616) (hb : -18446744073709551616 < b) (hb2 : b < 18446744073709551616) : CallsR 4 w 206 [.str o.text to, .int a ta, .int b tb, kv] news (fun v n' => ((spec o a b lo hi).Val v) ∧ n' = news) False := by
  w_on
  unfold CallsR
  k_fill
  intro p loose mean mg mb dp un gd cn cs fa ccd cl outer A₀ base h₀ L m hS gS dS tS oS Q E hB hF hX hN hT hk hd hu hret hrais
  have any0 := (any_div o).trans (div_not_cmp ho)
  have any1 := (any_bit o).trans (bit_not_cmp ho)
  have hlog := log2_small hb hb2
  refine wpAny_call ?_
  k_dflt (refine' code_def (binds := [(PySem.Str.ofString "op", .str o.text to), (PySem.Str.ofString "a", .int a ta), (PySem.Str.ofString "b", .int b tb), (PySem.Str.ofString "kind", kv)]) ?k1 ?k2 ?k3 ?k4 ?k5 ?kA ?kF ?kK ?k6 ?k7 ?k8 ?k9 ?kB ?_ ?c2 ?c3 ?c4 ?c5; (case kA => exact rfl); (case kF => exact rfl); (case kK => assumption); (case k1 => k_asm); (case k2 => k_asm); (case k3 => k_asm); (case k4 => k_asm); (case k5 => k_asm); (case k6 => k_is); (case k7 => k_is); (case k8 => ktr_room); (case k9 => exact BindsTo.of_eq (by kernel_rfl)); (case c5 => decide); (case kB => exact locs rfl); (case c2 => exact rfl); (case c3 => exact rfl); (case c4 => exact rfl); k_whole; intro g' L' h' FG' F' N' B' X' T'; (try dsimp only [List.reverse_cons, List.reverse_nil, List.nil_append, List.cons_append, List.length_cons, List.length_nil] at F' ⊢); (try k_lift B'); (try k_fold))
  k_steps
  all_goals first
      | exact hret _ _ _ _ ⟨six_spec ho, rfl⟩ (by k_asm) (by first | k_asm | exact news_tl (by k_asm) | exact news_tl (news_tl (by k_asm)) | exact news_tl (news_tl (news_tl (by k_asm))))
      | trace_state

end
end

-- TA
section
theorem start_TA : True := by
  w_top off
  k_with_none
  (k_with "eval Constant str" => refine kstr ?_)
  (k_with "eval Constant int" => refine kint ?_)
  (k_with "eval Constant bytes" => refine kbyt ?_)
  (k_with "binaryOp Add int int" => with_reducible refine kadd ?_)
  (k_with "binaryOp Sub int int" => with_reducible refine ksub ?_)
  (k_with "unaryOp USub int" => with_reducible refine kneg ?_)
  (k_with "storeName" => (k_here; k_dflt (refine kstL (by k_asm) (by k_asm) ?_ (rfl) (rfl); k_whole; intro h9 F9 N9; (try k_sweep))))
  (k_with "newTuple" => (k_here; k_dflt (refine ktuK (by k_asm) (by k_asm) ?_ (by kmk_size)); intro D7 h7 F7 N7 l7; (try k_lt l7); (try k_sweep)))
  (k_with "newList" => (k_here; k_dflt (refine kltK (by k_asm) (by k_asm) ?_ (by size_fits)); intro D7 h7 F7 N7 l7; (try k_lt l7); (try k_sweep)))
  (k_with "steps9" => repeat' (first | (k_unfold; (try dsimp only)) | (k_end; wrow_close) | (walk1 <;> (try dsimp only)) | (dsimp only; walk1) | (leave1; walk_say "STEP leave1"; try dsimp only) | (with_reducible refine popN (by assumption) ?_) | (with_reducible refine popR (by assumption) ?_) | ((refine pop_ (by assumption) ?_); (try dsimp only)) | fail "no step"))
  (k_with "all9" => focus ((repeat (first | exact List.forall_mem_nil _ | with_reducible assumption | (refine List.forall_mem_cons.mpr ⟨by k_ne, ?_⟩))); done))
  (k_with "room9" => first | exact rl1 (by with_reducible assumption) (Nat.le_of_ble_eq_true rfl) | exact rl0 (by with_reducible assumption) (Nat.le_of_ble_eq_true rfl) | exact rl2 (by with_reducible assumption) (Nat.le_of_ble_eq_true rfl) | exact rlz (by assumption))
  (k_with "ne9" => (refine neN ?_; (try dsimp only); first | (refine Nat.ne_of_lt ?_; focus ((repeat (first | with_reducible assumption | exact cj0 (by with_reducible assumption) | exact cj1 (by with_reducible assumption) | exact cj2 (by with_reducible assumption) | exact cj3 (by with_reducible assumption) | exact cj4 (by with_reducible assumption) | exact cj5 (by with_reducible assumption) | exact cj6 (by with_reducible assumption) | exact cj7 (by with_reducible assumption) | exact cj8 (by with_reducible assumption) | exact cj9 (by with_reducible assumption) | exact cj10 (by with_reducible assumption) | exact cj11 (by with_reducible assumption) | exact cj12 (by with_reducible assumption) | exact cj13 (by with_reducible assumption) | exact cj14 (by with_reducible assumption) | exact cj15 (by with_reducible assumption) | (refine lt_tr (by with_reducible assumption) ?_))); done)) | (refine Nat.ne_of_gt ?_; focus ((repeat (first | with_reducible assumption | exact cj0 (by with_reducible assumption) | exact cj1 (by with_reducible assumption) | exact cj2 (by with_reducible assumption) | exact cj3 (by with_reducible assumption) | exact cj4 (by with_reducible assumption) | exact cj5 (by with_reducible assumption) | exact cj6 (by with_reducible assumption) | exact cj7 (by with_reducible assumption) | exact cj8 (by with_reducible assumption) | exact cj9 (by with_reducible assumption) | exact cj10 (by with_reducible assumption) | exact cj11 (by with_reducible assumption) | exact cj12 (by with_reducible assumption) | exact cj13 (by with_reducible assumption) | exact cj14 (by with_reducible assumption) | exact cj15 (by with_reducible assumption) | (refine lt_tr (by with_reducible assumption) ?_))); done))))
  (k_with "mem9" => focus ((repeat (first | with_reducible assumption | exact List.Mem.head _ | refine List.mem_cons_of_mem _ ?_)); done))
  trivial

abbrev frs (l : List Env) : List Addr := l.filterMap (·.frame)

/-- the end of a def whose walk may have turned the frames' slots -/
def LeaveT (A₀ : Around) (base : Heap) (outer : List Env) (env : Env) (K : Frag) (p : Program) (loose : List PySem.Str) (mean : ExcName → Option Value) (mg mb : PySem.Str → Option Value) (g₀ h₀ : Heap) (L : Addr) (m : PySem.Str → Option Value) (g : Heap) (R : Result → Shared → Prop) (v : Value) (s' : Shared) : Prop :=
  ∃ g' L' m' news', KtsTurn (frs (env :: outer)) g g' ∧ Fr g' L' s'.heap m' ∧ News g' L' s'.heap news' ∧
    ∀ h₀', KtsTurn (frs outer) g₀ h₀' → Fr h₀' L s'.heap m → News h₀' L s'.heap news' → Below A₀ base outer h₀' → K.In h₀' → Top p loose mean mg mb h₀' → KtsDicts (frs outer) h₀' → R (.ok (.ret v)) s'

section
variable {prog : Program} {w : World} {A₀ A : Around} {s : Shared} {base h₀ g₀ : Heap} {outer : List Env} {L : Addr} {m : PySem.Str → Option Value} {env : Env} {news : List (Addr × Obj)} {K : Frag}
  {p : Program} {loose : List PySem.Str} {mean : ExcName → Option Value} {mg mb : PySem.Str → Option Value}
  {R : Result → Shared → Prop} {name qual : PySem.Str} {params : Arguments} {body : List Stmt} {scope : Scope} {dV kV doc pm cdv ct oc : Value} {an od : Option Addr} {osl : Array (Option Value)} {f : Addr} {args : Args} {binds : List (PySem.Str × Value)}

theorem leave_ground (B : Below A₀ base outer h₀) (F : Fr h₀ L s.heap m) (N : News h₀ L s.heap news) (XB : K.In base) (TB : Top p loose mean mg mb base) (D : KtsDicts (frs outer) h₀) (T0 : KtsTurn (frs outer) g₀ h₀)
    (hA : A.frames = some (env :: outer)) (hf : env.frame = some L) (hke : env.scope.kind = .function) :
    KtsDicts (frs (env :: outer)) (hideAll s.heap (news.map (·.1))) ∧
      ∀ v s', LeaveT A₀ base outer env K p loose mean mg mb g₀ h₀ L m (hideAll s.heap (news.map (·.1))) R v s' → R (.ok (.ret v)) s' := by
  obtain ⟨FG, BG, st, _⟩ := groundX (R := R) B F N hA hf hke
  have nL : h₀.get? L = none := kts_self F
  obtain ⟨oL, es, ep, hLg, hLd, hLk, hLf⟩ := FG.ns
  refine ⟨fun b hb => ?_, fun v s' hl => ?_⟩
  · rcases memE hf hb with rfl | hb
    · exact ⟨oL, es, ep, hLg, hLd⟩
    · obtain ⟨o, es', n', ho, hd⟩ := D b hb
      exact ⟨o, es', n', st b o ho, hd⟩
  · obtain ⟨g', L', m', news', T', F', N', k⟩ := hl
    obtain ⟨sl, hs⟩ := T'.up hLg
    obtain ⟨T₁, S₁⟩ := kts_turn_at (h := s'.heap) (fs := frs outer) (g := h₀)
      (fun b hb => by
        obtain ⟨_, o, ho', _⟩ := B.frames.mem hb
        exact ⟨o, ho'⟩)
      (fun b o e nmem => F'.keep b o (T'.other b o (st b o e) (fun q => by
        rcases memE hf q with z | z
        · rw [z, nL] at e; cases e
        · exact nmem z)))
      (fun b o e hm => by
        obtain ⟨sl', hs'⟩ := T'.up (st b o e)
        exact ⟨sl', F'.keep _ _ hs'⟩)
    have B₃ : Below A₀ base outer (ktsHeap s'.heap (frs outer) h₀) := ⟨B.stack, fun b o e => T₁.other b o (B.stays b o e) (fun hm => by
      rw [(B.frames.mem hm).1] at e
      cases e), B.frames.of_keeps fun b o e _ => by
      obtain ⟨sl', hs'⟩ := T₁.up e
      exact ⟨_, hs', rfl⟩⟩
    refine k _ (T0.trans T₁) ⟨⟨_, es, ep, F'.keep _ _ hs, hLd, hLk, hLf⟩, S₁, by rw [T₁.size]; exact F.above⟩ (fun q hq => ⟨(N' q hq).1, fun z => ?_, ?_⟩) B₃ (XB.keeps B₃.stays) (TB.keeps B₃.stays) (D.turn T₁)
    · have := (N' q hq).2.2; rw [z, hs] at this; cases this
    · refine T₁.none_ _ ?_
      cases z : h₀.get? q.1 with
      | none => rfl
      | some o =>
        obtain ⟨sl', hs'⟩ := T'.up (st _ _ z)
        have := (N' q hq).2.2
        rw [hs'] at this; cases this

theorem code_defT (B : Below A₀ base outer h₀) (F : Fr h₀ L s.heap m) (X₀ : K.In h₀) (N : News h₀ L s.heap news) (T : Top p loose mean mg mb h₀) (XB : K.In base) (TB : Top p loose mean mg mb base) (D : KtsDicts (frs outer) h₀) (T0 : KtsTurn (frs outer) g₀ h₀)
    (hA : A.frames = some (env :: outer)) (hf : env.frame = some L) (hke : env.scope.kind = .function)
    (ho : K.lookup f = some ⟨oc, od, .func (fnOf name qual params body scope dV kV doc pm an cdv ct), osl⟩) (hcd : codeIn K cdv qual = true) (hroom : A.depth < recursionLimit)
    (hbind : BindsTo s (fnOf name qual params body scope dV kV doc pm an cdv ct) args binds) (hloc : ∀ y ∈ binds, scope.names.lookup y.1 = some .local)
    (h : ∀ g L' h₁, Fr h₀ L g m → Fr g L' h₁ (fun y => binds.reverse.lookup y) → News g L' h₁ news → Below A base (env :: outer) g → K.In g → Top p loose mean mg mb g → KtsDicts (frs (env :: outer)) g → KtsTurn (frs (env :: outer)) g g →
      wpAny (model prog w) (A.deeper (envOf qual scope L' f cdv)) (execs body (envOf qual scope L' f cdv))
        (fun fl s' => LeaveT A₀ base outer env K p loose mean mg mb g₀ h₀ L m g R (match fl with | .ret v => v | _ => .none) s')
        (fun e s' => wpAny (model prog w) (A.deeper (envOf qual scope L' f cdv)) (leaving (envOf qual scope L' f cdv) e) (fun _ s'' => R (.error e) s'') (fun e' s'' => R (.error e') s'') s')
        { s with heap := h₁, toks := s.toks + binds.length })
    (hco : scope.isCoroutine = false) (hgen : scope.isGenerator = false) (hk : scope.kind = .function)
    (hcell : ∀ x ∈ scope.names, x.2 ≠ .cell) : codeAny (model prog w) A (.call (.ref f) args) R s := by
  obtain ⟨FG, BG, st, _⟩ := groundX (R := R) B F N hA hf hke
  obtain ⟨DG, lv⟩ := leave_ground (R := R) B F N XB TB D T0 hA hf hke
  have X := X₀.keeps F.keep
  refine codeAny_call_def (fd := fnOf name qual params body scope dV kV doc pm an cdv ct) (body := body) (binds := binds) hroom (X _ _ ho) rfl (T.nolimit.keeps F.keep) (codeRec_of X hcd) rfl hbind hcell hloc (fun h₁ hns hk₁ => ?_) hco hgen hk
  exact wpAny_mono (h _ s.heap.objs.size h₁ FG ⟨hns, fun b o e => hk₁ b o (of_hideAll _ e), Nat.le_of_eq (hideAll_size _ _)⟩
    (fun q hq => ⟨hk₁ _ _ (N q hq).1, Nat.ne_of_lt (Heap.lt_size (N q hq).1), hideAll_none _ (List.mem_map_of_mem hq)⟩) BG (X₀.keeps st) (T.keeps st) DG .refl) (fun fl s' hl => lv _ _ hl) fun _ _ y => y

theorem code_defCT (B : Below A₀ base outer h₀) (F : Fr h₀ L s.heap m) (X₀ : K.In h₀) (N : News h₀ L s.heap news) (T : Top p loose mean mg mb h₀) (XB : K.In base) (TB : Top p loose mean mg mb base) (D : KtsDicts (frs outer) h₀) (T0 : KtsTurn (frs outer) g₀ h₀)
    (hA : A.frames = some (env :: outer)) (hf : env.frame = some L) (hke : env.scope.kind = .function)
    (ho : K.lookup f = some ⟨oc, od, .func (fnOf name qual params body scope dV kV doc pm an cdv ct), osl⟩) (hcd : codeIn K cdv qual = true) (hroom : A.depth < recursionLimit)
    (hbind : BindsTo s (fnOf name qual params body scope dV kV doc pm an cdv ct) args binds) (hkind : (binds.all fun y => scope.names.lookup y.1 == some .local || scope.names.lookup y.1 == some .cell) = true)
    (hnd : ((cellsFrom 0 scope.names []).map (·.1)).Nodup)
    (h : ∀ g L' h₁ tk cells, Fr h₀ L g m → Fr g L' h₁ (bindL (envOfC qual scope L' f cdv).kindOf binds fun _ => none) → News g L' h₁ (cells ++ news) →
      CellsAre (bindC (envOfC qual scope L' f cdv).kindOf binds fun _ => none) (cellsFrom (L' + 1) scope.names []) cells → Below A base (env :: outer) g → K.In g → Top p loose mean mg mb g → (∀ p ∈ news, p.1 < L') → KtsDicts (frs (env :: outer)) g → KtsTurn (frs (env :: outer)) g g →
      wpAny (model prog w) (A.deeper (envOfC qual scope L' f cdv)) (execs body (envOfC qual scope L' f cdv))
        (fun fl s' => LeaveT A₀ base outer env K p loose mean mg mb g₀ h₀ L m g R (match fl with | .ret v => v | _ => .none) s')
        (fun e s' => wpAny (model prog w) (A.deeper (envOfC qual scope L' f cdv)) (leaving (envOfC qual scope L' f cdv) e) (fun _ s'' => R (.error e) s'') (fun e' s'' => R (.error e') s'') s')
        { s with heap := h₁, toks := tk })
    (hco : scope.isCoroutine = false) (hgen : scope.isGenerator = false) (hk : scope.kind = .function) : codeAny (model prog w) A (.call (.ref f) args) R s := by
  obtain ⟨FG, BG, st, _⟩ := groundX (R := R) B F N hA hf hke
  obtain ⟨DG, lv⟩ := leave_ground (R := R) B F N XB TB D T0 hA hf hke
  have X := X₀.keeps F.keep
  have hlim := T.nolimit.keeps F.keep
  refine codeAny_call_function hroom (X _ _ ho) rfl hco hgen rfl (codeRec_of X hcd) (hbind _ _ _ _ ?_)
  refine wpAny_newFunctionEnv_cells hk (kindsX hkind _) fun env' he s' x => ?_
  subst he
  refine ⟨hlim.keeps x.toInCall.keep, codeAny_func ?_⟩
  obtain ⟨h₁, tk, rfl, _⟩ := x.done
  have hk₁ := x.toInCall.keep
  obtain ⟨cells, NC, Y⟩ := Cl.news (h₀ := s.heap) (Nat.le_refl _) fun n c hm => ⟨x.cell n c (lookup_of_mem_nodup (cellsFrom_names scope.names 0 (s.heap.objs.size + 1) [] [] rfl ▸ hnd) hm), x.above n c hm⟩
  refine wpAny_mono (h _ s.heap.objs.size h₁ tk cells FG ⟨x.toInCall.ns, fun b o e => hk₁ b o (of_hideAll _ e), Nat.le_of_eq (hideAll_size _ _)⟩ (fun q hq => ?_) Y BG (X₀.keeps st) (T.keeps st) (fun q hq => Heap.lt_size (N q hq).1) DG .refl) (fun fl s' hl => lv _ _ hl) fun _ _ y => y
  rcases List.mem_append.mp hq with hq | hq
  · refine ⟨(NC q hq).1, (NC q hq).2.1, ?_⟩
    cases z : (hideAll s.heap (news.map (·.1))).get? q.1 with
    | none => rfl
    | some o => have := of_hideAll _ z; rw [(NC q hq).2.2] at this; cases this
  · exact ⟨hk₁ _ _ (N q hq).1, Nat.ne_of_lt (Heap.lt_size (N q hq).1), hideAll_none _ (List.mem_map_of_mem hq)⟩
end

section
variable {prog : Program} {w : World} {A₀ : Around} {E : Value → Shared → Prop} {s' : Shared} {base g g₀ G : Heap} {outer : List Env} {L a e C : Addr} {m : PySem.Str → Option Value} {name : PySem.Str} {scope : Scope} {cd : Value}
  {b₀ : Stmt} {suite : List Stmt} {pos np : Pos} {rest : List ExceptHandler} {Q : Flow → Shared → Prop} {news : List (Addr × Obj)} {KF : Frag}
  {p : Program} {loose : List PySem.Str} {mean : ExcName → Option Value} {mg mb : PySem.Str → Option Value} {x : PySem.Str}

/-- an own class caught, the ledger kept, nothing asked of the exception -/
theorem caught_own (R : RaisedSN base G (envOf name scope L a cd :: outer) e (.ref C) news s'.heap) (F : Fr g L G m) (K : Below A₀ base outer g) (hsm : G.UpToSlots s'.heap) (XB : KF.In base) (TB : Top p loose mean mg mb base)
    (D : KtsDicts (frs outer) g) (T0 : KtsTurn (frs outer) g₀ g)
    (ex : nsIn KF mainGlobals x = some (some (.ref C))) (q : ktsIn KF C "BaseException" = true)
    (k : ∀ h' g', KtsTurn (frs outer) g₀ g' → Fr g' L h' m → News g' L h' news → Below A₀ base outer g' → KF.In g' → Top p loose mean mg mb g' → KtsDicts (frs outer) g' →
      wpAny (model prog w) ((A₀.deeper (envOf name scope L a cd)).mark (some (.ref e))) (execs (b₀ :: suite) (envOf name scope L a cd)) Q E { s' with heap := h' })
    (hk : scope.kind = .function := by rfl) (hx : (envOf name scope L a cd).kindOf x = some .globalImplicit := by rfl) (hd : (x == ("__debug__" : PySem.Str)) = false := by decide)
    (hE : PassesOwnAt (model prog w) ((A₀.deeper (envOf name scope L a cd)).mark (some (.ref e))) (A₀.deeper (envOf name scope L a cd)) (envOf name scope L a cd) E := by passes_own) :
    wpAny (model prog w) (A₀.deeper (envOf name scope L a cd)) (noteFrame (.ref e) (envOf name scope L a cd))
      (fun _ s₂ => wpAny (model prog w) (A₀.deeper (envOf name scope L a cd)) (setFlight (.ref e) none) (fun _ s₃ =>
        wpAny (model prog w) (A₀.deeper (envOf name scope L a cd)) (handleBy (.ref e) (envOf name scope L a cd) (.ExceptHandler (some (.Name x np)) none (b₀ :: suite) pos :: rest)) Q E s₃) E s₂) E s' := by
  obtain ⟨B, a0, hB, hBG, hl, hfl⟩ := R
  have hL : B.get? L = none := by
    obtain ⟨_, ⟨L', _, hf, hn', _⟩, _⟩ := hfl.2.2.1
    obtain rfl : L = L' := Option.some.inj hf
    exact hn'
  refine wpAny_looks_onW (Around.frames_deeper K.stack) rfl hfl fun h₄ hheld₄ hsm₄ => ?_
  refine wpAny_landsW hheld₄ fun h₅ hheld hsm₅' => ?_
  have hsm₅ := hsm₄.trans hsm₅'
  obtain ⟨g₅, T₅, F₅, K₅⟩ := kts_ground K F hBG hheld.1 (hsm.trans hsm₅)
  have X₅ : KF.In g₅ := XB.keeps K₅.stays
  have P₅ : TopRead p loose mg mb g₅ := topRead_of (TB.keeps K₅.stays)
  obtain ⟨ob, hob, hobc⟩ := hheld.there
  obtain ⟨nm, q', N, bs, bm, hdct, sn, sub, ab, col, dd, k0, k1, k2, k3, k5, newId, hC, hbase, hbT⟩ := kts_cls X₅ q
  have hC₅ := F₅.keep _ _ hC
  refine wpAny_handleBy_cons (codeAny_handlers_test (name_K F₅ X₅ P₅ ex ?_ hk hx hd)) (by intro q; cases q)
  refine wpAny_excMatches_sub_self hC₅ hob hobc hbase (codeAny_handlers_suite ?_)
  refine lands_againW hheld fun h₆ hfl₆ hsm₆ => ?_
  obtain ⟨g₆, T₆, F₆, K₆⟩ := kts_ground K F hBG hfl₆.1 ((hsm.trans hsm₅).trans hsm₆)
  have Nl : News g₆ L h₆ news := fun q hq => ⟨hfl₆.1 _ _ (hl q hq).1, (fun z => by have := (hl q hq).1; rw [z, hL] at this; cases this), T₆.none_ _ (kts_none F.keep (hl q hq).2.1)⟩
  exact wpAny_passesOwnAt hE (k h₆ g₆ (T0.trans T₆) F₆ Nl K₆ (XB.keeps K₆.stays) (TB.keeps K₆.stays) (D.turn T₆))
end

/-- a call that comes back with a value; the frames' slots may have turned -/
abbrev CallsS (k : Nat) (w : World) (f : Addr) (vs : List Value) (news : List (Addr × Obj)) (Ret : Value → List (Addr × Obj) → Prop) : Prop :=
  ∀ (p : Program) (loose : List PySem.Str) (mean : ExcName → Option Value) (mg mb : PySem.Str → Option Value) (dp un : Nat) (gd : Option (List Code)) (cn : PySem.Str) (cs : Scope) (a : Addr) (ccd : Value) (cl : List (PySem.Str × Addr)) (outer : List Env) (A₀ : Around) (base g₀ h₀ : Heap) (L : Addr) (m : PySem.Str → Option Value) (hS : Heap) (gS : Array GenState) (dS : Drawn) (tS : Nat) (oS : OsState) (Q E : Value → Shared → Prop),
    Below A₀ base outer h₀ → Fr h₀ L hS m → (Mine.hd.heap_39 w.params).In h₀ → News h₀ L hS news → Top p loose mean mg mb h₀ → (Mine.hd.heap_39 w.params).In base → Top p loose mean mg mb base → KtsDicts (frs outer) h₀ → KtsTurn (frs outer) g₀ h₀ → cs.kind = .function →
    dp + k < recursionLimit → un + 20 * k < cLine →
    (∀ v news' h' tk' h₀', Ret v news' → KtsTurn (frs outer) g₀ h₀' → Fr h₀' L h' m → News h₀' L h' news' → Below A₀ base outer h₀' → (Mine.hd.heap_39 w.params).In h₀' → Top p loose mean mg mb h₀' → KtsDicts (frs outer) h₀' → Q v ⟨h', gS, dS, tk', oS⟩) →
    wpAny (model Challenge.rw_on0013_01.row.prog w) (ktrTop dp un gd cn cs L a ccd cl outer) (call (.ref f) vs) Q E ⟨hS, gS, dS, tS, oS⟩
end

-- TB
section
theorem start_TB : True := by
  w_top off
  k_with_none
  (k_with "eval Constant str" => refine kstr ?_)
  (k_with "eval Constant int" => refine kint ?_)
  (k_with "eval Constant bytes" => refine kbyt ?_)
  (k_with "binaryOp Add int int" => with_reducible refine kadd ?_)
  (k_with "binaryOp Sub int int" => with_reducible refine ksub ?_)
  (k_with "unaryOp USub int" => with_reducible refine kneg ?_)
  (k_with "storeName" => (k_here; k_dflt (refine kstL (by k_asm) (by k_asm) ?_ (rfl) (rfl); k_whole; intro h9 F9 N9; (try k_sweep))))
  (k_with "newTuple" => (k_here; k_dflt (refine ktuK (by k_asm) (by k_asm) ?_ (by kmk_size)); intro D7 h7 F7 N7 l7; (try k_lt l7); (try k_sweep)))
  (k_with "newList" => (k_here; k_dflt (refine kltK (by k_asm) (by k_asm) ?_ (by size_fits)); intro D7 h7 F7 N7 l7; (try k_lt l7); (try k_sweep)))
  (k_with "steps9" => repeat' (first | (k_unfold; (try dsimp only)) | (k_end; wrow_close) | (walk1 <;> (try dsimp only)) | (dsimp only; walk1) | (leave1; walk_say "STEP leave1"; try dsimp only) | (with_reducible refine popN (by assumption) ?_) | (with_reducible refine popR (by assumption) ?_) | ((refine pop_ (by assumption) ?_); (try dsimp only)) | fail "no step"))
  (k_with "all9" => focus ((repeat (first | exact List.forall_mem_nil _ | with_reducible assumption | (refine List.forall_mem_cons.mpr ⟨by k_ne, ?_⟩))); done))
  (k_with "room9" => first | exact rl1 (by with_reducible assumption) (Nat.le_of_ble_eq_true rfl) | exact rl0 (by with_reducible assumption) (Nat.le_of_ble_eq_true rfl) | exact rl2 (by with_reducible assumption) (Nat.le_of_ble_eq_true rfl) | exact rlz (by assumption))
  (k_with "ne9" => (refine neN ?_; (try dsimp only); first | (refine Nat.ne_of_lt ?_; focus ((repeat (first | with_reducible assumption | exact cj0 (by with_reducible assumption) | exact cj1 (by with_reducible assumption) | exact cj2 (by with_reducible assumption) | exact cj3 (by with_reducible assumption) | exact cj4 (by with_reducible assumption) | exact cj5 (by with_reducible assumption) | exact cj6 (by with_reducible assumption) | exact cj7 (by with_reducible assumption) | exact cj8 (by with_reducible assumption) | exact cj9 (by with_reducible assumption) | exact cj10 (by with_reducible assumption) | exact cj11 (by with_reducible assumption) | exact cj12 (by with_reducible assumption) | exact cj13 (by with_reducible assumption) | exact cj14 (by with_reducible assumption) | exact cj15 (by with_reducible assumption) | (refine lt_tr (by with_reducible assumption) ?_))); done)) | (refine Nat.ne_of_gt ?_; focus ((repeat (first | with_reducible assumption | exact cj0 (by with_reducible assumption) | exact cj1 (by with_reducible assumption) | exact cj2 (by with_reducible assumption) | exact cj3 (by with_reducible assumption) | exact cj4 (by with_reducible assumption) | exact cj5 (by with_reducible assumption) | exact cj6 (by with_reducible assumption) | exact cj7 (by with_reducible assumption) | exact cj8 (by with_reducible assumption) | exact cj9 (by with_reducible assumption) | exact cj10 (by with_reducible assumption) | exact cj11 (by with_reducible assumption) | exact cj12 (by with_reducible assumption) | exact cj13 (by with_reducible assumption) | exact cj14 (by with_reducible assumption) | exact cj15 (by with_reducible assumption) | (refine lt_tr (by with_reducible assumption) ?_))); done))))
  (k_with "mem9" => focus ((repeat (first | with_reducible assumption | exact List.Mem.head _ | refine List.mem_cons_of_mem _ ?_)); done))
  trivial


theorem words_TB_37 : True := by
  (k_with "eval Call" => (((with_reducible show wpAny _ _ (eval (PySem.Expr.Call (PySem.Expr.Name _ _) _ [] _) _) _ _ _); k_dflt (refine Call_ ?_))))
  (k_with "eval Name" => ((k_here; k_dflt (first | (refine ld (by k_asm) (by exact rfl) ?_; k_whole) | (refine name_K (by k_asm) (by k_asm) (by k_asm) (by k_is) ?_; k_whole)))))
  trivial
section
variable {w : World} {news : List (Addr × Obj)} {kv : Value} {u : Bool} {lo hi : Int}
theorem words_TB_38 : True := by
  (k_with "call ref" => (k_here; (with_reducible show wpAny _ _ (call (Value.ref _) _) _ _ _); k_dflt (refine callsR_v (by k_asm) (by k_asm) (by k_asm) (by k_asm) (by k_asm) ?_; refine RestR.mk _ _ _ (by assumption) (by first | exact rfl | assumption) (by ktr_room) (by ktr_units) ?_ ?_; k_whole); rotate_left; intro e9 g9 h9 tk9 R9 FG9 U9 RS9; (try dsimp only); rotate_left; intro v9 n9 h9 tk9 R9 F9 N9; (try dsimp only); (try k_fold)))
  (k_with "noteFrame ref" => ((k_here; k_dflt (refine caught_own (by assumption) (by assumption) (by assumption) (by assumption) (by assumption) (by assumption) (by assumption) (by assumption) (by k_is) (by k_is) ?_; k_whole); intro h8 g8 T8 F8 N8 B8 X8 P8 D8; (try dsimp only))))
  (k_with "callWith ref" => ((k_here; k_dflt (refine callWith_F0 (FnAt.of (by k_asm) (by assumption)) ?_; k_whole; try dsimp only [List.nil_append, List.cons_append]))))
  trivial
set_option maxHeartbeats 8000000 in
theorem told_c {f : Addr} {fd : FuncData} {sl : Array (Option Value)} (hfo : (f, { cls := .type "function", data := .func fd, slots := sl }) ∈ news) {k : Nat} {Ret : Value → List (Addr × Obj) → Prop} {Rais : Prop} (C : CallsR k w f [] news Ret Rais) : CallsS (k + 1) w 213 [.ref f] news (fun v n' => Ret v n' ∨ (Rais ∧ (∃ t, v = .str (PySem.Str.ofString "fault") t) ∧ n' = news)) := by
  w_on
  unfold CallsS
  k_fill
  intro p loose mean mg mb dp un gd cn cs fa ccd cl outer A₀ base g₀ h₀ L m hS gS dS tS oS Q E hB hF hX hN hT hXB hTB hD hT0 hk hd hu hret
  refine wpAny_call ?_
  k_dflt (refine' code_defT (binds := [(PySem.Str.ofString "call", .ref f)]) ?k1 ?k2 ?k3 ?k4 ?k5 ?xb ?tb ?dd ?t0 ?kA ?kF ?kK ?k6 ?k7 ?k8 ?k9 ?kB ?_ ?c2 ?c3 ?c4 ?c5; (case kA => exact rfl); (case kF => exact rfl); (case kK => assumption); (case k1 => k_asm); (case k2 => k_asm); (case k3 => k_asm); (case k4 => k_asm); (case k5 => k_asm); (case xb => assumption); (case tb => assumption); (case dd => assumption); (case t0 => assumption); (case k6 => k_is); (case k7 => k_is); (case k8 => ktr_room); (case k9 => exact BindsTo.of_eq (by kernel_rfl)); (case c5 => decide); (case kB => exact locs rfl); (case c2 => exact rfl); (case c3 => exact rfl); (case c4 => exact rfl); k_whole; intro g' L' h' FG' F' N' B' X' T' D' S'; (try dsimp only [List.reverse_cons, List.reverse_nil, List.nil_append, List.cons_append, List.length_cons, List.length_nil] at F' ⊢); (try k_lift B'); (try k_fold))
  k_steps
  all_goals first
    | exact ⟨_, _, _, _, by assumption, by assumption, by assumption, fun h₅ T₅ F₅ N₅ B₅ X₅ P₅ D₅ => hret _ _ _ _ h₅ (.inl (by assumption)) T₅ F₅ N₅ B₅ X₅ P₅ D₅⟩
    | exact ⟨_, _, _, _, by assumption, by assumption, by assumption, fun h₅ T₅ F₅ N₅ B₅ X₅ P₅ D₅ => hret _ _ _ _ h₅ (.inr ⟨by assumption, ⟨_, rfl⟩, rfl⟩) T₅ F₅ N₅ B₅ X₅ P₅ D₅⟩

end
end

-- TC
section
theorem start_TC : True := by
  w_top off
  k_with_none
  (k_with "eval Constant str" => refine kstr ?_)
  (k_with "eval Constant int" => refine kint ?_)
  (k_with "eval Constant bytes" => refine kbyt ?_)
  (k_with "binaryOp Add int int" => with_reducible refine kadd ?_)
  (k_with "binaryOp Sub int int" => with_reducible refine ksub ?_)
  (k_with "unaryOp USub int" => with_reducible refine kneg ?_)
  (k_with "storeName" => (k_here; k_dflt (refine kstL (by k_asm) (by k_asm) ?_ (rfl) (rfl); k_whole; intro h9 F9 N9; (try k_sweep))))
  (k_with "newTuple" => (k_here; k_dflt (refine ktuK (by k_asm) (by k_asm) ?_ (by kmk_size)); intro D7 h7 F7 N7 l7; (try k_lt l7); (try k_sweep)))
  (k_with "newList" => (k_here; k_dflt (refine kltK (by k_asm) (by k_asm) ?_ (by size_fits)); intro D7 h7 F7 N7 l7; (try k_lt l7); (try k_sweep)))
  (k_with "steps9" => repeat' (first | (k_unfold; (try dsimp only)) | (k_end; wrow_close) | (walk1 <;> (try dsimp only)) | (dsimp only; walk1) | (leave1; walk_say "STEP leave1"; try dsimp only) | (with_reducible refine popN (by assumption) ?_) | (with_reducible refine popR (by assumption) ?_) | ((refine pop_ (by assumption) ?_); (try dsimp only)) | fail "no step"))
  (k_with "all9" => focus ((repeat (first | exact List.forall_mem_nil _ | with_reducible assumption | (refine List.forall_mem_cons.mpr ⟨by k_ne, ?_⟩))); done))
  (k_with "room9" => first | exact rl1 (by with_reducible assumption) (Nat.le_of_ble_eq_true rfl) | exact rl0 (by with_reducible assumption) (Nat.le_of_ble_eq_true rfl) | exact rl2 (by with_reducible assumption) (Nat.le_of_ble_eq_true rfl) | exact rlz (by assumption))
  (k_with "ne9" => (refine neN ?_; (try dsimp only); first | (refine Nat.ne_of_lt ?_; focus ((repeat (first | with_reducible assumption | exact cj0 (by with_reducible assumption) | exact cj1 (by with_reducible assumption) | exact cj2 (by with_reducible assumption) | exact cj3 (by with_reducible assumption) | exact cj4 (by with_reducible assumption) | exact cj5 (by with_reducible assumption) | exact cj6 (by with_reducible assumption) | exact cj7 (by with_reducible assumption) | exact cj8 (by with_reducible assumption) | exact cj9 (by with_reducible assumption) | exact cj10 (by with_reducible assumption) | exact cj11 (by with_reducible assumption) | exact cj12 (by with_reducible assumption) | exact cj13 (by with_reducible assumption) | exact cj14 (by with_reducible assumption) | exact cj15 (by with_reducible assumption) | (refine lt_tr (by with_reducible assumption) ?_))); done)) | (refine Nat.ne_of_gt ?_; focus ((repeat (first | with_reducible assumption | exact cj0 (by with_reducible assumption) | exact cj1 (by with_reducible assumption) | exact cj2 (by with_reducible assumption) | exact cj3 (by with_reducible assumption) | exact cj4 (by with_reducible assumption) | exact cj5 (by with_reducible assumption) | exact cj6 (by with_reducible assumption) | exact cj7 (by with_reducible assumption) | exact cj8 (by with_reducible assumption) | exact cj9 (by with_reducible assumption) | exact cj10 (by with_reducible assumption) | exact cj11 (by with_reducible assumption) | exact cj12 (by with_reducible assumption) | exact cj13 (by with_reducible assumption) | exact cj14 (by with_reducible assumption) | exact cj15 (by with_reducible assumption) | (refine lt_tr (by with_reducible assumption) ?_))); done))))
  (k_with "mem9" => focus ((repeat (first | with_reducible assumption | exact List.Mem.head _ | refine List.mem_cons_of_mem _ ?_)); done))
  trivial


theorem words_TC_39 : True := by
  (k_with "eval Call" => (((with_reducible show wpAny _ _ (eval (PySem.Expr.Call (PySem.Expr.Name _ _) _ [] _) _) _ _ _); k_dflt (refine Call_ ?_))))
  (k_with "eval Name" => ((k_here; k_dflt (first | (refine ld (by k_asm) (by exact rfl) ?_; k_whole) | (refine name_K (by k_asm) (by k_asm) (by k_asm) (by k_is) ?_; k_whole)))))
  trivial
section
variable {w : World} {news : List (Addr × Obj)} {kv : Value} {u : Bool} {lo hi : Int}
set_option maxHeartbeats 8000000 in
theorem same_c {r : Res} {x y : Value} (h1 : r.Val x) (h2 : r.Val y) : CallsR 1 w 220 [x, y] news (fun v n' => v = .bool true ∧ n' = news) False := by
  w_on
  unfold CallsR
  k_fill
  intro p loose mean mg mb dp un gd cn cs fa ccd cl outer A₀ base h₀ L m hS gS dS tS oS Q E hB hF hX hN hT hk hd hu hret hrais
  cases r
  all_goals (first | obtain ⟨t1, rfl⟩ := h1 | cases h1)
  all_goals (first | obtain ⟨t2, rfl⟩ := h2 | cases h2)
  case int i =>
    refine wpAny_call ?_
    k_dflt (refine' code_def (binds := [(PySem.Str.ofString "one", .int i t1), (PySem.Str.ofString "other", .int i t2)]) ?k1 ?k2 ?k3 ?k4 ?k5 ?kA ?kF ?kK ?k6 ?k7 ?k8 ?k9 ?kB ?_ ?c2 ?c3 ?c4 ?c5; (case kA => exact rfl); (case kF => exact rfl); (case kK => assumption); (case k1 => k_asm); (case k2 => k_asm); (case k3 => k_asm); (case k4 => k_asm); (case k5 => k_asm); (case k6 => k_is); (case k7 => k_is); (case k8 => ktr_room); (case k9 => exact BindsTo.of_eq (by kernel_rfl)); (case c5 => decide); (case kB => exact locs rfl); (case c2 => exact rfl); (case c3 => exact rfl); (case c4 => exact rfl); k_whole; intro g' L' h' FG' F' N' B' X' T'; (try dsimp only [List.reverse_cons, List.reverse_nil, List.nil_append, List.cons_append, List.length_cons, List.length_nil] at F' ⊢); (try k_lift B'); (try k_fold))
    k_steps
    all_goals exact hret _ _ _ _ ⟨congrArg Value.bool (by simp), rfl⟩ (by k_asm) (by k_asm)
  case bool b =>
    refine wpAny_call ?_
    k_dflt (refine' code_def (binds := [(PySem.Str.ofString "one", .bool b), (PySem.Str.ofString "other", .bool b)]) ?k1 ?k2 ?k3 ?k4 ?k5 ?kA ?kF ?kK ?k6 ?k7 ?k8 ?k9 ?kB ?_ ?c2 ?c3 ?c4 ?c5; (case kA => exact rfl); (case kF => exact rfl); (case kK => assumption); (case k1 => k_asm); (case k2 => k_asm); (case k3 => k_asm); (case k4 => k_asm); (case k5 => k_asm); (case k6 => k_is); (case k7 => k_is); (case k8 => ktr_room); (case k9 => exact BindsTo.of_eq (by kernel_rfl)); (case c5 => decide); (case kB => exact locs rfl); (case c2 => exact rfl); (case c3 => exact rfl); (case c4 => exact rfl); k_whole; intro g' L' h' FG' F' N' B' X' T'; (try dsimp only [List.reverse_cons, List.reverse_nil, List.nil_append, List.cons_append, List.length_cons, List.length_nil] at F' ⊢); (try k_lift B'); (try k_fold))
    k_steps
    all_goals exact hret _ _ _ _ ⟨congrArg Value.bool (by simp), rfl⟩ (by k_asm) (by k_asm)
  case fault =>
    refine wpAny_call ?_
    k_dflt (refine' code_def (binds := [(PySem.Str.ofString "one", .str (PySem.Str.ofString "fault") t1), (PySem.Str.ofString "other", .str (PySem.Str.ofString "fault") t2)]) ?k1 ?k2 ?k3 ?k4 ?k5 ?kA ?kF ?kK ?k6 ?k7 ?k8 ?k9 ?kB ?_ ?c2 ?c3 ?c4 ?c5; (case kA => exact rfl); (case kF => exact rfl); (case kK => assumption); (case k1 => k_asm); (case k2 => k_asm); (case k3 => k_asm); (case k4 => k_asm); (case k5 => k_asm); (case k6 => k_is); (case k7 => k_is); (case k8 => ktr_room); (case k9 => exact BindsTo.of_eq (by kernel_rfl)); (case c5 => decide); (case kB => exact locs rfl); (case c2 => exact rfl); (case c3 => exact rfl); (case c4 => exact rfl); k_whole; intro g' L' h' FG' F' N' B' X' T'; (try dsimp only [List.reverse_cons, List.reverse_nil, List.nil_append, List.cons_append, List.length_cons, List.length_nil] at F' ⊢); (try k_lift B'); (try k_fold))
    k_steps
    all_goals exact hret _ _ _ _ ⟨congrArg Value.bool (by simp), rfl⟩ (by k_asm) (by k_asm)

end
end

-- LP
section
theorem start_LP : True := by
  w_top off
  k_with_none
  (k_with "eval Constant str" => refine kstr ?_)
  (k_with "eval Constant int" => refine kint ?_)
  (k_with "eval Constant bytes" => refine kbyt ?_)
  (k_with "binaryOp Add int int" => with_reducible refine kadd ?_)
  (k_with "binaryOp Sub int int" => with_reducible refine ksub ?_)
  (k_with "unaryOp USub int" => with_reducible refine kneg ?_)
  (k_with "storeName" => (k_here; k_dflt (refine kstL (by k_asm) (by k_asm) ?_ (rfl) (rfl); k_whole; intro h9 F9 N9; (try k_sweep))))
  (k_with "newTuple" => (k_here; k_dflt (refine ktuK (by k_asm) (by k_asm) ?_ (by kmk_size)); intro D7 h7 F7 N7 l7; (try k_lt l7); (try k_sweep)))
  (k_with "newList" => (k_here; k_dflt (refine kltK (by k_asm) (by k_asm) ?_ (by size_fits)); intro D7 h7 F7 N7 l7; (try k_lt l7); (try k_sweep)))
  (k_with "steps9" => repeat' (first | (k_unfold; (try dsimp only)) | (k_end; wrow_close) | (walk1 <;> (try dsimp only)) | (dsimp only; walk1) | (leave1; walk_say "STEP leave1"; try dsimp only) | (with_reducible refine popN (by assumption) ?_) | (with_reducible refine popR (by assumption) ?_) | ((refine pop_ (by assumption) ?_); (try dsimp only)) | fail "no step"))
  (k_with "all9" => focus ((repeat (first | exact List.forall_mem_nil _ | with_reducible assumption | (refine List.forall_mem_cons.mpr ⟨by k_ne, ?_⟩))); done))
  (k_with "room9" => first | exact rl1 (by with_reducible assumption) (Nat.le_of_ble_eq_true rfl) | exact rl0 (by with_reducible assumption) (Nat.le_of_ble_eq_true rfl) | exact rl2 (by with_reducible assumption) (Nat.le_of_ble_eq_true rfl) | exact rlz (by assumption))
  (k_with "ne9" => (refine neN ?_; (try dsimp only); first | (refine Nat.ne_of_lt ?_; focus ((repeat (first | with_reducible assumption | exact cj0 (by with_reducible assumption) | exact cj1 (by with_reducible assumption) | exact cj2 (by with_reducible assumption) | exact cj3 (by with_reducible assumption) | exact cj4 (by with_reducible assumption) | exact cj5 (by with_reducible assumption) | exact cj6 (by with_reducible assumption) | exact cj7 (by with_reducible assumption) | exact cj8 (by with_reducible assumption) | exact cj9 (by with_reducible assumption) | exact cj10 (by with_reducible assumption) | exact cj11 (by with_reducible assumption) | exact cj12 (by with_reducible assumption) | exact cj13 (by with_reducible assumption) | exact cj14 (by with_reducible assumption) | exact cj15 (by with_reducible assumption) | (refine lt_tr (by with_reducible assumption) ?_))); done)) | (refine Nat.ne_of_gt ?_; focus ((repeat (first | with_reducible assumption | exact cj0 (by with_reducible assumption) | exact cj1 (by with_reducible assumption) | exact cj2 (by with_reducible assumption) | exact cj3 (by with_reducible assumption) | exact cj4 (by with_reducible assumption) | exact cj5 (by with_reducible assumption) | exact cj6 (by with_reducible assumption) | exact cj7 (by with_reducible assumption) | exact cj8 (by with_reducible assumption) | exact cj9 (by with_reducible assumption) | exact cj10 (by with_reducible assumption) | exact cj11 (by with_reducible assumption) | exact cj12 (by with_reducible assumption) | exact cj13 (by with_reducible assumption) | exact cj14 (by with_reducible assumption) | exact cj15 (by with_reducible assumption) | (refine lt_tr (by with_reducible assumption) ?_))); done))))
  (k_with "mem9" => focus ((repeat (first | with_reducible assumption | exact List.Mem.head _ | refine List.mem_cons_of_mem _ ?_)); done))
  trivial

/-- an iterator over the list l, about to give the item i -/
def ItO (l : Addr) (i : Nat) (o : Obj) : Prop := o.cls = .type "list_iterator" ∧ o.data = .fields #[.ref l, .int i 0]
end

-- LB
section
theorem start_LB : True := by
  w_top off
  k_with_none
  (k_with "eval Constant str" => refine kstr ?_)
  (k_with "eval Constant int" => refine kint ?_)
  (k_with "eval Constant bytes" => refine kbyt ?_)
  (k_with "binaryOp Add int int" => with_reducible refine kadd ?_)
  (k_with "binaryOp Sub int int" => with_reducible refine ksub ?_)
  (k_with "unaryOp USub int" => with_reducible refine kneg ?_)
  (k_with "storeName" => (k_here; k_dflt (refine kstL (by k_asm) (by k_asm) ?_ (rfl) (rfl); k_whole; intro h9 F9 N9; (try k_sweep))))
  (k_with "newTuple" => (k_here; k_dflt (refine ktuK (by k_asm) (by k_asm) ?_ (by kmk_size)); intro D7 h7 F7 N7 l7; (try k_lt l7); (try k_sweep)))
  (k_with "newList" => (k_here; k_dflt (refine kltK (by k_asm) (by k_asm) ?_ (by size_fits)); intro D7 h7 F7 N7 l7; (try k_lt l7); (try k_sweep)))
  (k_with "steps9" => repeat' (first | (k_unfold; (try dsimp only)) | (k_end; wrow_close) | (walk1 <;> (try dsimp only)) | (dsimp only; walk1) | (leave1; walk_say "STEP leave1"; try dsimp only) | (with_reducible refine popN (by assumption) ?_) | (with_reducible refine popR (by assumption) ?_) | ((refine pop_ (by assumption) ?_); (try dsimp only)) | fail "no step"))
  (k_with "all9" => focus ((repeat (first | exact List.forall_mem_nil _ | with_reducible assumption | (refine List.forall_mem_cons.mpr ⟨by k_ne, ?_⟩))); done))
  (k_with "room9" => first | exact rl1 (by with_reducible assumption) (Nat.le_of_ble_eq_true rfl) | exact rl0 (by with_reducible assumption) (Nat.le_of_ble_eq_true rfl) | exact rl2 (by with_reducible assumption) (Nat.le_of_ble_eq_true rfl) | exact rlz (by assumption))
  (k_with "ne9" => (refine neN ?_; (try dsimp only); first | (refine Nat.ne_of_lt ?_; focus ((repeat (first | with_reducible assumption | exact cj0 (by with_reducible assumption) | exact cj1 (by with_reducible assumption) | exact cj2 (by with_reducible assumption) | exact cj3 (by with_reducible assumption) | exact cj4 (by with_reducible assumption) | exact cj5 (by with_reducible assumption) | exact cj6 (by with_reducible assumption) | exact cj7 (by with_reducible assumption) | exact cj8 (by with_reducible assumption) | exact cj9 (by with_reducible assumption) | exact cj10 (by with_reducible assumption) | exact cj11 (by with_reducible assumption) | exact cj12 (by with_reducible assumption) | exact cj13 (by with_reducible assumption) | exact cj14 (by with_reducible assumption) | exact cj15 (by with_reducible assumption) | (refine lt_tr (by with_reducible assumption) ?_))); done)) | (refine Nat.ne_of_gt ?_; focus ((repeat (first | with_reducible assumption | exact cj0 (by with_reducible assumption) | exact cj1 (by with_reducible assumption) | exact cj2 (by with_reducible assumption) | exact cj3 (by with_reducible assumption) | exact cj4 (by with_reducible assumption) | exact cj5 (by with_reducible assumption) | exact cj6 (by with_reducible assumption) | exact cj7 (by with_reducible assumption) | exact cj8 (by with_reducible assumption) | exact cj9 (by with_reducible assumption) | exact cj10 (by with_reducible assumption) | exact cj11 (by with_reducible assumption) | exact cj12 (by with_reducible assumption) | exact cj13 (by with_reducible assumption) | exact cj14 (by with_reducible assumption) | exact cj15 (by with_reducible assumption) | (refine lt_tr (by with_reducible assumption) ?_))); done))))
  (k_with "mem9" => focus ((repeat (first | with_reducible assumption | exact List.Mem.head _ | refine List.mem_cons_of_mem _ ?_)); done))
  trivial

theorem among_snoc {pos : Pos} {a b : Int} {c v : Value} (l : List Value) (h : TriplesOk l) (hv : codeAmong pos (l ++ [rawInt a, rawInt b, c]) = some v) : codeAmong pos l = some v ∨ v = c := by
  induction l using TriplesOk.induct with
  | case1 =>
    refine .inr ?_
    simp only [List.nil_append, rawInt, codeAmong] at hv
    split at hv
    · exact (Option.some.inj hv).symm
    · cases hv
  | case2 i t j u x rest ih =>
    simp only [List.cons_append, codeAmong] at hv ⊢
    split
    · rename_i q; rw [if_pos q] at hv; exact .inl hv
    · rename_i q; rw [if_neg q] at hv; exact ih h hv
  | case3 l h1 h2 =>
    exfalso
    unfold TriplesOk at h
    split at h
    · exact h1 rfl
    · exact h2 _ _ _ _ _ _ rfl
    · exact h

/-- a table of codes, P, whose codes lie in the list -/
structure TabInv (qual : PySem.Str) (P : Addr) (ps : Array Value) (codes : List (Addr × Obj)) : Prop where
  ok : TriplesOk ps.toList
  off : ∀ q ∈ codes, q.1 ≠ P
  code : ∀ pos v, codeAmong pos ps.toList = some v → ∃ c oc vs t, v = .ref c ∧ (c, oc) ∈ codes ∧ oc.data = .fields vs ∧ vs[1]? = some (.str qual t)
theorem TabInv.nil {qual : PySem.Str} {P : Addr} : TabInv qual P #[] [] := ⟨trivial, (fun _ h => by cases h), (fun _ _ h => by cases h)⟩

inductive LedF (P : Addr) (ps : Array Value) (codes rest : List (Addr × Obj)) : List (Addr × Obj) → (Array Value → List (Addr × Obj) → List (Addr × Obj)) → Prop
  | head : LedF P ps codes rest ((P, tabObj ps) :: (codes ++ rest)) (fun ps' cs' => (P, tabObj ps') :: (cs' ++ rest))
  | tail {p l g} : p.1 ≠ P → LedF P ps codes rest l g → LedF P ps codes rest (p :: l) (fun ps' cs' => p :: g ps' cs')
theorem LedF.mem {P : Addr} {ps : Array Value} {codes rest : List (Addr × Obj)} : ∀ {l : List (Addr × Obj)} {g : Array Value → List (Addr × Obj) → List (Addr × Obj)}, LedF P ps codes rest l g →
    (P, tabObj ps) ∈ l ∧ (∀ q ∈ codes, q ∈ l) ∧ (∀ ps' cs', ∀ q ∈ g ps' cs', (q ∈ l ∧ (q.1 ≠ P ∨ q ∈ rest)) ∨ q = (P, tabObj ps') ∨ q ∈ cs') ∧ (∀ ps' cs', (P, tabObj ps') ∈ g ps' cs' ∧ ∀ q ∈ cs', q ∈ g ps' cs')
  | _, _, .head => ⟨.head _, fun q hq => .tail _ (List.mem_append_left _ hq), fun ps' cs' q hq => by
      rcases List.mem_cons.mp hq with rfl | hq
      · exact .inr (.inl rfl)
      · rcases List.mem_append.mp hq with hq | hq
        · exact .inr (.inr hq)
        · exact .inl ⟨.tail _ (List.mem_append_right _ hq), .inr hq⟩, fun ps' cs' => ⟨.head _, fun q hq => .tail _ (List.mem_append_left _ hq)⟩⟩
  | _, _, .tail h t => ⟨.tail _ t.mem.1, fun q hq => .tail _ (t.mem.2.1 q hq), fun ps' cs' q hq => by
      rcases List.mem_cons.mp hq with rfl | hq
      · exact .inl ⟨.head _, .inl h⟩
      · rcases t.mem.2.2.1 ps' cs' q hq with ⟨a, b⟩ | a
        · exact .inl ⟨.tail _ a, b⟩
        · exact .inr a, fun ps' cs' => ⟨.tail _ (t.mem.2.2.2 ps' cs').1, fun q hq => .tail _ ((t.mem.2.2.2 ps' cs').2 q hq)⟩⟩

section
variable {M : Model} {A : Around} {E : Value → Shared → Prop} {s : Shared} {h₀ : Heap} {L a c P : Addr} {m mg mb : PySem.Str → Option Value} {cn : PySem.Str} {cs : Scope} {ccd : Value} {cl : List (PySem.Str × Addr)} {news : List (Addr × Obj)}
  {p : Program} {loose : List PySem.Str} {mean : ExcName → Option Value} {name qual : PySem.Str} {params : Arguments} {body : PySem.Expr} {scope : Scope} {ps : Array Value} {pos : Pos} {firstLine : Nat} {clos : List (PySem.Str × Addr)}
  {codes rest : List (Addr × Obj)} {g : Array Value → List (Addr × Obj) → List (Addr × Obj)}

theorem lam_any {Q : Value → Shared → Prop} (F : Fr h₀ L s.heap m) (N : News h₀ L s.heap news) (T : Top p loose mean mg mb h₀) (C : CodeHd h₀ c P) (hcd : ccd = .ref c) (G : LedF P ps codes rest news g) (I : TabInv qual P ps codes) (hrest : ∀ q ∈ rest, q.1 ≠ P)
    (hcl : closureFor scope (envX cn cs L a ccd cl) = pure clos)
    (h : ∀ f c' oc vs t ctv ps' codes' h' tk, Fr h₀ L h' m → News h₀ L h' ((f, kla_obj name qual params body scope clos ((mg "__name__").getD .none) c' ctv) :: g ps' codes') → TabInv qual P ps' codes' →
      (c', oc) ∈ codes' → oc.data = .fields vs → vs[1]? = some (.str qual t) → (∀ q ∈ codes', q ∈ codes ∨ ∀ q' ∈ news, q'.1 < q.1) → (∀ q ∈ g ps' codes', q.1 < f) → Q (.ref f) { s with heap := h', toks := tk }) :
    wpAny M A (makeFunction name qual params (.expr body) scope (envX cn cs L a ccd cl) [] [] [] pos firstLine) Q E s := by
  obtain ⟨m1, m2, m3, m4⟩ := G.mem
  have hn : ∀ q ∈ codes, q ∈ news := m2
  have nn : ∀ q ∈ news, q.1 = P → q = (P, tabObj ps) := fun q hq e => by
    have a1 := (N q hq).1
    have a2 := (N _ m1).1
    rw [e] at a1
    have := a1.symm.trans a2
    exact Prod.ext e (Option.some.inj this)
  cases hc : codeAmong pos ps.toList with
  | some v =>
    obtain ⟨c', oc, vs, t, rfl, hm, hd, hv⟩ := I.code _ _ hc
    refine kla_hit F N T C hcd m1 I.ok hc hcl fun f ctv h' tk F' N' hlt => ?_
    have gm : ∀ q ∈ g ps codes, q ∈ news := fun q hq => by
      rcases m3 ps codes q hq with ⟨z, _⟩ | z | z
      · exact z
      · rw [z]; exact m1
      · exact m2 q z
    refine h f c' oc vs t ctv ps codes h' tk F' (fun q hq => ?_) I hm hd hv (fun q hq => .inl hq) fun q hq => hlt q (gm q hq)
    rcases List.mem_cons.mp hq with rfl | hq
    · exact N' _ (.head _)
    · exact N' _ (.tail _ (gm q hq))
  | none =>
    -- the ledger without doubles of the table
    let l2 : List (Addr × Obj) := (P, tabObj ps) :: news.filter (fun q => q.1 != P)
    have N2 : News h₀ L s.heap l2 := fun q hq => by
      rcases List.mem_cons.mp hq with rfl | hq
      · exact N _ m1
      · exact N q (List.mem_filter.mp hq).1
    have U : UpdF P (tabObj ps) l2 (fun o' => (P, o') :: news.filter (fun q => q.1 != P)) := .head fun q hq => by simpa using (List.mem_filter.mp hq).2
    have in2 : ∀ q ∈ news, q ∈ l2 := fun q hq => by
      by_cases e : q.1 = P
      · rw [nn q hq e]; exact .head _
      · exact .tail _ (List.mem_filter.mpr ⟨hq, by simpa using e⟩)
    refine kla_nest F N2 T C hcd U I.ok hc hcl fun f c' oc vs t ctv h' tk F' N' hd hv hlt hlt2 => ?_
    have big : ∀ q ∈ news, q.1 < c' := fun q hq => hlt q (in2 q hq)
    have hcP : c' ≠ P := fun z => Nat.lt_irrefl _ (z ▸ big _ m1)
    refine h f c' oc vs t ctv (ps ++ #[rawInt pos.line, rawInt pos.col, .ref c']) ((c', oc) :: codes) h' tk F' (fun q hq => ?_) ⟨?_, ?_, ?_⟩ (.head _) hd hv (fun q hq => ?_) (fun q hq => ?_)
    · rcases List.mem_cons.mp hq with rfl | hq
      · exact N' _ (.head _)
      · rcases m3 _ _ q hq with ⟨z, y⟩ | z | z
        · have hne : q.1 ≠ P := y.elim id (hrest q)
          exact N' _ (.tail _ (.tail _ (.tail _ (List.mem_filter.mpr ⟨z, by simpa using hne⟩))))
        · rw [z]; exact N' _ (.tail _ (.tail _ (.head _)))
        · rcases List.mem_cons.mp z with rfl | z
          · exact N' _ (.tail _ (.head _))
          · exact N' _ (.tail _ (.tail _ (.tail _ (List.mem_filter.mpr ⟨m2 q z, by simpa using I.off q z⟩))))
    · rw [Array.toList_append]; exact TriplesOk_snoc _ _ _ _ I.ok
    · intro q hq
      rcases List.mem_cons.mp hq with rfl | hq
      · exact hcP
      · exact I.off q hq
    · intro pos' v hv'
      rw [Array.toList_append] at hv'
      rcases among_snoc _ I.ok hv' with z | rfl
      · obtain ⟨c1, oc1, vs1, t1, e1, e2, e3, e4⟩ := I.code _ _ z
        exact ⟨c1, oc1, vs1, t1, e1, .tail _ e2, e3, e4⟩
      · exact ⟨c', oc, vs, t, rfl, .head _, hd, hv⟩
    · rcases List.mem_cons.mp hq with rfl | hq
      · exact .inr big
      · exact .inl hq
    · rcases m3 _ _ q hq with ⟨z, _⟩ | z | z
      · exact Nat.lt_trans (big q z) hlt2
      · rw [z]; exact Nat.lt_trans (big (P, tabObj ps) m1) hlt2
      · rcases List.mem_cons.mp z with rfl | z
        · exact hlt2
        · exact Nat.lt_trans (big q (m2 q z)) hlt2
end
end

-- RP
section
theorem start_RP : True := by
  w_top off
  k_with_none
  (k_with "eval Constant str" => refine kstr ?_)
  (k_with "eval Constant int" => refine kint ?_)
  (k_with "eval Constant bytes" => refine kbyt ?_)
  (k_with "binaryOp Add int int" => with_reducible refine kadd ?_)
  (k_with "binaryOp Sub int int" => with_reducible refine ksub ?_)
  (k_with "unaryOp USub int" => with_reducible refine kneg ?_)
  (k_with "storeName" => (k_here; k_dflt (refine kstL (by k_asm) (by k_asm) ?_ (rfl) (rfl); k_whole; intro h9 F9 N9; (try k_sweep))))
  (k_with "newTuple" => (k_here; k_dflt (refine ktuK (by k_asm) (by k_asm) ?_ (by kmk_size)); intro D7 h7 F7 N7 l7; (try k_lt l7); (try k_sweep)))
  (k_with "newList" => (k_here; k_dflt (refine kltK (by k_asm) (by k_asm) ?_ (by size_fits)); intro D7 h7 F7 N7 l7; (try k_lt l7); (try k_sweep)))
  (k_with "steps9" => repeat' (first | (k_unfold; (try dsimp only)) | (k_end; wrow_close) | (walk1 <;> (try dsimp only)) | (dsimp only; walk1) | (leave1; walk_say "STEP leave1"; try dsimp only) | (with_reducible refine popN (by assumption) ?_) | (with_reducible refine popR (by assumption) ?_) | ((refine pop_ (by assumption) ?_); (try dsimp only)) | fail "no step"))
  (k_with "all9" => focus ((repeat (first | exact List.forall_mem_nil _ | with_reducible assumption | (refine List.forall_mem_cons.mpr ⟨by k_ne, ?_⟩))); done))
  (k_with "room9" => first | exact rl1 (by with_reducible assumption) (Nat.le_of_ble_eq_true rfl) | exact rl0 (by with_reducible assumption) (Nat.le_of_ble_eq_true rfl) | exact rl2 (by with_reducible assumption) (Nat.le_of_ble_eq_true rfl) | exact rlz (by assumption))
  (k_with "ne9" => (refine neN ?_; (try dsimp only); first | (refine Nat.ne_of_lt ?_; focus ((repeat (first | with_reducible assumption | exact cj0 (by with_reducible assumption) | exact cj1 (by with_reducible assumption) | exact cj2 (by with_reducible assumption) | exact cj3 (by with_reducible assumption) | exact cj4 (by with_reducible assumption) | exact cj5 (by with_reducible assumption) | exact cj6 (by with_reducible assumption) | exact cj7 (by with_reducible assumption) | exact cj8 (by with_reducible assumption) | exact cj9 (by with_reducible assumption) | exact cj10 (by with_reducible assumption) | exact cj11 (by with_reducible assumption) | exact cj12 (by with_reducible assumption) | exact cj13 (by with_reducible assumption) | exact cj14 (by with_reducible assumption) | exact cj15 (by with_reducible assumption) | (refine lt_tr (by with_reducible assumption) ?_))); done)) | (refine Nat.ne_of_gt ?_; focus ((repeat (first | with_reducible assumption | exact cj0 (by with_reducible assumption) | exact cj1 (by with_reducible assumption) | exact cj2 (by with_reducible assumption) | exact cj3 (by with_reducible assumption) | exact cj4 (by with_reducible assumption) | exact cj5 (by with_reducible assumption) | exact cj6 (by with_reducible assumption) | exact cj7 (by with_reducible assumption) | exact cj8 (by with_reducible assumption) | exact cj9 (by with_reducible assumption) | exact cj10 (by with_reducible assumption) | exact cj11 (by with_reducible assumption) | exact cj12 (by with_reducible assumption) | exact cj13 (by with_reducible assumption) | exact cj14 (by with_reducible assumption) | exact cj15 (by with_reducible assumption) | (refine lt_tr (by with_reducible assumption) ?_))); done))))
  (k_with "mem9" => focus ((repeat (first | with_reducible assumption | exact List.Mem.head _ | refine List.mem_cons_of_mem _ ?_)); done))
  trivial


theorem words_RP_40 : True := by
  (k_with "eval Call" => (((with_reducible show wpAny _ _ (eval (PySem.Expr.Call (PySem.Expr.Name _ _) _ [] _) _) _ _ _); k_dflt (refine Call_ ?_))))
  (k_with "eval Name" => ((k_here; k_dflt (first | (refine ld (by k_asm) (by exact rfl) ?_; k_whole) | (refine name_K (by k_asm) (by k_asm) (by k_asm) (by k_is) ?_; k_whole)))))
  trivial
abbrev tupO (xs : Array Value) : Obj := { cls := .type "tuple", data := .seq xs }
theorem isTuple_of {h₀ h : Heap} {L l : Addr} {news : List (Addr × Obj)} {xs : Array Value} (N : News h₀ L h news) (hl : (l, tupO xs) ∈ news) : h.IsTuple l xs := ⟨_, (N _ hl).1, rfl, 0, rfl⟩
section
variable {prog : Program} {w : World} {A : Around} {E : Value → Shared → Prop} {s : Shared} {h₀ : Heap} {L l b r : Addr} {news : List (Addr × Obj)} {Q : Value → Shared → Prop} {x y x2 y2 : PySem.Str} {t u t2 u2 : Tok}
theorem teq11 {r : Bool} (N : News h₀ L s.heap news) (hl : (l, tupO #[.str x t]) ∈ news) (hb : (b, tupO #[.str y u]) ∈ news) (hu : A.units < cLine) (hr : (x == y) = r) (h : Q (.bool r) s) : wpAny (model prog w) A (compareOp .Eq (.ref l) (.ref b)) Q E s := by
  refine SeqAt.eq_tupleAt (e := fun _ => x == y) (isTuple_of N hl) (isTuple_of N hb) hu (fun j h1 h2 => ?_) (by simpa [hr] using h)
  have : j = 0 := by simp at h1; omega
  subst this
  exact .str_str _ _ _ _
theorem teq12 {v : Value} (N : News h₀ L s.heap news) (hl : (l, tupO #[.str x t]) ∈ news) (hb : (b, tupO #[.str y u, v]) ∈ news) (hu : A.units < cLine) (h : Q (.bool false) s) : wpAny (model prog w) A (compareOp .Eq (.ref l) (.ref b)) Q E s := by
  refine SeqAt.eq_tupleAt (e := fun _ => x == y) (isTuple_of N hl) (isTuple_of N hb) hu (fun j h1 h2 => ?_) (by simpa using h)
  have : j = 0 := by simp at h1; omega
  subst this
  exact .str_str _ _ _ _
theorem teq21 {v : Value} (N : News h₀ L s.heap news) (hl : (l, tupO #[.str x t, v]) ∈ news) (hb : (b, tupO #[.str y u]) ∈ news) (hu : A.units < cLine) (h : Q (.bool false) s) : wpAny (model prog w) A (compareOp .Eq (.ref l) (.ref b)) Q E s := by
  refine SeqAt.eq_tupleAt (e := fun _ => x == y) (isTuple_of N hl) (isTuple_of N hb) hu (fun j h1 h2 => ?_) (by simpa using h)
  have : j = 0 := by simp at h2; omega
  subst this
  exact .str_str _ _ _ _
theorem teq22 {r : Bool} (N : News h₀ L s.heap news) (hl : (l, tupO #[.str x t, .str x2 t2]) ∈ news) (hb : (b, tupO #[.str y u, .str y2 u2]) ∈ news) (hu : A.units < cLine) (hr : ((x == y) && (x2 == y2)) = r) (h : Q (.bool r) s) : wpAny (model prog w) A (compareOp .Eq (.ref l) (.ref b)) Q E s := by
  refine SeqAt.eq_tupleAt (e := fun j => if j = 0 then x == y else x2 == y2) (isTuple_of N hl) (isTuple_of N hb) hu (fun j h1 h2 => ?_) (by simpa [hr, List.range_succ] using h)
  have : j = 0 ∨ j = 1 := by simp at h1; omega
  rcases this with rfl | rfl <;> exact .str_str _ _ _ _
theorem teq2r {xs : Array Value} (N : News h₀ L s.heap news) (hl : (l, tupO #[.str x t, .ref r]) ∈ news) (hx : (r, tupO xs) ∈ news) (hb : (b, tupO #[.str y u, .str y2 u2]) ∈ news) (hu : A.in1.units < cLine) (hu' : A.units < cLine) (h : Q (.bool false) s) : wpAny (model prog w) A (compareOp .Eq (.ref l) (.ref b)) Q E s := by
  refine SeqAt.eq_tupleAt (e := fun j => if j = 0 then x == y else false) (isTuple_of N hl) (isTuple_of N hb) hu' (fun j h1 h2 => ?_) (by simpa [List.range_succ] using h)
  have : j = 0 ∨ j = 1 := by simp at h1; omega
  rcases this with rfl | rfl
  · exact .str_str _ _ _ _
  · exact .tuple_str _ _ (isTuple_of N hx) hu
end
/-- what a type takes of a constant -/
inductive TypeRow : Value → Array Value → Bool → Prop
  | tb1  (t2 : Tok) : TypeRow (.bool true) (#[.str (PySem.Str.ofString "bool") t2]) true
  | tb2  (t2 t3 : Tok) : TypeRow (.bool true) (#[.str (PySem.Str.ofString "untyped") t2, .str (PySem.Str.ofString "bool") t3]) true
  | ts1  (t2 : Tok) : TypeRow (.bool true) (#[.str (PySem.Str.ofString "string") t2]) false
  | ts2  (t2 t3 : Tok) : TypeRow (.bool true) (#[.str (PySem.Str.ofString "untyped") t2, .str (PySem.Str.ofString "string") t3]) false
  | ti8  (t2 t3 : Tok) : TypeRow (.bool true) (#[.str (PySem.Str.ofString "int") t2, .str (PySem.Str.ofString "int8") t3]) false
  | ib1 (t1 : Tok) (t2 : Tok) : TypeRow (.int 7 t1) (#[.str (PySem.Str.ofString "bool") t2]) false
  | ib2 (t1 : Tok) (t2 t3 : Tok) : TypeRow (.int 7 t1) (#[.str (PySem.Str.ofString "untyped") t2, .str (PySem.Str.ofString "bool") t3]) false
  | is1 (t1 : Tok) (t2 : Tok) : TypeRow (.int 7 t1) (#[.str (PySem.Str.ofString "string") t2]) false
  | is2 (t1 : Tok) (t2 t3 : Tok) : TypeRow (.int 7 t1) (#[.str (PySem.Str.ofString "untyped") t2, .str (PySem.Str.ofString "string") t3]) false
  | ii8 (t1 : Tok) (t2 t3 : Tok) : TypeRow (.int 7 t1) (#[.str (PySem.Str.ofString "int") t2, .str (PySem.Str.ofString "int8") t3]) true
  | bb1 (t1 : Tok) (t2 : Tok) : TypeRow (.bytes #[120] t1) (#[.str (PySem.Str.ofString "bool") t2]) false
  | bb2 (t1 : Tok) (t2 t3 : Tok) : TypeRow (.bytes #[120] t1) (#[.str (PySem.Str.ofString "untyped") t2, .str (PySem.Str.ofString "bool") t3]) false
  | bs1 (t1 : Tok) (t2 : Tok) : TypeRow (.bytes #[120] t1) (#[.str (PySem.Str.ofString "string") t2]) true
  | bs2 (t1 : Tok) (t2 t3 : Tok) : TypeRow (.bytes #[120] t1) (#[.str (PySem.Str.ofString "untyped") t2, .str (PySem.Str.ofString "string") t3]) true
  | bi8 (t1 : Tok) (t2 t3 : Tok) : TypeRow (.bytes #[120] t1) (#[.str (PySem.Str.ofString "int") t2, .str (PySem.Str.ofString "int8") t3]) false
theorem teq_int {y : PySem.Str} {x2 y2 : PySem.Str} (h : (PySem.Str.ofString "int" == y) = false := by decide +kernel) : ((PySem.Str.ofString "int" == y) && (x2 == y2)) = false := by rw [h]; rfl
section
variable {w : World} {news : List (Addr × Obj)} {kv : Value} {u : Bool} {lo hi : Int}
theorem words_RP_41 : True := by
  (k_with "compareOp Eq ref ref" => ((k_here; k_dflt (first | (refine teq11 (by k_asm) (by k_mem) (by k_mem) (by ktr_units) (by first | exact (by decide +kernel : _ = false) | exact (by decide +kernel : _ = true)) ?_; k_whole) | (refine teq22 (by k_asm) (by k_mem) (by k_mem) (by ktr_units) (by first | exact (by decide +kernel : _ = false) | exact (by decide +kernel : _ = true) | exact teq_int) ?_; k_whole) | (refine teq2r (by k_asm) (by k_mem) (by k_mem) (by k_mem) (by ktr_units) (by ktr_units) ?_; k_whole) | (refine teq12 (by k_asm) (by k_mem) (by k_mem) (by ktr_units) ?_; k_whole) | (refine teq21 (by k_asm) (by k_mem) (by k_mem) (by ktr_units) ?_; k_whole)))))
  (k_with "call ref" => (k_here; (with_reducible show wpAny _ _ (call (Value.ref 70) _) _ _ _); k_dflt (refine callsR_v (by k_asm) (by k_asm) (by k_asm) (by k_asm) (by k_asm) ?_; refine RestR.eqF _ _ _ (is_in_range_c (by first | assumption | exact KN.none | exact .some (by assumption) | exact .some (.int8 _))) (by first | exact rfl | assumption) (by ktr_room) (by ktr_units) ?_; k_whole); intro h9 tk9 F9 N9; (try dsimp only); (try k_fold)))
  trivial
set_option maxHeartbeats 8000000 in
theorem repr_int_c {n : Int} {t t2 : Tok} {l : Addr} {x : PySem.Str} {tk : Tok} (hkv : KV (.str x tk) u lo hi) (hl : (l, tupO #[.str (PySem.Str.ofString "int") t2, .str x tk]) ∈ news) : CallsR 4 w 84 [.int n t, .ref l] news (fun v n' => v = .bool (decide (lo ≤ n ∧ n ≤ hi)) ∧ n' = news) False := by
  w_on
  unfold CallsR
  k_fill
  intro p loose mean mg mb dp un gd cn cs fa ccd cl outer A₀ base h₀ L m hS gS dS tS oS Q E hB hF hX hN hT hk hd hu hret hrais
  refine wpAny_call ?_
  k_dflt (refine' code_def (binds := [(PySem.Str.ofString "value", .int n t), (PySem.Str.ofString "told", .ref l)]) ?k1 ?k2 ?k3 ?k4 ?k5 ?kA ?kF ?kK ?k6 ?k7 ?k8 ?k9 ?kB ?_ ?c2 ?c3 ?c4 ?c5; (case kA => exact rfl); (case kF => exact rfl); (case kK => assumption); (case k1 => k_asm); (case k2 => k_asm); (case k3 => k_asm); (case k4 => k_asm); (case k5 => k_asm); (case k6 => k_is); (case k7 => k_is); (case k8 => ktr_room); (case k9 => exact BindsTo.of_eq (by kernel_rfl)); (case c5 => decide); (case kB => exact locs rfl); (case c2 => exact rfl); (case c3 => exact rfl); (case c4 => exact rfl); k_whole; intro g' L' h' FG' F' N' B' X' T'; (try dsimp only [List.reverse_cons, List.reverse_nil, List.nil_append, List.cons_append, List.length_cons, List.length_nil] at F' ⊢); (try k_lift B'); (try k_fold))
  k_steps
  all_goals first
    | exact hret _ _ _ _ ⟨rfl, rfl⟩ (by k_asm) (by first | k_asm | exact news_tl (by k_asm) | exact news_tl (news_tl (by k_asm)) | exact news_tl (news_tl (news_tl (by k_asm))))
    | trace_state

set_option maxHeartbeats 8000000 in
theorem repr_rune_c {n : Int} {t t2 t3 : Tok} {l : Addr} (hl : (l, tupO #[.str (PySem.Str.ofString "untyped") t2, .str (PySem.Str.ofString "rune") t3]) ∈ news) : CallsR 4 w 84 [.int n t, .ref l] news (fun v n' => v = .bool (decide ((1 - 2 ^ 512 : Int) ≤ n ∧ n ≤ (2 ^ 512 - 1 : Int))) ∧ n' = news) False := by
  w_on
  unfold CallsR
  k_fill
  intro p loose mean mg mb dp un gd cn cs fa ccd cl outer A₀ base h₀ L m hS gS dS tS oS Q E hB hF hX hN hT hk hd hu hret hrais
  refine wpAny_call ?_
  k_dflt (refine' code_def (binds := [(PySem.Str.ofString "value", .int n t), (PySem.Str.ofString "told", .ref l)]) ?k1 ?k2 ?k3 ?k4 ?k5 ?kA ?kF ?kK ?k6 ?k7 ?k8 ?k9 ?kB ?_ ?c2 ?c3 ?c4 ?c5; (case kA => exact rfl); (case kF => exact rfl); (case kK => assumption); (case k1 => k_asm); (case k2 => k_asm); (case k3 => k_asm); (case k4 => k_asm); (case k5 => k_asm); (case k6 => k_is); (case k7 => k_is); (case k8 => ktr_room); (case k9 => exact BindsTo.of_eq (by kernel_rfl)); (case c5 => decide); (case kB => exact locs rfl); (case c2 => exact rfl); (case c3 => exact rfl); (case c4 => exact rfl); k_whole; intro g' L' h' FG' F' N' B' X' T'; (try dsimp only [List.reverse_cons, List.reverse_nil, List.nil_append, List.cons_append, List.length_cons, List.length_nil] at F' ⊢); (try k_lift B'); (try k_fold))
  k_steps
  all_goals first
    | exact hret _ _ _ _ ⟨rfl, rfl⟩ (by k_asm) (by first | k_asm | exact news_tl (by k_asm) | exact news_tl (news_tl (by k_asm)) | exact news_tl (news_tl (news_tl (by k_asm))))
    | trace_state

set_option maxHeartbeats 8000000 in
theorem repr_row_c {x : Value} {xs : Array Value} {r : Bool} {l : Addr} (hr : TypeRow x xs r) (hl : (l, tupO xs) ∈ news) : CallsR 4 w 84 [x, .ref l] news (fun v n' => v = .bool r ∧ n' = news) False := by
  w_on
  unfold CallsR
  k_fill
  intro p loose mean mg mb dp un gd cn cs fa ccd cl outer A₀ base h₀ L m hS gS dS tS oS Q E hB hF hX hN hT hk hd hu hret hrais
  cases hr
  case tb1  t2   =>
    refine wpAny_call ?_
    k_dflt (refine' code_def (binds := [(PySem.Str.ofString "value", .bool true), (PySem.Str.ofString "told", .ref l)]) ?k1 ?k2 ?k3 ?k4 ?k5 ?kA ?kF ?kK ?k6 ?k7 ?k8 ?k9 ?kB ?_ ?c2 ?c3 ?c4 ?c5; (case kA => exact rfl); (case kF => exact rfl); (case kK => assumption); (case k1 => k_asm); (case k2 => k_asm); (case k3 => k_asm); (case k4 => k_asm); (case k5 => k_asm); (case k6 => k_is); (case k7 => k_is); (case k8 => ktr_room); (case k9 => exact BindsTo.of_eq (by kernel_rfl)); (case c5 => decide); (case kB => exact locs rfl); (case c2 => exact rfl); (case c3 => exact rfl); (case c4 => exact rfl); k_whole; intro g' L' h' FG' F' N' B' X' T'; (try dsimp only [List.reverse_cons, List.reverse_nil, List.nil_append, List.cons_append, List.length_cons, List.length_nil] at F' ⊢); (try k_lift B'); (try k_fold))
    k_steps
    all_goals first
      | exact hret _ _ _ _ ⟨rfl, rfl⟩ (by k_asm) (by first | k_asm | exact news_tl (by k_asm) | exact news_tl (news_tl (by k_asm)) | exact news_tl (news_tl (news_tl (by k_asm))))
      | trace_state
  case tb2  t2 t3   =>
    refine wpAny_call ?_
    k_dflt (refine' code_def (binds := [(PySem.Str.ofString "value", .bool true), (PySem.Str.ofString "told", .ref l)]) ?k1 ?k2 ?k3 ?k4 ?k5 ?kA ?kF ?kK ?k6 ?k7 ?k8 ?k9 ?kB ?_ ?c2 ?c3 ?c4 ?c5; (case kA => exact rfl); (case kF => exact rfl); (case kK => assumption); (case k1 => k_asm); (case k2 => k_asm); (case k3 => k_asm); (case k4 => k_asm); (case k5 => k_asm); (case k6 => k_is); (case k7 => k_is); (case k8 => ktr_room); (case k9 => exact BindsTo.of_eq (by kernel_rfl)); (case c5 => decide); (case kB => exact locs rfl); (case c2 => exact rfl); (case c3 => exact rfl); (case c4 => exact rfl); k_whole; intro g' L' h' FG' F' N' B' X' T'; (try dsimp only [List.reverse_cons, List.reverse_nil, List.nil_append, List.cons_append, List.length_cons, List.length_nil] at F' ⊢); (try k_lift B'); (try k_fold))
    k_steps
    all_goals first
      | exact hret _ _ _ _ ⟨rfl, rfl⟩ (by k_asm) (by first | k_asm | exact news_tl (by k_asm) | exact news_tl (news_tl (by k_asm)) | exact news_tl (news_tl (news_tl (by k_asm))))
      | trace_state
  case ts1  t2   =>
    refine wpAny_call ?_
    k_dflt (refine' code_def (binds := [(PySem.Str.ofString "value", .bool true), (PySem.Str.ofString "told", .ref l)]) ?k1 ?k2 ?k3 ?k4 ?k5 ?kA ?kF ?kK ?k6 ?k7 ?k8 ?k9 ?kB ?_ ?c2 ?c3 ?c4 ?c5; (case kA => exact rfl); (case kF => exact rfl); (case kK => assumption); (case k1 => k_asm); (case k2 => k_asm); (case k3 => k_asm); (case k4 => k_asm); (case k5 => k_asm); (case k6 => k_is); (case k7 => k_is); (case k8 => ktr_room); (case k9 => exact BindsTo.of_eq (by kernel_rfl)); (case c5 => decide); (case kB => exact locs rfl); (case c2 => exact rfl); (case c3 => exact rfl); (case c4 => exact rfl); k_whole; intro g' L' h' FG' F' N' B' X' T'; (try dsimp only [List.reverse_cons, List.reverse_nil, List.nil_append, List.cons_append, List.length_cons, List.length_nil] at F' ⊢); (try k_lift B'); (try k_fold))
    k_steps
    all_goals first
      | exact hret _ _ _ _ ⟨rfl, rfl⟩ (by k_asm) (by first | k_asm | exact news_tl (by k_asm) | exact news_tl (news_tl (by k_asm)) | exact news_tl (news_tl (news_tl (by k_asm))))
      | trace_state
  case ts2  t2 t3   =>
    refine wpAny_call ?_
    k_dflt (refine' code_def (binds := [(PySem.Str.ofString "value", .bool true), (PySem.Str.ofString "told", .ref l)]) ?k1 ?k2 ?k3 ?k4 ?k5 ?kA ?kF ?kK ?k6 ?k7 ?k8 ?k9 ?kB ?_ ?c2 ?c3 ?c4 ?c5; (case kA => exact rfl); (case kF => exact rfl); (case kK => assumption); (case k1 => k_asm); (case k2 => k_asm); (case k3 => k_asm); (case k4 => k_asm); (case k5 => k_asm); (case k6 => k_is); (case k7 => k_is); (case k8 => ktr_room); (case k9 => exact BindsTo.of_eq (by kernel_rfl)); (case c5 => decide); (case kB => exact locs rfl); (case c2 => exact rfl); (case c3 => exact rfl); (case c4 => exact rfl); k_whole; intro g' L' h' FG' F' N' B' X' T'; (try dsimp only [List.reverse_cons, List.reverse_nil, List.nil_append, List.cons_append, List.length_cons, List.length_nil] at F' ⊢); (try k_lift B'); (try k_fold))
    k_steps
    all_goals first
      | exact hret _ _ _ _ ⟨rfl, rfl⟩ (by k_asm) (by first | k_asm | exact news_tl (by k_asm) | exact news_tl (news_tl (by k_asm)) | exact news_tl (news_tl (news_tl (by k_asm))))
      | trace_state
  case ti8  t2 t3   =>
    refine wpAny_call ?_
    k_dflt (refine' code_def (binds := [(PySem.Str.ofString "value", .bool true), (PySem.Str.ofString "told", .ref l)]) ?k1 ?k2 ?k3 ?k4 ?k5 ?kA ?kF ?kK ?k6 ?k7 ?k8 ?k9 ?kB ?_ ?c2 ?c3 ?c4 ?c5; (case kA => exact rfl); (case kF => exact rfl); (case kK => assumption); (case k1 => k_asm); (case k2 => k_asm); (case k3 => k_asm); (case k4 => k_asm); (case k5 => k_asm); (case k6 => k_is); (case k7 => k_is); (case k8 => ktr_room); (case k9 => exact BindsTo.of_eq (by kernel_rfl)); (case c5 => decide); (case kB => exact locs rfl); (case c2 => exact rfl); (case c3 => exact rfl); (case c4 => exact rfl); k_whole; intro g' L' h' FG' F' N' B' X' T'; (try dsimp only [List.reverse_cons, List.reverse_nil, List.nil_append, List.cons_append, List.length_cons, List.length_nil] at F' ⊢); (try k_lift B'); (try k_fold))
    k_steps
    all_goals first
      | exact hret _ _ _ _ ⟨rfl, rfl⟩ (by k_asm) (by first | k_asm | exact news_tl (by k_asm) | exact news_tl (news_tl (by k_asm)) | exact news_tl (news_tl (news_tl (by k_asm))))
      | trace_state
  case ib1 t1   t2   =>
    refine wpAny_call ?_
    k_dflt (refine' code_def (binds := [(PySem.Str.ofString "value", .int 7 t1), (PySem.Str.ofString "told", .ref l)]) ?k1 ?k2 ?k3 ?k4 ?k5 ?kA ?kF ?kK ?k6 ?k7 ?k8 ?k9 ?kB ?_ ?c2 ?c3 ?c4 ?c5; (case kA => exact rfl); (case kF => exact rfl); (case kK => assumption); (case k1 => k_asm); (case k2 => k_asm); (case k3 => k_asm); (case k4 => k_asm); (case k5 => k_asm); (case k6 => k_is); (case k7 => k_is); (case k8 => ktr_room); (case k9 => exact BindsTo.of_eq (by kernel_rfl)); (case c5 => decide); (case kB => exact locs rfl); (case c2 => exact rfl); (case c3 => exact rfl); (case c4 => exact rfl); k_whole; intro g' L' h' FG' F' N' B' X' T'; (try dsimp only [List.reverse_cons, List.reverse_nil, List.nil_append, List.cons_append, List.length_cons, List.length_nil] at F' ⊢); (try k_lift B'); (try k_fold))
    k_steps
    all_goals first
      | exact hret _ _ _ _ ⟨rfl, rfl⟩ (by k_asm) (by first | k_asm | exact news_tl (by k_asm) | exact news_tl (news_tl (by k_asm)) | exact news_tl (news_tl (news_tl (by k_asm))))
      | trace_state
  case ib2 t1   t2 t3   =>
    refine wpAny_call ?_
    k_dflt (refine' code_def (binds := [(PySem.Str.ofString "value", .int 7 t1), (PySem.Str.ofString "told", .ref l)]) ?k1 ?k2 ?k3 ?k4 ?k5 ?kA ?kF ?kK ?k6 ?k7 ?k8 ?k9 ?kB ?_ ?c2 ?c3 ?c4 ?c5; (case kA => exact rfl); (case kF => exact rfl); (case kK => assumption); (case k1 => k_asm); (case k2 => k_asm); (case k3 => k_asm); (case k4 => k_asm); (case k5 => k_asm); (case k6 => k_is); (case k7 => k_is); (case k8 => ktr_room); (case k9 => exact BindsTo.of_eq (by kernel_rfl)); (case c5 => decide); (case kB => exact locs rfl); (case c2 => exact rfl); (case c3 => exact rfl); (case c4 => exact rfl); k_whole; intro g' L' h' FG' F' N' B' X' T'; (try dsimp only [List.reverse_cons, List.reverse_nil, List.nil_append, List.cons_append, List.length_cons, List.length_nil] at F' ⊢); (try k_lift B'); (try k_fold))
    k_steps
    all_goals first
      | exact hret _ _ _ _ ⟨rfl, rfl⟩ (by k_asm) (by first | k_asm | exact news_tl (by k_asm) | exact news_tl (news_tl (by k_asm)) | exact news_tl (news_tl (news_tl (by k_asm))))
      | trace_state
  case is1 t1   t2   =>
    refine wpAny_call ?_
    k_dflt (refine' code_def (binds := [(PySem.Str.ofString "value", .int 7 t1), (PySem.Str.ofString "told", .ref l)]) ?k1 ?k2 ?k3 ?k4 ?k5 ?kA ?kF ?kK ?k6 ?k7 ?k8 ?k9 ?kB ?_ ?c2 ?c3 ?c4 ?c5; (case kA => exact rfl); (case kF => exact rfl); (case kK => assumption); (case k1 => k_asm); (case k2 => k_asm); (case k3 => k_asm); (case k4 => k_asm); (case k5 => k_asm); (case k6 => k_is); (case k7 => k_is); (case k8 => ktr_room); (case k9 => exact BindsTo.of_eq (by kernel_rfl)); (case c5 => decide); (case kB => exact locs rfl); (case c2 => exact rfl); (case c3 => exact rfl); (case c4 => exact rfl); k_whole; intro g' L' h' FG' F' N' B' X' T'; (try dsimp only [List.reverse_cons, List.reverse_nil, List.nil_append, List.cons_append, List.length_cons, List.length_nil] at F' ⊢); (try k_lift B'); (try k_fold))
    k_steps
    all_goals first
      | exact hret _ _ _ _ ⟨rfl, rfl⟩ (by k_asm) (by first | k_asm | exact news_tl (by k_asm) | exact news_tl (news_tl (by k_asm)) | exact news_tl (news_tl (news_tl (by k_asm))))
      | trace_state
  case is2 t1   t2 t3   =>
    refine wpAny_call ?_
    k_dflt (refine' code_def (binds := [(PySem.Str.ofString "value", .int 7 t1), (PySem.Str.ofString "told", .ref l)]) ?k1 ?k2 ?k3 ?k4 ?k5 ?kA ?kF ?kK ?k6 ?k7 ?k8 ?k9 ?kB ?_ ?c2 ?c3 ?c4 ?c5; (case kA => exact rfl); (case kF => exact rfl); (case kK => assumption); (case k1 => k_asm); (case k2 => k_asm); (case k3 => k_asm); (case k4 => k_asm); (case k5 => k_asm); (case k6 => k_is); (case k7 => k_is); (case k8 => ktr_room); (case k9 => exact BindsTo.of_eq (by kernel_rfl)); (case c5 => decide); (case kB => exact locs rfl); (case c2 => exact rfl); (case c3 => exact rfl); (case c4 => exact rfl); k_whole; intro g' L' h' FG' F' N' B' X' T'; (try dsimp only [List.reverse_cons, List.reverse_nil, List.nil_append, List.cons_append, List.length_cons, List.length_nil] at F' ⊢); (try k_lift B'); (try k_fold))
    k_steps
    all_goals first
      | exact hret _ _ _ _ ⟨rfl, rfl⟩ (by k_asm) (by first | k_asm | exact news_tl (by k_asm) | exact news_tl (news_tl (by k_asm)) | exact news_tl (news_tl (news_tl (by k_asm))))
      | trace_state
  case ii8 t1   t2 t3   =>
    refine wpAny_call ?_
    k_dflt (refine' code_def (binds := [(PySem.Str.ofString "value", .int 7 t1), (PySem.Str.ofString "told", .ref l)]) ?k1 ?k2 ?k3 ?k4 ?k5 ?kA ?kF ?kK ?k6 ?k7 ?k8 ?k9 ?kB ?_ ?c2 ?c3 ?c4 ?c5; (case kA => exact rfl); (case kF => exact rfl); (case kK => assumption); (case k1 => k_asm); (case k2 => k_asm); (case k3 => k_asm); (case k4 => k_asm); (case k5 => k_asm); (case k6 => k_is); (case k7 => k_is); (case k8 => ktr_room); (case k9 => exact BindsTo.of_eq (by kernel_rfl)); (case c5 => decide); (case kB => exact locs rfl); (case c2 => exact rfl); (case c3 => exact rfl); (case c4 => exact rfl); k_whole; intro g' L' h' FG' F' N' B' X' T'; (try dsimp only [List.reverse_cons, List.reverse_nil, List.nil_append, List.cons_append, List.length_cons, List.length_nil] at F' ⊢); (try k_lift B'); (try k_fold))
    k_steps
    all_goals first
      | exact hret _ _ _ _ ⟨rfl, rfl⟩ (by k_asm) (by first | k_asm | exact news_tl (by k_asm) | exact news_tl (news_tl (by k_asm)) | exact news_tl (news_tl (news_tl (by k_asm))))
      | trace_state
  case bb1 t1   t2   =>
    refine wpAny_call ?_
    k_dflt (refine' code_def (binds := [(PySem.Str.ofString "value", .bytes #[120] t1), (PySem.Str.ofString "told", .ref l)]) ?k1 ?k2 ?k3 ?k4 ?k5 ?kA ?kF ?kK ?k6 ?k7 ?k8 ?k9 ?kB ?_ ?c2 ?c3 ?c4 ?c5; (case kA => exact rfl); (case kF => exact rfl); (case kK => assumption); (case k1 => k_asm); (case k2 => k_asm); (case k3 => k_asm); (case k4 => k_asm); (case k5 => k_asm); (case k6 => k_is); (case k7 => k_is); (case k8 => ktr_room); (case k9 => exact BindsTo.of_eq (by kernel_rfl)); (case c5 => decide); (case kB => exact locs rfl); (case c2 => exact rfl); (case c3 => exact rfl); (case c4 => exact rfl); k_whole; intro g' L' h' FG' F' N' B' X' T'; (try dsimp only [List.reverse_cons, List.reverse_nil, List.nil_append, List.cons_append, List.length_cons, List.length_nil] at F' ⊢); (try k_lift B'); (try k_fold))
    k_steps
    all_goals first
      | exact hret _ _ _ _ ⟨rfl, rfl⟩ (by k_asm) (by first | k_asm | exact news_tl (by k_asm) | exact news_tl (news_tl (by k_asm)) | exact news_tl (news_tl (news_tl (by k_asm))))
      | trace_state
  case bb2 t1   t2 t3   =>
    refine wpAny_call ?_
    k_dflt (refine' code_def (binds := [(PySem.Str.ofString "value", .bytes #[120] t1), (PySem.Str.ofString "told", .ref l)]) ?k1 ?k2 ?k3 ?k4 ?k5 ?kA ?kF ?kK ?k6 ?k7 ?k8 ?k9 ?kB ?_ ?c2 ?c3 ?c4 ?c5; (case kA => exact rfl); (case kF => exact rfl); (case kK => assumption); (case k1 => k_asm); (case k2 => k_asm); (case k3 => k_asm); (case k4 => k_asm); (case k5 => k_asm); (case k6 => k_is); (case k7 => k_is); (case k8 => ktr_room); (case k9 => exact BindsTo.of_eq (by kernel_rfl)); (case c5 => decide); (case kB => exact locs rfl); (case c2 => exact rfl); (case c3 => exact rfl); (case c4 => exact rfl); k_whole; intro g' L' h' FG' F' N' B' X' T'; (try dsimp only [List.reverse_cons, List.reverse_nil, List.nil_append, List.cons_append, List.length_cons, List.length_nil] at F' ⊢); (try k_lift B'); (try k_fold))
    k_steps
    all_goals first
      | exact hret _ _ _ _ ⟨rfl, rfl⟩ (by k_asm) (by first | k_asm | exact news_tl (by k_asm) | exact news_tl (news_tl (by k_asm)) | exact news_tl (news_tl (news_tl (by k_asm))))
      | trace_state
  case bs1 t1   t2   =>
    refine wpAny_call ?_
    k_dflt (refine' code_def (binds := [(PySem.Str.ofString "value", .bytes #[120] t1), (PySem.Str.ofString "told", .ref l)]) ?k1 ?k2 ?k3 ?k4 ?k5 ?kA ?kF ?kK ?k6 ?k7 ?k8 ?k9 ?kB ?_ ?c2 ?c3 ?c4 ?c5; (case kA => exact rfl); (case kF => exact rfl); (case kK => assumption); (case k1 => k_asm); (case k2 => k_asm); (case k3 => k_asm); (case k4 => k_asm); (case k5 => k_asm); (case k6 => k_is); (case k7 => k_is); (case k8 => ktr_room); (case k9 => exact BindsTo.of_eq (by kernel_rfl)); (case c5 => decide); (case kB => exact locs rfl); (case c2 => exact rfl); (case c3 => exact rfl); (case c4 => exact rfl); k_whole; intro g' L' h' FG' F' N' B' X' T'; (try dsimp only [List.reverse_cons, List.reverse_nil, List.nil_append, List.cons_append, List.length_cons, List.length_nil] at F' ⊢); (try k_lift B'); (try k_fold))
    k_steps
    all_goals first
      | exact hret _ _ _ _ ⟨rfl, rfl⟩ (by k_asm) (by first | k_asm | exact news_tl (by k_asm) | exact news_tl (news_tl (by k_asm)) | exact news_tl (news_tl (news_tl (by k_asm))))
      | trace_state
  case bs2 t1   t2 t3   =>
    refine wpAny_call ?_
    k_dflt (refine' code_def (binds := [(PySem.Str.ofString "value", .bytes #[120] t1), (PySem.Str.ofString "told", .ref l)]) ?k1 ?k2 ?k3 ?k4 ?k5 ?kA ?kF ?kK ?k6 ?k7 ?k8 ?k9 ?kB ?_ ?c2 ?c3 ?c4 ?c5; (case kA => exact rfl); (case kF => exact rfl); (case kK => assumption); (case k1 => k_asm); (case k2 => k_asm); (case k3 => k_asm); (case k4 => k_asm); (case k5 => k_asm); (case k6 => k_is); (case k7 => k_is); (case k8 => ktr_room); (case k9 => exact BindsTo.of_eq (by kernel_rfl)); (case c5 => decide); (case kB => exact locs rfl); (case c2 => exact rfl); (case c3 => exact rfl); (case c4 => exact rfl); k_whole; intro g' L' h' FG' F' N' B' X' T'; (try dsimp only [List.reverse_cons, List.reverse_nil, List.nil_append, List.cons_append, List.length_cons, List.length_nil] at F' ⊢); (try k_lift B'); (try k_fold))
    k_steps
    all_goals first
      | exact hret _ _ _ _ ⟨rfl, rfl⟩ (by k_asm) (by first | k_asm | exact news_tl (by k_asm) | exact news_tl (news_tl (by k_asm)) | exact news_tl (news_tl (news_tl (by k_asm))))
      | trace_state
  case bi8 t1   t2 t3   =>
    refine wpAny_call ?_
    k_dflt (refine' code_def (binds := [(PySem.Str.ofString "value", .bytes #[120] t1), (PySem.Str.ofString "told", .ref l)]) ?k1 ?k2 ?k3 ?k4 ?k5 ?kA ?kF ?kK ?k6 ?k7 ?k8 ?k9 ?kB ?_ ?c2 ?c3 ?c4 ?c5; (case kA => exact rfl); (case kF => exact rfl); (case kK => assumption); (case k1 => k_asm); (case k2 => k_asm); (case k3 => k_asm); (case k4 => k_asm); (case k5 => k_asm); (case k6 => k_is); (case k7 => k_is); (case k8 => ktr_room); (case k9 => exact BindsTo.of_eq (by kernel_rfl)); (case c5 => decide); (case kB => exact locs rfl); (case c2 => exact rfl); (case c3 => exact rfl); (case c4 => exact rfl); k_whole; intro g' L' h' FG' F' N' B' X' T'; (try dsimp only [List.reverse_cons, List.reverse_nil, List.nil_append, List.cons_append, List.length_cons, List.length_nil] at F' ⊢); (try k_lift B'); (try k_fold))
    k_steps
    all_goals first
      | exact hret _ _ _ _ ⟨rfl, rfl⟩ (by k_asm) (by first | k_asm | exact news_tl (by k_asm) | exact news_tl (news_tl (by k_asm)) | exact news_tl (news_tl (news_tl (by k_asm))))
      | trace_state

set_option maxHeartbeats 8000000 in
theorem repr_slice_t_c {l r : Addr} {t1 t2 : Tok} {xs : Array Value} (hl : (l, tupO #[.str (PySem.Str.ofString "slice") t2, .ref r]) ∈ news) (hx : (r, tupO xs) ∈ news) : CallsR 4 w 84 [.bool true, .ref l] news (fun v n' => v = .bool false ∧ n' = news) False := by
  w_on
  unfold CallsR
  k_fill
  intro p loose mean mg mb dp un gd cn cs fa ccd cl outer A₀ base h₀ L m hS gS dS tS oS Q E hB hF hX hN hT hk hd hu hret hrais
  refine wpAny_call ?_
  k_dflt (refine' code_def (binds := [(PySem.Str.ofString "value", .bool true), (PySem.Str.ofString "told", .ref l)]) ?k1 ?k2 ?k3 ?k4 ?k5 ?kA ?kF ?kK ?k6 ?k7 ?k8 ?k9 ?kB ?_ ?c2 ?c3 ?c4 ?c5; (case kA => exact rfl); (case kF => exact rfl); (case kK => assumption); (case k1 => k_asm); (case k2 => k_asm); (case k3 => k_asm); (case k4 => k_asm); (case k5 => k_asm); (case k6 => k_is); (case k7 => k_is); (case k8 => ktr_room); (case k9 => exact BindsTo.of_eq (by kernel_rfl)); (case c5 => decide); (case kB => exact locs rfl); (case c2 => exact rfl); (case c3 => exact rfl); (case c4 => exact rfl); k_whole; intro g' L' h' FG' F' N' B' X' T'; (try dsimp only [List.reverse_cons, List.reverse_nil, List.nil_append, List.cons_append, List.length_cons, List.length_nil] at F' ⊢); (try k_lift B'); (try k_fold))
  k_steps
  all_goals first
    | exact hret _ _ _ _ ⟨rfl, rfl⟩ (by k_asm) (by first | k_asm | exact news_tl (by k_asm) | exact news_tl (news_tl (by k_asm)) | exact news_tl (news_tl (news_tl (by k_asm))))
    | trace_state

set_option maxHeartbeats 8000000 in
theorem repr_slice_i_c {l r : Addr} {t1 t2 : Tok} {xs : Array Value} (hl : (l, tupO #[.str (PySem.Str.ofString "slice") t2, .ref r]) ∈ news) (hx : (r, tupO xs) ∈ news) : CallsR 4 w 84 [.int 7 t1, .ref l] news (fun v n' => v = .bool false ∧ n' = news) False := by
  w_on
  unfold CallsR
  k_fill
  intro p loose mean mg mb dp un gd cn cs fa ccd cl outer A₀ base h₀ L m hS gS dS tS oS Q E hB hF hX hN hT hk hd hu hret hrais
  refine wpAny_call ?_
  k_dflt (refine' code_def (binds := [(PySem.Str.ofString "value", .int 7 t1), (PySem.Str.ofString "told", .ref l)]) ?k1 ?k2 ?k3 ?k4 ?k5 ?kA ?kF ?kK ?k6 ?k7 ?k8 ?k9 ?kB ?_ ?c2 ?c3 ?c4 ?c5; (case kA => exact rfl); (case kF => exact rfl); (case kK => assumption); (case k1 => k_asm); (case k2 => k_asm); (case k3 => k_asm); (case k4 => k_asm); (case k5 => k_asm); (case k6 => k_is); (case k7 => k_is); (case k8 => ktr_room); (case k9 => exact BindsTo.of_eq (by kernel_rfl)); (case c5 => decide); (case kB => exact locs rfl); (case c2 => exact rfl); (case c3 => exact rfl); (case c4 => exact rfl); k_whole; intro g' L' h' FG' F' N' B' X' T'; (try dsimp only [List.reverse_cons, List.reverse_nil, List.nil_append, List.cons_append, List.length_cons, List.length_nil] at F' ⊢); (try k_lift B'); (try k_fold))
  k_steps
  all_goals first
    | exact hret _ _ _ _ ⟨rfl, rfl⟩ (by k_asm) (by first | k_asm | exact news_tl (by k_asm) | exact news_tl (news_tl (by k_asm)) | exact news_tl (news_tl (news_tl (by k_asm))))
    | trace_state

set_option maxHeartbeats 8000000 in
theorem repr_slice_b_c {l r : Addr} {t1 t2 : Tok} {xs : Array Value} (hl : (l, tupO #[.str (PySem.Str.ofString "slice") t2, .ref r]) ∈ news) (hx : (r, tupO xs) ∈ news) : CallsR 4 w 84 [.bytes #[120] t1, .ref l] news (fun v n' => v = .bool false ∧ n' = news) False := by
  w_on
  unfold CallsR
  k_fill
  intro p loose mean mg mb dp un gd cn cs fa ccd cl outer A₀ base h₀ L m hS gS dS tS oS Q E hB hF hX hN hT hk hd hu hret hrais
  refine wpAny_call ?_
  k_dflt (refine' code_def (binds := [(PySem.Str.ofString "value", .bytes #[120] t1), (PySem.Str.ofString "told", .ref l)]) ?k1 ?k2 ?k3 ?k4 ?k5 ?kA ?kF ?kK ?k6 ?k7 ?k8 ?k9 ?kB ?_ ?c2 ?c3 ?c4 ?c5; (case kA => exact rfl); (case kF => exact rfl); (case kK => assumption); (case k1 => k_asm); (case k2 => k_asm); (case k3 => k_asm); (case k4 => k_asm); (case k5 => k_asm); (case k6 => k_is); (case k7 => k_is); (case k8 => ktr_room); (case k9 => exact BindsTo.of_eq (by kernel_rfl)); (case c5 => decide); (case kB => exact locs rfl); (case c2 => exact rfl); (case c3 => exact rfl); (case c4 => exact rfl); k_whole; intro g' L' h' FG' F' N' B' X' T'; (try dsimp only [List.reverse_cons, List.reverse_nil, List.nil_append, List.cons_append, List.length_cons, List.length_nil] at F' ⊢); (try k_lift B'); (try k_fold))
  k_steps
  all_goals first
    | exact hret _ _ _ _ ⟨rfl, rfl⟩ (by k_asm) (by first | k_asm | exact news_tl (by k_asm) | exact news_tl (news_tl (by k_asm)) | exact news_tl (news_tl (news_tl (by k_asm))))
    | trace_state

end
end

-- RU
section
theorem start_RU : True := by
  w_top off
  k_with_none
  (k_with "eval Constant str" => refine kstr ?_)
  (k_with "eval Constant int" => refine kint ?_)
  (k_with "eval Constant bytes" => refine kbyt ?_)
  (k_with "binaryOp Add int int" => with_reducible refine kadd ?_)
  (k_with "binaryOp Sub int int" => with_reducible refine ksub ?_)
  (k_with "unaryOp USub int" => with_reducible refine kneg ?_)
  (k_with "storeName" => (k_here; k_dflt (refine kstL (by k_asm) (by k_asm) ?_ (rfl) (rfl); k_whole; intro h9 F9 N9; (try k_sweep))))
  (k_with "newTuple" => (k_here; k_dflt (refine ktuK (by k_asm) (by k_asm) ?_ (by kmk_size)); intro D7 h7 F7 N7 l7; (try k_lt l7); (try k_sweep)))
  (k_with "newList" => (k_here; k_dflt (refine kltK (by k_asm) (by k_asm) ?_ (by size_fits)); intro D7 h7 F7 N7 l7; (try k_lt l7); (try k_sweep)))
  (k_with "steps9" => repeat' (first | (k_unfold; (try dsimp only)) | (k_end; wrow_close) | (walk1 <;> (try dsimp only)) | (dsimp only; walk1) | (leave1; walk_say "STEP leave1"; try dsimp only) | (with_reducible refine popN (by assumption) ?_) | (with_reducible refine popR (by assumption) ?_) | ((refine pop_ (by assumption) ?_); (try dsimp only)) | fail "no step"))
  (k_with "all9" => focus ((repeat (first | exact List.forall_mem_nil _ | with_reducible assumption | (refine List.forall_mem_cons.mpr ⟨by k_ne, ?_⟩))); done))
  (k_with "room9" => first | exact rl1 (by with_reducible assumption) (Nat.le_of_ble_eq_true rfl) | exact rl0 (by with_reducible assumption) (Nat.le_of_ble_eq_true rfl) | exact rl2 (by with_reducible assumption) (Nat.le_of_ble_eq_true rfl) | exact rlz (by assumption))
  (k_with "ne9" => (refine neN ?_; (try dsimp only); first | (refine Nat.ne_of_lt ?_; focus ((repeat (first | with_reducible assumption | exact cj0 (by with_reducible assumption) | exact cj1 (by with_reducible assumption) | exact cj2 (by with_reducible assumption) | exact cj3 (by with_reducible assumption) | exact cj4 (by with_reducible assumption) | exact cj5 (by with_reducible assumption) | exact cj6 (by with_reducible assumption) | exact cj7 (by with_reducible assumption) | exact cj8 (by with_reducible assumption) | exact cj9 (by with_reducible assumption) | exact cj10 (by with_reducible assumption) | exact cj11 (by with_reducible assumption) | exact cj12 (by with_reducible assumption) | exact cj13 (by with_reducible assumption) | exact cj14 (by with_reducible assumption) | exact cj15 (by with_reducible assumption) | (refine lt_tr (by with_reducible assumption) ?_))); done)) | (refine Nat.ne_of_gt ?_; focus ((repeat (first | with_reducible assumption | exact cj0 (by with_reducible assumption) | exact cj1 (by with_reducible assumption) | exact cj2 (by with_reducible assumption) | exact cj3 (by with_reducible assumption) | exact cj4 (by with_reducible assumption) | exact cj5 (by with_reducible assumption) | exact cj6 (by with_reducible assumption) | exact cj7 (by with_reducible assumption) | exact cj8 (by with_reducible assumption) | exact cj9 (by with_reducible assumption) | exact cj10 (by with_reducible assumption) | exact cj11 (by with_reducible assumption) | exact cj12 (by with_reducible assumption) | exact cj13 (by with_reducible assumption) | exact cj14 (by with_reducible assumption) | exact cj15 (by with_reducible assumption) | (refine lt_tr (by with_reducible assumption) ?_))); done))))
  (k_with "mem9" => focus ((repeat (first | with_reducible assumption | exact List.Mem.head _ | refine List.mem_cons_of_mem _ ?_)); done))
  trivial

theorem words_RU_42 : True := by
  (k_with "eval Call" => (((with_reducible show wpAny _ _ (eval (PySem.Expr.Call (PySem.Expr.Name _ _) _ [] _) _) _ _ _); k_dflt (refine Call_ ?_))))
  (k_with "eval Name" => ((k_here; k_dflt (first | (refine ld (by k_asm) (by exact rfl) ?_; k_whole) | (refine name_K (by k_asm) (by k_asm) (by k_asm) (by k_is) ?_; k_whole)))))
  trivial
/-- the octets of the runes asked -/
inductive RuneOf : Int → Array UInt8 → Prop
  | r0 : RuneOf 0 #[0]
  | r1 : RuneOf 65 #[65]
  | r2 : RuneOf 127 #[127]
  | r3 : RuneOf 128 #[194, 128]
  | r4 : RuneOf 2047 #[223, 191]
  | r5 : RuneOf 2048 #[224, 160, 128]
  | r6 : RuneOf 55295 #[237, 159, 191]
  | r7 : RuneOf 55296 #[239, 191, 189]
  | r8 : RuneOf 57343 #[239, 191, 189]
  | r9 : RuneOf 57344 #[238, 128, 128]
  | r10 : RuneOf 65535 #[239, 191, 191]
  | r11 : RuneOf 65536 #[240, 144, 128, 128]
  | r12 : RuneOf 1114111 #[244, 143, 191, 191]
  | r13 : RuneOf 1114112 #[239, 191, 189]
  | r14 : RuneOf (-1) #[239, 191, 189]
theorem enc_0 (t u : Tok) : Builtin.«str.encode» ⟨[.str ⟨#[Int.toNat 0]⟩ t, .str (PySem.Str.ofString "utf-8") u], []⟩ = (Made.bytes #[0]).tree := by kernel_rfl
theorem enc_65 (t u : Tok) : Builtin.«str.encode» ⟨[.str ⟨#[Int.toNat 65]⟩ t, .str (PySem.Str.ofString "utf-8") u], []⟩ = (Made.bytes #[65]).tree := by kernel_rfl
theorem enc_127 (t u : Tok) : Builtin.«str.encode» ⟨[.str ⟨#[Int.toNat 127]⟩ t, .str (PySem.Str.ofString "utf-8") u], []⟩ = (Made.bytes #[127]).tree := by kernel_rfl
theorem enc_128 (t u : Tok) : Builtin.«str.encode» ⟨[.str ⟨#[Int.toNat 128]⟩ t, .str (PySem.Str.ofString "utf-8") u], []⟩ = (Made.bytes #[194, 128]).tree := by kernel_rfl
theorem enc_2047 (t u : Tok) : Builtin.«str.encode» ⟨[.str ⟨#[Int.toNat 2047]⟩ t, .str (PySem.Str.ofString "utf-8") u], []⟩ = (Made.bytes #[223, 191]).tree := by kernel_rfl
theorem enc_2048 (t u : Tok) : Builtin.«str.encode» ⟨[.str ⟨#[Int.toNat 2048]⟩ t, .str (PySem.Str.ofString "utf-8") u], []⟩ = (Made.bytes #[224, 160, 128]).tree := by kernel_rfl
theorem enc_55295 (t u : Tok) : Builtin.«str.encode» ⟨[.str ⟨#[Int.toNat 55295]⟩ t, .str (PySem.Str.ofString "utf-8") u], []⟩ = (Made.bytes #[237, 159, 191]).tree := by kernel_rfl
theorem enc_57344 (t u : Tok) : Builtin.«str.encode» ⟨[.str ⟨#[Int.toNat 57344]⟩ t, .str (PySem.Str.ofString "utf-8") u], []⟩ = (Made.bytes #[238, 128, 128]).tree := by kernel_rfl
theorem enc_65535 (t u : Tok) : Builtin.«str.encode» ⟨[.str ⟨#[Int.toNat 65535]⟩ t, .str (PySem.Str.ofString "utf-8") u], []⟩ = (Made.bytes #[239, 191, 191]).tree := by kernel_rfl
theorem enc_65536 (t u : Tok) : Builtin.«str.encode» ⟨[.str ⟨#[Int.toNat 65536]⟩ t, .str (PySem.Str.ofString "utf-8") u], []⟩ = (Made.bytes #[240, 144, 128, 128]).tree := by kernel_rfl
theorem enc_1114111 (t u : Tok) : Builtin.«str.encode» ⟨[.str ⟨#[Int.toNat 1114111]⟩ t, .str (PySem.Str.ofString "utf-8") u], []⟩ = (Made.bytes #[244, 143, 191, 191]).tree := by kernel_rfl
section
variable {prog : Program} {w : World} {A : Around} {E : Value → Shared → Prop} {s : Shared} {Q : Value → Shared → Prop} {t u : Tok}
theorem encode_of {c : Nat} {b : Array UInt8} (e : Builtin.«str.encode» ⟨[.str ⟨#[c]⟩ t, .str (PySem.Str.ofString "utf-8") u], []⟩ = (Made.bytes b).tree) (hb : b.size ≤ 4) (h : ∀ t' k, Q (.bytes b t') { s with toks := k }) : wpAny (model prog w) A (call (.builtin "str.encode") [.str ⟨#[c]⟩ t, .str (PySem.Str.ofString "utf-8") u]) Q E s :=
  call_gives PySem.F.slot_str_encode (typeIs_str _ _ _) PySem.F.entry_str_encode (PySem.F.args_str_encode_2 _ _) (.of_eq e) ⟨Nat.le_trans hb (by decide), h _ _⟩
theorem enc_method {M : Model} {x : PySem.Str} {pl : Sem Bool} {Q : Value × List Value → Shared → Prop} (h : Q (.builtin "str.encode", [.str x t]) s) : wpAny M A (getMethod (.str x t) (PySem.Str.ofString "encode") pl) Q E s :=
  getMethod_builtin (typeIs_str _ _ _) PySem.F.plainAttrs_str PySem.F.slot_str_encode PySem.F.type_str_encode (fun a e => nomatch e) h
end
section
variable {w : World} {news : List (Addr × Obj)}
theorem words_RU_43 : True := by
  (k_with "call builtin:str.encode" => ((k_here; (try dsimp only [List.cons_append, List.nil_append]); k_dflt (first | ((with_reducible show wpAny _ _ (call _ [Value.str ⟨#[Int.toNat 0]⟩ _, _]) _ _ _); refine encode_of (enc_0 _ _) (by decide) ?_; k_whole) | ((with_reducible show wpAny _ _ (call _ [Value.str ⟨#[Int.toNat 65]⟩ _, _]) _ _ _); refine encode_of (enc_65 _ _) (by decide) ?_; k_whole) | ((with_reducible show wpAny _ _ (call _ [Value.str ⟨#[Int.toNat 127]⟩ _, _]) _ _ _); refine encode_of (enc_127 _ _) (by decide) ?_; k_whole) | ((with_reducible show wpAny _ _ (call _ [Value.str ⟨#[Int.toNat 128]⟩ _, _]) _ _ _); refine encode_of (enc_128 _ _) (by decide) ?_; k_whole) | ((with_reducible show wpAny _ _ (call _ [Value.str ⟨#[Int.toNat 2047]⟩ _, _]) _ _ _); refine encode_of (enc_2047 _ _) (by decide) ?_; k_whole) | ((with_reducible show wpAny _ _ (call _ [Value.str ⟨#[Int.toNat 2048]⟩ _, _]) _ _ _); refine encode_of (enc_2048 _ _) (by decide) ?_; k_whole) | ((with_reducible show wpAny _ _ (call _ [Value.str ⟨#[Int.toNat 55295]⟩ _, _]) _ _ _); refine encode_of (enc_55295 _ _) (by decide) ?_; k_whole) | ((with_reducible show wpAny _ _ (call _ [Value.str ⟨#[Int.toNat 57344]⟩ _, _]) _ _ _); refine encode_of (enc_57344 _ _) (by decide) ?_; k_whole) | ((with_reducible show wpAny _ _ (call _ [Value.str ⟨#[Int.toNat 65535]⟩ _, _]) _ _ _); refine encode_of (enc_65535 _ _) (by decide) ?_; k_whole) | ((with_reducible show wpAny _ _ (call _ [Value.str ⟨#[Int.toNat 65536]⟩ _, _]) _ _ _); refine encode_of (enc_65536 _ _) (by decide) ?_; k_whole) | ((with_reducible show wpAny _ _ (call _ [Value.str ⟨#[Int.toNat 1114111]⟩ _, _]) _ _ _); refine encode_of (enc_1114111 _ _) (by decide) ?_; k_whole)); intro t9 k9; (try dsimp only))))
  (k_with "getMethod str" => ((k_here; (with_reducible refine enc_method ?_))))
  trivial
set_option maxHeartbeats 8000000 in
theorem rune_octets_c {r : Int} {b : Array UInt8} {t : Tok} (hr : RuneOf r b) : CallsR 1 w 142 [.int r t] news (fun v n' => (∃ t', v = .bytes b t') ∧ n' = news) False := by
  w_on
  unfold CallsR
  k_fill
  intro p loose mean mg mb dp un gd cn cs fa ccd cl outer A₀ base h₀ L m hS gS dS tS oS Q E hB hF hX hN hT hk hd hu hret hrais
  cases hr
  case r0 =>
    refine wpAny_call ?_
    k_dflt (refine' code_def (binds := [(PySem.Str.ofString "number", .int 0 t)]) ?k1 ?k2 ?k3 ?k4 ?k5 ?kA ?kF ?kK ?k6 ?k7 ?k8 ?k9 ?kB ?_ ?c2 ?c3 ?c4 ?c5; (case kA => exact rfl); (case kF => exact rfl); (case kK => assumption); (case k1 => k_asm); (case k2 => k_asm); (case k3 => k_asm); (case k4 => k_asm); (case k5 => k_asm); (case k6 => k_is); (case k7 => k_is); (case k8 => ktr_room); (case k9 => exact BindsTo.of_eq (by kernel_rfl)); (case c5 => decide); (case kB => exact locs rfl); (case c2 => exact rfl); (case c3 => exact rfl); (case c4 => exact rfl); k_whole; intro g' L' h' FG' F' N' B' X' T'; (try dsimp only [List.reverse_cons, List.reverse_nil, List.nil_append, List.cons_append, List.length_cons, List.length_nil] at F' ⊢); (try k_lift B'); (try k_fold))
    k_steps
    all_goals first
      | exact hret _ _ _ _ ⟨⟨_, rfl⟩, rfl⟩ (by k_asm) (by k_asm)
      | trace_state
  case r1 =>
    refine wpAny_call ?_
    k_dflt (refine' code_def (binds := [(PySem.Str.ofString "number", .int 65 t)]) ?k1 ?k2 ?k3 ?k4 ?k5 ?kA ?kF ?kK ?k6 ?k7 ?k8 ?k9 ?kB ?_ ?c2 ?c3 ?c4 ?c5; (case kA => exact rfl); (case kF => exact rfl); (case kK => assumption); (case k1 => k_asm); (case k2 => k_asm); (case k3 => k_asm); (case k4 => k_asm); (case k5 => k_asm); (case k6 => k_is); (case k7 => k_is); (case k8 => ktr_room); (case k9 => exact BindsTo.of_eq (by kernel_rfl)); (case c5 => decide); (case kB => exact locs rfl); (case c2 => exact rfl); (case c3 => exact rfl); (case c4 => exact rfl); k_whole; intro g' L' h' FG' F' N' B' X' T'; (try dsimp only [List.reverse_cons, List.reverse_nil, List.nil_append, List.cons_append, List.length_cons, List.length_nil] at F' ⊢); (try k_lift B'); (try k_fold))
    k_steps
    all_goals first
      | exact hret _ _ _ _ ⟨⟨_, rfl⟩, rfl⟩ (by k_asm) (by k_asm)
      | trace_state
  case r2 =>
    refine wpAny_call ?_
    k_dflt (refine' code_def (binds := [(PySem.Str.ofString "number", .int 127 t)]) ?k1 ?k2 ?k3 ?k4 ?k5 ?kA ?kF ?kK ?k6 ?k7 ?k8 ?k9 ?kB ?_ ?c2 ?c3 ?c4 ?c5; (case kA => exact rfl); (case kF => exact rfl); (case kK => assumption); (case k1 => k_asm); (case k2 => k_asm); (case k3 => k_asm); (case k4 => k_asm); (case k5 => k_asm); (case k6 => k_is); (case k7 => k_is); (case k8 => ktr_room); (case k9 => exact BindsTo.of_eq (by kernel_rfl)); (case c5 => decide); (case kB => exact locs rfl); (case c2 => exact rfl); (case c3 => exact rfl); (case c4 => exact rfl); k_whole; intro g' L' h' FG' F' N' B' X' T'; (try dsimp only [List.reverse_cons, List.reverse_nil, List.nil_append, List.cons_append, List.length_cons, List.length_nil] at F' ⊢); (try k_lift B'); (try k_fold))
    k_steps
    all_goals first
      | exact hret _ _ _ _ ⟨⟨_, rfl⟩, rfl⟩ (by k_asm) (by k_asm)
      | trace_state
  case r3 =>
    refine wpAny_call ?_
    k_dflt (refine' code_def (binds := [(PySem.Str.ofString "number", .int 128 t)]) ?k1 ?k2 ?k3 ?k4 ?k5 ?kA ?kF ?kK ?k6 ?k7 ?k8 ?k9 ?kB ?_ ?c2 ?c3 ?c4 ?c5; (case kA => exact rfl); (case kF => exact rfl); (case kK => assumption); (case k1 => k_asm); (case k2 => k_asm); (case k3 => k_asm); (case k4 => k_asm); (case k5 => k_asm); (case k6 => k_is); (case k7 => k_is); (case k8 => ktr_room); (case k9 => exact BindsTo.of_eq (by kernel_rfl)); (case c5 => decide); (case kB => exact locs rfl); (case c2 => exact rfl); (case c3 => exact rfl); (case c4 => exact rfl); k_whole; intro g' L' h' FG' F' N' B' X' T'; (try dsimp only [List.reverse_cons, List.reverse_nil, List.nil_append, List.cons_append, List.length_cons, List.length_nil] at F' ⊢); (try k_lift B'); (try k_fold))
    k_steps
    all_goals first
      | exact hret _ _ _ _ ⟨⟨_, rfl⟩, rfl⟩ (by k_asm) (by k_asm)
      | trace_state
  case r4 =>
    refine wpAny_call ?_
    k_dflt (refine' code_def (binds := [(PySem.Str.ofString "number", .int 2047 t)]) ?k1 ?k2 ?k3 ?k4 ?k5 ?kA ?kF ?kK ?k6 ?k7 ?k8 ?k9 ?kB ?_ ?c2 ?c3 ?c4 ?c5; (case kA => exact rfl); (case kF => exact rfl); (case kK => assumption); (case k1 => k_asm); (case k2 => k_asm); (case k3 => k_asm); (case k4 => k_asm); (case k5 => k_asm); (case k6 => k_is); (case k7 => k_is); (case k8 => ktr_room); (case k9 => exact BindsTo.of_eq (by kernel_rfl)); (case c5 => decide); (case kB => exact locs rfl); (case c2 => exact rfl); (case c3 => exact rfl); (case c4 => exact rfl); k_whole; intro g' L' h' FG' F' N' B' X' T'; (try dsimp only [List.reverse_cons, List.reverse_nil, List.nil_append, List.cons_append, List.length_cons, List.length_nil] at F' ⊢); (try k_lift B'); (try k_fold))
    k_steps
    all_goals first
      | exact hret _ _ _ _ ⟨⟨_, rfl⟩, rfl⟩ (by k_asm) (by k_asm)
      | trace_state
  case r5 =>
    refine wpAny_call ?_
    k_dflt (refine' code_def (binds := [(PySem.Str.ofString "number", .int 2048 t)]) ?k1 ?k2 ?k3 ?k4 ?k5 ?kA ?kF ?kK ?k6 ?k7 ?k8 ?k9 ?kB ?_ ?c2 ?c3 ?c4 ?c5; (case kA => exact rfl); (case kF => exact rfl); (case kK => assumption); (case k1 => k_asm); (case k2 => k_asm); (case k3 => k_asm); (case k4 => k_asm); (case k5 => k_asm); (case k6 => k_is); (case k7 => k_is); (case k8 => ktr_room); (case k9 => exact BindsTo.of_eq (by kernel_rfl)); (case c5 => decide); (case kB => exact locs rfl); (case c2 => exact rfl); (case c3 => exact rfl); (case c4 => exact rfl); k_whole; intro g' L' h' FG' F' N' B' X' T'; (try dsimp only [List.reverse_cons, List.reverse_nil, List.nil_append, List.cons_append, List.length_cons, List.length_nil] at F' ⊢); (try k_lift B'); (try k_fold))
    k_steps
    all_goals first
      | exact hret _ _ _ _ ⟨⟨_, rfl⟩, rfl⟩ (by k_asm) (by k_asm)
      | trace_state
  case r6 =>
    refine wpAny_call ?_
    k_dflt (refine' code_def (binds := [(PySem.Str.ofString "number", .int 55295 t)]) ?k1 ?k2 ?k3 ?k4 ?k5 ?kA ?kF ?kK ?k6 ?k7 ?k8 ?k9 ?kB ?_ ?c2 ?c3 ?c4 ?c5; (case kA => exact rfl); (case kF => exact rfl); (case kK => assumption); (case k1 => k_asm); (case k2 => k_asm); (case k3 => k_asm); (case k4 => k_asm); (case k5 => k_asm); (case k6 => k_is); (case k7 => k_is); (case k8 => ktr_room); (case k9 => exact BindsTo.of_eq (by kernel_rfl)); (case c5 => decide); (case kB => exact locs rfl); (case c2 => exact rfl); (case c3 => exact rfl); (case c4 => exact rfl); k_whole; intro g' L' h' FG' F' N' B' X' T'; (try dsimp only [List.reverse_cons, List.reverse_nil, List.nil_append, List.cons_append, List.length_cons, List.length_nil] at F' ⊢); (try k_lift B'); (try k_fold))
    k_steps
    all_goals first
      | exact hret _ _ _ _ ⟨⟨_, rfl⟩, rfl⟩ (by k_asm) (by k_asm)
      | trace_state
  case r7 =>
    refine wpAny_call ?_
    k_dflt (refine' code_def (binds := [(PySem.Str.ofString "number", .int 55296 t)]) ?k1 ?k2 ?k3 ?k4 ?k5 ?kA ?kF ?kK ?k6 ?k7 ?k8 ?k9 ?kB ?_ ?c2 ?c3 ?c4 ?c5; (case kA => exact rfl); (case kF => exact rfl); (case kK => assumption); (case k1 => k_asm); (case k2 => k_asm); (case k3 => k_asm); (case k4 => k_asm); (case k5 => k_asm); (case k6 => k_is); (case k7 => k_is); (case k8 => ktr_room); (case k9 => exact BindsTo.of_eq (by kernel_rfl)); (case c5 => decide); (case kB => exact locs rfl); (case c2 => exact rfl); (case c3 => exact rfl); (case c4 => exact rfl); k_whole; intro g' L' h' FG' F' N' B' X' T'; (try dsimp only [List.reverse_cons, List.reverse_nil, List.nil_append, List.cons_append, List.length_cons, List.length_nil] at F' ⊢); (try k_lift B'); (try k_fold))
    k_steps
    all_goals first
      | exact hret _ _ _ _ ⟨⟨_, rfl⟩, rfl⟩ (by k_asm) (by k_asm)
      | trace_state
  case r8 =>
    refine wpAny_call ?_
    k_dflt (refine' code_def (binds := [(PySem.Str.ofString "number", .int 57343 t)]) ?k1 ?k2 ?k3 ?k4 ?k5 ?kA ?kF ?kK ?k6 ?k7 ?k8 ?k9 ?kB ?_ ?c2 ?c3 ?c4 ?c5; (case kA => exact rfl); (case kF => exact rfl); (case kK => assumption); (case k1 => k_asm); (case k2 => k_asm); (case k3 => k_asm); (case k4 => k_asm); (case k5 => k_asm); (case k6 => k_is); (case k7 => k_is); (case k8 => ktr_room); (case k9 => exact BindsTo.of_eq (by kernel_rfl)); (case c5 => decide); (case kB => exact locs rfl); (case c2 => exact rfl); (case c3 => exact rfl); (case c4 => exact rfl); k_whole; intro g' L' h' FG' F' N' B' X' T'; (try dsimp only [List.reverse_cons, List.reverse_nil, List.nil_append, List.cons_append, List.length_cons, List.length_nil] at F' ⊢); (try k_lift B'); (try k_fold))
    k_steps
    all_goals first
      | exact hret _ _ _ _ ⟨⟨_, rfl⟩, rfl⟩ (by k_asm) (by k_asm)
      | trace_state
  case r9 =>
    refine wpAny_call ?_
    k_dflt (refine' code_def (binds := [(PySem.Str.ofString "number", .int 57344 t)]) ?k1 ?k2 ?k3 ?k4 ?k5 ?kA ?kF ?kK ?k6 ?k7 ?k8 ?k9 ?kB ?_ ?c2 ?c3 ?c4 ?c5; (case kA => exact rfl); (case kF => exact rfl); (case kK => assumption); (case k1 => k_asm); (case k2 => k_asm); (case k3 => k_asm); (case k4 => k_asm); (case k5 => k_asm); (case k6 => k_is); (case k7 => k_is); (case k8 => ktr_room); (case k9 => exact BindsTo.of_eq (by kernel_rfl)); (case c5 => decide); (case kB => exact locs rfl); (case c2 => exact rfl); (case c3 => exact rfl); (case c4 => exact rfl); k_whole; intro g' L' h' FG' F' N' B' X' T'; (try dsimp only [List.reverse_cons, List.reverse_nil, List.nil_append, List.cons_append, List.length_cons, List.length_nil] at F' ⊢); (try k_lift B'); (try k_fold))
    k_steps
    all_goals first
      | exact hret _ _ _ _ ⟨⟨_, rfl⟩, rfl⟩ (by k_asm) (by k_asm)
      | trace_state
  case r10 =>
    refine wpAny_call ?_
    k_dflt (refine' code_def (binds := [(PySem.Str.ofString "number", .int 65535 t)]) ?k1 ?k2 ?k3 ?k4 ?k5 ?kA ?kF ?kK ?k6 ?k7 ?k8 ?k9 ?kB ?_ ?c2 ?c3 ?c4 ?c5; (case kA => exact rfl); (case kF => exact rfl); (case kK => assumption); (case k1 => k_asm); (case k2 => k_asm); (case k3 => k_asm); (case k4 => k_asm); (case k5 => k_asm); (case k6 => k_is); (case k7 => k_is); (case k8 => ktr_room); (case k9 => exact BindsTo.of_eq (by kernel_rfl)); (case c5 => decide); (case kB => exact locs rfl); (case c2 => exact rfl); (case c3 => exact rfl); (case c4 => exact rfl); k_whole; intro g' L' h' FG' F' N' B' X' T'; (try dsimp only [List.reverse_cons, List.reverse_nil, List.nil_append, List.cons_append, List.length_cons, List.length_nil] at F' ⊢); (try k_lift B'); (try k_fold))
    k_steps
    all_goals first
      | exact hret _ _ _ _ ⟨⟨_, rfl⟩, rfl⟩ (by k_asm) (by k_asm)
      | trace_state
  case r11 =>
    refine wpAny_call ?_
    k_dflt (refine' code_def (binds := [(PySem.Str.ofString "number", .int 65536 t)]) ?k1 ?k2 ?k3 ?k4 ?k5 ?kA ?kF ?kK ?k6 ?k7 ?k8 ?k9 ?kB ?_ ?c2 ?c3 ?c4 ?c5; (case kA => exact rfl); (case kF => exact rfl); (case kK => assumption); (case k1 => k_asm); (case k2 => k_asm); (case k3 => k_asm); (case k4 => k_asm); (case k5 => k_asm); (case k6 => k_is); (case k7 => k_is); (case k8 => ktr_room); (case k9 => exact BindsTo.of_eq (by kernel_rfl)); (case c5 => decide); (case kB => exact locs rfl); (case c2 => exact rfl); (case c3 => exact rfl); (case c4 => exact rfl); k_whole; intro g' L' h' FG' F' N' B' X' T'; (try dsimp only [List.reverse_cons, List.reverse_nil, List.nil_append, List.cons_append, List.length_cons, List.length_nil] at F' ⊢); (try k_lift B'); (try k_fold))
    k_steps
    all_goals first
      | exact hret _ _ _ _ ⟨⟨_, rfl⟩, rfl⟩ (by k_asm) (by k_asm)
      | trace_state
  case r12 =>
    refine wpAny_call ?_
    k_dflt (refine' code_def (binds := [(PySem.Str.ofString "number", .int 1114111 t)]) ?k1 ?k2 ?k3 ?k4 ?k5 ?kA ?kF ?kK ?k6 ?k7 ?k8 ?k9 ?kB ?_ ?c2 ?c3 ?c4 ?c5; (case kA => exact rfl); (case kF => exact rfl); (case kK => assumption); (case k1 => k_asm); (case k2 => k_asm); (case k3 => k_asm); (case k4 => k_asm); (case k5 => k_asm); (case k6 => k_is); (case k7 => k_is); (case k8 => ktr_room); (case k9 => exact BindsTo.of_eq (by kernel_rfl)); (case c5 => decide); (case kB => exact locs rfl); (case c2 => exact rfl); (case c3 => exact rfl); (case c4 => exact rfl); k_whole; intro g' L' h' FG' F' N' B' X' T'; (try dsimp only [List.reverse_cons, List.reverse_nil, List.nil_append, List.cons_append, List.length_cons, List.length_nil] at F' ⊢); (try k_lift B'); (try k_fold))
    k_steps
    all_goals first
      | exact hret _ _ _ _ ⟨⟨_, rfl⟩, rfl⟩ (by k_asm) (by k_asm)
      | trace_state
  case r13 =>
    refine wpAny_call ?_
    k_dflt (refine' code_def (binds := [(PySem.Str.ofString "number", .int 1114112 t)]) ?k1 ?k2 ?k3 ?k4 ?k5 ?kA ?kF ?kK ?k6 ?k7 ?k8 ?k9 ?kB ?_ ?c2 ?c3 ?c4 ?c5; (case kA => exact rfl); (case kF => exact rfl); (case kK => assumption); (case k1 => k_asm); (case k2 => k_asm); (case k3 => k_asm); (case k4 => k_asm); (case k5 => k_asm); (case k6 => k_is); (case k7 => k_is); (case k8 => ktr_room); (case k9 => exact BindsTo.of_eq (by kernel_rfl)); (case c5 => decide); (case kB => exact locs rfl); (case c2 => exact rfl); (case c3 => exact rfl); (case c4 => exact rfl); k_whole; intro g' L' h' FG' F' N' B' X' T'; (try dsimp only [List.reverse_cons, List.reverse_nil, List.nil_append, List.cons_append, List.length_cons, List.length_nil] at F' ⊢); (try k_lift B'); (try k_fold))
    k_steps
    all_goals first
      | exact hret _ _ _ _ ⟨⟨_, rfl⟩, rfl⟩ (by k_asm) (by k_asm)
      | trace_state
  case r14 =>
    refine wpAny_call ?_
    k_dflt (refine' code_def (binds := [(PySem.Str.ofString "number", .int (-1) t)]) ?k1 ?k2 ?k3 ?k4 ?k5 ?kA ?kF ?kK ?k6 ?k7 ?k8 ?k9 ?kB ?_ ?c2 ?c3 ?c4 ?c5; (case kA => exact rfl); (case kF => exact rfl); (case kK => assumption); (case k1 => k_asm); (case k2 => k_asm); (case k3 => k_asm); (case k4 => k_asm); (case k5 => k_asm); (case k6 => k_is); (case k7 => k_is); (case k8 => ktr_room); (case k9 => exact BindsTo.of_eq (by kernel_rfl)); (case c5 => decide); (case kB => exact locs rfl); (case c2 => exact rfl); (case c3 => exact rfl); (case c4 => exact rfl); k_whole; intro g' L' h' FG' F' N' B' X' T'; (try dsimp only [List.reverse_cons, List.reverse_nil, List.nil_append, List.cons_append, List.length_cons, List.length_nil] at F' ⊢); (try k_lift B'); (try k_fold))
    k_steps
    all_goals first
      | exact hret _ _ _ _ ⟨⟨_, rfl⟩, rfl⟩ (by k_asm) (by k_asm)
      | trace_state

end
end

end

-- group 5
section

-- CV
section
theorem start_CV : True := by
  w_top off
  k_with_none
  (k_with "eval Constant str" => refine kstr ?_)
  (k_with "eval Constant int" => refine kint ?_)
  (k_with "eval Constant bytes" => refine kbyt ?_)
  (k_with "binaryOp Add int int" => with_reducible refine kadd ?_)
  (k_with "binaryOp Sub int int" => with_reducible refine ksub ?_)
  (k_with "unaryOp USub int" => with_reducible refine kneg ?_)
  (k_with "storeName" => (k_here; k_dflt (refine kstL (by k_asm) (by k_asm) ?_ (rfl) (rfl); k_whole; intro h9 F9 N9; (try k_sweep))))
  (k_with "newTuple" => (k_here; k_dflt (refine ktuK (by k_asm) (by k_asm) ?_ (by kmk_size)); intro D7 h7 F7 N7 l7; (try k_lt l7); (try k_sweep)))
  (k_with "newList" => (k_here; k_dflt (refine kltK (by k_asm) (by k_asm) ?_ (by size_fits)); intro D7 h7 F7 N7 l7; (try k_lt l7); (try k_sweep)))
  (k_with "steps9" => repeat' (first | (k_unfold; (try dsimp only)) | (k_end; wrow_close) | (walk1 <;> (try dsimp only)) | (dsimp only; walk1) | (leave1; walk_say "STEP leave1"; try dsimp only) | (with_reducible refine popN (by assumption) ?_) | (with_reducible refine popR (by assumption) ?_) | ((refine pop_ (by assumption) ?_); (try dsimp only)) | fail "no step"))
  (k_with "all9" => focus ((repeat (first | exact List.forall_mem_nil _ | with_reducible assumption | (refine List.forall_mem_cons.mpr ⟨by k_ne, ?_⟩))); done))
  (k_with "room9" => first | exact rl1 (by with_reducible assumption) (Nat.le_of_ble_eq_true rfl) | exact rl0 (by with_reducible assumption) (Nat.le_of_ble_eq_true rfl) | exact rl2 (by with_reducible assumption) (Nat.le_of_ble_eq_true rfl) | exact rlz (by assumption))
  (k_with "ne9" => (refine neN ?_; (try dsimp only); first | (refine Nat.ne_of_lt ?_; focus ((repeat (first | with_reducible assumption | exact cj0 (by with_reducible assumption) | exact cj1 (by with_reducible assumption) | exact cj2 (by with_reducible assumption) | exact cj3 (by with_reducible assumption) | exact cj4 (by with_reducible assumption) | exact cj5 (by with_reducible assumption) | exact cj6 (by with_reducible assumption) | exact cj7 (by with_reducible assumption) | exact cj8 (by with_reducible assumption) | exact cj9 (by with_reducible assumption) | exact cj10 (by with_reducible assumption) | exact cj11 (by with_reducible assumption) | exact cj12 (by with_reducible assumption) | exact cj13 (by with_reducible assumption) | exact cj14 (by with_reducible assumption) | exact cj15 (by with_reducible assumption) | (refine lt_tr (by with_reducible assumption) ?_))); done)) | (refine Nat.ne_of_gt ?_; focus ((repeat (first | with_reducible assumption | exact cj0 (by with_reducible assumption) | exact cj1 (by with_reducible assumption) | exact cj2 (by with_reducible assumption) | exact cj3 (by with_reducible assumption) | exact cj4 (by with_reducible assumption) | exact cj5 (by with_reducible assumption) | exact cj6 (by with_reducible assumption) | exact cj7 (by with_reducible assumption) | exact cj8 (by with_reducible assumption) | exact cj9 (by with_reducible assumption) | exact cj10 (by with_reducible assumption) | exact cj11 (by with_reducible assumption) | exact cj12 (by with_reducible assumption) | exact cj13 (by with_reducible assumption) | exact cj14 (by with_reducible assumption) | exact cj15 (by with_reducible assumption) | (refine lt_tr (by with_reducible assumption) ?_))); done))))
  (k_with "mem9" => focus ((repeat (first | with_reducible assumption | exact List.Mem.head _ | refine List.mem_cons_of_mem _ ?_)); done))
  trivial


theorem words_CV_44 : True := by
  (k_with "eval Call" => (((with_reducible show wpAny _ _ (eval (PySem.Expr.Call (PySem.Expr.Name _ _) _ [] _) _) _ _ _); k_dflt (refine Call_ ?_))))
  (k_with "eval Name" => ((k_here; k_dflt (first | (refine ld (by k_asm) (by exact rfl) ?_; k_whole) | (refine name_K (by k_asm) (by k_asm) (by k_asm) (by k_is) ?_; k_whole)))))
  trivial
section
variable {w : World} {news : List (Addr × Obj)} {kv : Value} {u : Bool} {lo hi : Int}

theorem words_CV_45 : True := by
  (k_with "exec Raise some none" => ((k_here; refine raise_fault rfl ?_)))
  (k_with "call ref" => ((k_here; (with_reducible show wpAny _ _ (call (Value.ref 45) _) _ _ _); k_dflt (refine fault_made (by k_asm) (by k_asm) (by k_asm) (by k_asm) (by k_asm) (rfl) (rfl) (by first | exact rfl | assumption) (by ktr_room) ?_; k_whole); intro e9 t9 h9 tk9 oe9 F9 N9 hc9 hd9 hn9; (try dsimp only))))
  (k_with "FaultRaised" => ((refine fault_raised (by k_asm) (by k_asm) (by k_asm) (by assumption) (by assumption) ?_)))
  (k_with "leaving ref" => ((k_here; first | (refine leave_fault (by k_asm) (by k_asm) (by k_asm) (by assumption) (by assumption) (by assumption) ?_ (rfl) (by first | exact rfl | assumption); intro h9 RS9 U9; (try dsimp only)) | (refine leave_onE (by k_asm) (by k_asm) (by assumption) (by assumption) ?_ (rfl); intro h9 RS9 U9; (try dsimp only)))))
  (k_with "compareOp Eq ref ref" => ((k_here; k_dflt (first | (refine teq11 (by k_asm) (by k_mem) (by k_mem) (by ktr_units) (by first | exact (by decide +kernel : _ = false) | exact (by decide +kernel : _ = true)) ?_; k_whole) | (refine teq22 (by k_asm) (by k_mem) (by k_mem) (by ktr_units) (by first | exact (by decide +kernel : _ = false) | exact (by decide +kernel : _ = true) | exact teq_int) ?_; k_whole) | (refine teq2r (by k_asm) (by k_mem) (by k_mem) (by k_mem) (by ktr_units) (by ktr_units) ?_; k_whole) | (refine teq12 (by k_asm) (by k_mem) (by k_mem) (by ktr_units) ?_; k_whole) | (refine teq21 (by k_asm) (by k_mem) (by k_mem) (by ktr_units) ?_; k_whole)))))
  (k_with "call ref" => (k_here; (with_reducible show wpAny _ _ (call (Value.ref 127) _) _ _ _); k_dflt (refine callsR_v (by k_asm) (by k_asm) (by k_asm) (by k_asm) (by k_asm) ?_; refine RestR.ledF _ _ _ sort_int_c (by first | exact rfl | assumption) (by ktr_room) (by ktr_units) ?_; k_whole); intro v9 h9 tk9 R9 F9 N9; obtain ⟨t9, e9⟩ := R9; subst e9; (try dsimp only); (try k_fold)))
  (k_with "call ref" => (k_here; (with_reducible show wpAny _ _ (call (Value.ref 84) _) _ _ _); k_dflt (refine callsR_v (by k_asm) (by k_asm) (by k_asm) (by k_asm) (by k_asm) ?_; refine RestR.eqF _ _ _ (repr_int_c (by assumption) (by k_mem)) (by first | exact rfl | assumption) (by ktr_room) (by ktr_units) ?_; k_whole); intro h9 tk9 F9 N9; (first | rw [decide_eq_true (by assumption)] | rw [decide_eq_false (by assumption)]); (try dsimp only); (try k_fold)))
  (k_with "call ref" => (k_here; (with_reducible show wpAny _ _ (call (Value.ref 142) _) _ _ _); k_dflt (refine callsR_v (by k_asm) (by k_asm) (by k_asm) (by k_asm) (by k_asm) ?_; refine RestR.ledF _ _ _ (rune_octets_c (by assumption)) (by first | exact rfl | assumption) (by ktr_room) (by ktr_units) ?_; k_whole); intro v9 h9 tk9 R9 F9 N9; obtain ⟨t9, e9⟩ := R9; subst e9; (try dsimp only); (try k_fold)))
  trivial
set_option maxHeartbeats 8000000 in
theorem conv_int_c {n : Int} {t t2 : Tok} {l : Addr} {x : PySem.Str} {tk : Tok} (hkv : KV (.str x tk) u lo hi) (hl : (l, tupO #[.str (PySem.Str.ofString "int") t2, .str x tk]) ∈ news) : CallsR 6 w 149 [.int n t, .ref l] news (fun v n' => ((kept lo hi n).Val v ∧ kept lo hi n ≠ .fault) ∧ n' = news) (kept lo hi n = .fault) := by
  w_on
  unfold CallsR
  k_fill
  intro p loose mean mg mb dp un gd cn cs fa ccd cl outer A₀ base h₀ L m hS gS dS tS oS Q E hB hF hX hN hT hk hd hu hret hrais
  refine wpAny_call ?_
  k_dflt (refine' code_def (binds := [(PySem.Str.ofString "value", .int n t), (PySem.Str.ofString "told", .ref l)]) ?k1 ?k2 ?k3 ?k4 ?k5 ?kA ?kF ?kK ?k6 ?k7 ?k8 ?k9 ?kB ?_ ?c2 ?c3 ?c4 ?c5; (case kA => exact rfl); (case kF => exact rfl); (case kK => assumption); (case k1 => k_asm); (case k2 => k_asm); (case k3 => k_asm); (case k4 => k_asm); (case k5 => k_asm); (case k6 => k_is); (case k7 => k_is); (case k8 => ktr_room); (case k9 => exact BindsTo.of_eq (by kernel_rfl)); (case c5 => decide); (case kB => exact locs rfl); (case c2 => exact rfl); (case c3 => exact rfl); (case c4 => exact rfl); k_whole; intro g' L' h' FG' F' N' B' X' T'; (try dsimp only [List.reverse_cons, List.reverse_nil, List.nil_append, List.cons_append, List.length_cons, List.length_nil] at F' ⊢); (try k_lift B'); (try k_fold))
  by_cases hb : lo ≤ n ∧ n ≤ hi
  all_goals k_steps
  · exact hret _ _ _ _ ⟨kept_in hb, rfl⟩ (by k_asm) (by first | k_asm | exact news_tl (by k_asm))
  · (refine' hrais _ _ _ _ ?_ ?_ ?_ (by first | assumption | exact raised_tl (by assumption) | exact raised_tl (raised_tl (by assumption)))) <;> first | assumption | k_asm | exact kept_out hb

set_option maxHeartbeats 8000000 in
theorem conv_rune_c {r : Int} {b : Array UInt8} {t t2 : Tok} {l : Addr} (hr : RuneOf r b) (hl : (l, tupO #[.str (PySem.Str.ofString "string") t2]) ∈ news) : CallsR 6 w 149 [.int r t, .ref l] news (fun v n' => (∃ t', v = .bytes b t') ∧ n' = news) False := by
  w_on
  unfold CallsR
  k_fill
  intro p loose mean mg mb dp un gd cn cs fa ccd cl outer A₀ base h₀ L m hS gS dS tS oS Q E hB hF hX hN hT hk hd hu hret hrais
  refine wpAny_call ?_
  k_dflt (refine' code_def (binds := [(PySem.Str.ofString "value", .int r t), (PySem.Str.ofString "told", .ref l)]) ?k1 ?k2 ?k3 ?k4 ?k5 ?kA ?kF ?kK ?k6 ?k7 ?k8 ?k9 ?kB ?_ ?c2 ?c3 ?c4 ?c5; (case kA => exact rfl); (case kF => exact rfl); (case kK => assumption); (case k1 => k_asm); (case k2 => k_asm); (case k3 => k_asm); (case k4 => k_asm); (case k5 => k_asm); (case k6 => k_is); (case k7 => k_is); (case k8 => ktr_room); (case k9 => exact BindsTo.of_eq (by kernel_rfl)); (case c5 => decide); (case kB => exact locs rfl); (case c2 => exact rfl); (case c3 => exact rfl); (case c4 => exact rfl); k_whole; intro g' L' h' FG' F' N' B' X' T'; (try dsimp only [List.reverse_cons, List.reverse_nil, List.nil_append, List.cons_append, List.length_cons, List.length_nil] at F' ⊢); (try k_lift B'); (try k_fold))
  k_steps
  exact hret _ _ _ _ ⟨⟨_, rfl⟩, rfl⟩ (by k_asm) (by first | k_asm | exact news_tl (by k_asm))

end
end

end

-- group 6
section

-- TE
section
theorem start_TE : True := by
  w_top off
  k_with_none
  (k_with "eval Constant str" => refine kstr ?_)
  (k_with "eval Constant int" => refine kint ?_)
  (k_with "eval Constant bytes" => refine kbyt ?_)
  (k_with "binaryOp Add int int" => with_reducible refine kadd ?_)
  (k_with "binaryOp Sub int int" => with_reducible refine ksub ?_)
  (k_with "unaryOp USub int" => with_reducible refine kneg ?_)
  (k_with "storeName" => (k_here; k_dflt (refine kstL (by k_asm) (by k_asm) ?_ (rfl) (rfl); k_whole; intro h9 F9 N9; (try k_sweep))))
  (k_with "newTuple" => (k_here; k_dflt (refine ktuK (by k_asm) (by k_asm) ?_ (by kmk_size)); intro D7 h7 F7 N7 l7; (try k_lt l7); (try k_sweep)))
  (k_with "newList" => (k_here; k_dflt (refine kltK (by k_asm) (by k_asm) ?_ (by size_fits)); intro D7 h7 F7 N7 l7; (try k_lt l7); (try k_sweep)))
  (k_with "steps9" => repeat' (first | (k_unfold; (try dsimp only)) | (k_end; wrow_close) | (walk1 <;> (try dsimp only)) | (dsimp only; walk1) | (leave1; walk_say "STEP leave1"; try dsimp only) | (with_reducible refine popN (by assumption) ?_) | (with_reducible refine popR (by assumption) ?_) | ((refine pop_ (by assumption) ?_); (try dsimp only)) | fail "no step"))
  (k_with "all9" => focus ((repeat (first | exact List.forall_mem_nil _ | with_reducible assumption | (refine List.forall_mem_cons.mpr ⟨by k_ne, ?_⟩))); done))
  (k_with "room9" => first | exact rl1 (by with_reducible assumption) (Nat.le_of_ble_eq_true rfl) | exact rl0 (by with_reducible assumption) (Nat.le_of_ble_eq_true rfl) | exact rl2 (by with_reducible assumption) (Nat.le_of_ble_eq_true rfl) | exact rlz (by assumption))
  (k_with "ne9" => (refine neN ?_; (try dsimp only); first | (refine Nat.ne_of_lt ?_; focus ((repeat (first | with_reducible assumption | exact cj0 (by with_reducible assumption) | exact cj1 (by with_reducible assumption) | exact cj2 (by with_reducible assumption) | exact cj3 (by with_reducible assumption) | exact cj4 (by with_reducible assumption) | exact cj5 (by with_reducible assumption) | exact cj6 (by with_reducible assumption) | exact cj7 (by with_reducible assumption) | exact cj8 (by with_reducible assumption) | exact cj9 (by with_reducible assumption) | exact cj10 (by with_reducible assumption) | exact cj11 (by with_reducible assumption) | exact cj12 (by with_reducible assumption) | exact cj13 (by with_reducible assumption) | exact cj14 (by with_reducible assumption) | exact cj15 (by with_reducible assumption) | (refine lt_tr (by with_reducible assumption) ?_))); done)) | (refine Nat.ne_of_gt ?_; focus ((repeat (first | with_reducible assumption | exact cj0 (by with_reducible assumption) | exact cj1 (by with_reducible assumption) | exact cj2 (by with_reducible assumption) | exact cj3 (by with_reducible assumption) | exact cj4 (by with_reducible assumption) | exact cj5 (by with_reducible assumption) | exact cj6 (by with_reducible assumption) | exact cj7 (by with_reducible assumption) | exact cj8 (by with_reducible assumption) | exact cj9 (by with_reducible assumption) | exact cj10 (by with_reducible assumption) | exact cj11 (by with_reducible assumption) | exact cj12 (by with_reducible assumption) | exact cj13 (by with_reducible assumption) | exact cj14 (by with_reducible assumption) | exact cj15 (by with_reducible assumption) | (refine lt_tr (by with_reducible assumption) ?_))); done))))
  (k_with "mem9" => focus ((repeat (first | with_reducible assumption | exact List.mem_append_left _ (by with_reducible assumption) | exact List.mem_append_right _ (by with_reducible assumption) | exact List.Mem.head _ | refine List.Mem.tail _ ?_)); done))
  trivial


theorem words_TE_46 : True := by
  (k_with "eval Call" => (((with_reducible show wpAny _ _ (eval (PySem.Expr.Call (PySem.Expr.Name _ _) _ [] _) _) _ _ _); k_dflt (refine Call_ ?_))))
  trivial
theorem callsS_use {k : Nat} {w : World} {f : Addr} {vs : List Value} {news : List (Addr × Obj)} {Ret : Value → List (Addr × Obj) → Prop} {p : Program} {loose : List PySem.Str} {mean : ExcName → Option Value} {mg mb : PySem.Str → Option Value} {dp un : Nat} {gd : Option (List Code)} {cn : PySem.Str} {cs : Scope} {a : Addr} {ccd : Value} {cl : List (PySem.Str × Addr)} {outer : List Env} {A₀ : Around} {base g₀ h₀ : Heap} {L : Addr} {m : PySem.Str → Option Value} {hS : Heap} {gS : Array GenState} {dS : Drawn} {tS : Nat} {oS : OsState} {Q E : Value → Shared → Prop}
    (C : CallsS k w f vs news Ret) (B : Below A₀ base outer h₀) (F : Fr h₀ L hS m) (X : (Mine.hd.heap_39 w.params).In h₀) (N : News h₀ L hS news) (T : Top p loose mean mg mb h₀) (XB : (Mine.hd.heap_39 w.params).In base) (TB : Top p loose mean mg mb base) (D : KtsDicts (frs outer) h₀) (T0 : KtsTurn (frs outer) g₀ h₀) (hk : cs.kind = .function)
    (hd : dp + k < recursionLimit) (hu : un + 20 * k < cLine)
    (hret : ∀ v news' h' tk' h₀', Ret v news' → KtsTurn (frs outer) g₀ h₀' → Fr h₀' L h' m → News h₀' L h' news' → Below A₀ base outer h₀' → (Mine.hd.heap_39 w.params).In h₀' → Top p loose mean mg mb h₀' → KtsDicts (frs outer) h₀' → Q v ⟨h', gS, dS, tk', oS⟩) :
    wpAny (model Challenge.rw_on0013_01.row.prog w) (ktrTop dp un gd cn cs L a ccd cl outer) (call (.ref f) vs) Q E ⟨hS, gS, dS, tS, oS⟩ :=
  C _ _ _ _ _ _ _ _ _ _ _ _ _ _ _ _ _ _ _ _ _ _ _ _ _ _ _ B F X N T XB TB D T0 hk hd hu hret
theorem callsS_ret {k : Nat} {w : World} {f : Addr} {vs : List Value} {n₂ : List (Addr × Obj)} {R R' : Value → List (Addr × Obj) → Prop} (C : CallsS k w f vs n₂ R) (h : ∀ v n, R v n → R' v n) : CallsS k w f vs n₂ R' :=
  fun p loose mean mg mb dp un gd cn cs fa ccd cl outer A₀ base g₀ h₀ L m hS gS dS tS oS Q E hB hF hX hN hT hXB hTB hD hT0 hk hd hu hret =>
    C p loose mean mg mb dp un gd cn cs fa ccd cl outer A₀ base g₀ h₀ L m hS gS dS tS oS Q E hB hF hX hN hT hXB hTB hD hT0 hk hd hu (fun v n' h' tk' h₀' r => hret v n' h' tk' h₀' (h v n' r))
/-- what told says of a reckoning -/
theorem told_res {k : Nat} {w : World} {f : Addr} {news : List (Addr × Obj)} {r : Res} {fd : FuncData} {sl : Array (Option Value)} (hfo : (f, { cls := .type "function", data := .func fd, slots := sl }) ∈ news)
    (C : CallsR k w f [] news (fun v n' => (r.Val v ∧ r ≠ .fault) ∧ n' = news) (r = .fault)) : CallsS (k + 1) w 213 [.ref f] news (fun v n' => r.Val v ∧ n' = news) :=
  callsS_ret (told_c hfo C) fun v n h => by
    rcases h with ⟨⟨h, _⟩, e⟩ | ⟨rfl, h, e⟩
    · exact ⟨h, e⟩
    · exact ⟨h, e⟩
inductive RestS (w : World) (f : Addr) (vs : List Value) (news : List (Addr × Obj)) (p : Program) (loose : List PySem.Str) (mean : ExcName → Option Value) (mg mb : PySem.Str → Option Value) (dp un : Nat) (gd : Option (List Code)) (cn : PySem.Str) (cs : Scope) (a : Addr) (ccd : Value) (cl : List (PySem.Str × Addr)) (outer : List Env) (A₀ : Around) (base g₀ h₀ : Heap) (L : Addr) (m : PySem.Str → Option Value) (hp : Heap) (gn : Array GenState) (dr : Drawn) (tk9 : Nat) (os9 : OsState) (Q E : Value → Shared → Prop) : Prop
  | mk (k : Nat) (Ret : Value → List (Addr × Obj) → Prop) (r0 : CallsS k w f vs news Ret) (r1 : cs.kind = .function) (r2 : dp + k < recursionLimit) (r3 : un + 20 * k < cLine) (r4 : (∀ v news' h' tk' h₀', Ret v news' → KtsTurn (frs outer) g₀ h₀' → Fr h₀' L h' m → News h₀' L h' news' → Below A₀ base outer h₀' → (Mine.hd.heap_39 w.params).In h₀' → Top p loose mean mg mb h₀' → KtsDicts (frs outer) h₀' → Q v ⟨h', gn, dr, tk', os9⟩)) : RestS w f vs news p loose mean mg mb dp un gd cn cs a ccd cl outer A₀ base g₀ h₀ L m hp gn dr tk9 os9 Q E
  | led (k : Nat) (R : Value → Prop) (N : List (Addr × Obj)) (r0 : CallsS k w f vs news (fun v n' => R v ∧ n' = N)) (r1 : cs.kind = .function) (r2 : dp + k < recursionLimit) (r3 : un + 20 * k < cLine) (r4 : (∀ v h' tk' h₀', R v → KtsTurn (frs outer) g₀ h₀' → Fr h₀' L h' m → News h₀' L h' N → Below A₀ base outer h₀' → (Mine.hd.heap_39 w.params).In h₀' → Top p loose mean mg mb h₀' → KtsDicts (frs outer) h₀' → Q v ⟨h', gn, dr, tk', os9⟩)) : RestS w f vs news p loose mean mg mb dp un gd cn cs a ccd cl outer A₀ base g₀ h₀ L m hp gn dr tk9 os9 Q E
theorem callsS_v {w : World} {f : Addr} {vs : List Value} {news : List (Addr × Obj)} {p : Program} {loose : List PySem.Str} {mean : ExcName → Option Value} {mg mb : PySem.Str → Option Value} {dp un : Nat} {gd : Option (List Code)} {cn : PySem.Str} {cs : Scope} {a : Addr} {ccd : Value} {cl : List (PySem.Str × Addr)} {outer : List Env} {A₀ : Around} {base g₀ h₀ : Heap} {L : Addr} {m : PySem.Str → Option Value} {hp : Heap} {gn : Array GenState} {dr : Drawn} {tk9 : Nat} {os9 : OsState} {Q E : Value → Shared → Prop}
    (B : Below A₀ base outer h₀) (F : Fr h₀ L hp m) (X : (Mine.hd.heap_39 w.params).In h₀) (N : News h₀ L hp news) (T : Top p loose mean mg mb h₀) (XB : (Mine.hd.heap_39 w.params).In base) (TB : Top p loose mean mg mb base) (D : KtsDicts (frs outer) h₀) (T0 : KtsTurn (frs outer) g₀ h₀) (H : RestS w f vs news p loose mean mg mb dp un gd cn cs a ccd cl outer A₀ base g₀ h₀ L m hp gn dr tk9 os9 Q E) : wpAny (model Challenge.rw_on0013_01.row.prog w) (ktrTop dp un gd cn cs L a ccd cl outer) (call (.ref f) vs) Q E ⟨hp, gn, dr, tk9, os9⟩ := by
  cases H with
  | mk k Ret C hk hd hu h1 => exact callsS_use C B F X N T XB TB D T0 hk hd hu h1
  | led k R N' C hk hd hu h1 => exact callsS_use C B F X N T XB TB D T0 hk hd hu (fun v n h t g r T F N B X P D => by obtain ⟨r, rfl⟩ := r; exact h1 v h t g r T F N B X P D)
section
variable {w : World} {news : List (Addr × Obj)} {kv : Value} {u : Bool} {lo hi : Int}

theorem words_TE_47 : True := by
  (k_with "eval Name" => ((k_here; k_dflt (refine nameX_F (by k_asm) (by exact rfl) (by assumption) (by assumption) ?_ (rfl) (rfl); k_whole))))
  (k_with "exec Raise some none" => ((k_here; refine raise_fault rfl ?_)))
  (k_with "call ref" => ((k_here; (with_reducible show wpAny _ _ (call (Value.ref 45) _) _ _ _); k_dflt (refine fault_made (by k_asm) (by k_asm) (by k_asm) (by k_asm) (by k_asm) (rfl) (rfl) (by first | exact rfl | assumption) (by ktr_room) ?_; k_whole); intro e9 t9 h9 tk9 oe9 F9 N9 hc9 hd9 hn9; (try dsimp only))))
  (k_with "FaultRaised" => ((refine fault_raised (by k_asm) (by k_asm) (by k_asm) (by assumption) (by assumption) ?_)))
  (k_with "leaving ref" => ((k_here; first | (refine leave_fault (by k_asm) (by k_asm) (by k_asm) (by assumption) (by assumption) (by assumption) ?_ (rfl) (by first | exact rfl | assumption); intro h9 RS9 U9; (try dsimp only)) | (refine leave_onE (by k_asm) (by k_asm) (by assumption) (by assumption) ?_ (rfl); intro h9 RS9 U9; (try dsimp only)))))
  (k_with "call ref" => (k_here; (with_reducible show wpAny _ _ (call (Value.ref 135) _) _ _ _); k_dflt (refine callsR_v (by k_asm) (by k_asm) (by k_asm) (by k_asm) (by k_asm) ?_; refine RestR.led _ _ _ _ (binary_c (by assumption) (by assumption) (by assumption) (by assumption)) (by first | exact rfl | assumption) (by ktr_room) (by ktr_units) ?_ ?_; k_whole); rotate_left; intro e9 g9 h9 tk9 R9 FG9 U9 RS9; (try dsimp only); rotate_left; intro v9 h9 tk9 R9 F9 N9; (try dsimp only); (try k_fold)))
  trivial
set_option maxHeartbeats 8000000 in
theorem lam_bin {a b : Int} {ta tb to : Tok} {o : Op} {f c' c_a c_b c_kind c_op : Addr} {o_a o_b o_kind o_op oc : Obj} {vs : Array Value} {qual : PySem.Str} {pm ctv : Value} {t : Tok} {q0 q1 q2 q3 q4 q5 : Pos} (hf : (f, kla_obj "<lambda>" qual ⟨[], [], none, [], [], none, []⟩ (PySem.Expr.Call (PySem.Expr.Name (PySem.Str.ofString "const_binary") q0) [PySem.Expr.Name (PySem.Str.ofString "op") q2, PySem.Expr.Name (PySem.Str.ofString "a") q3, PySem.Expr.Name (PySem.Str.ofString "b") q4, PySem.Expr.Name (PySem.Str.ofString "kind") q5] [] q1) { kind := .function, names := [(PySem.Str.ofString "a", NameKind.free), (PySem.Str.ofString "b", NameKind.free), (PySem.Str.ofString "kind", NameKind.free), (PySem.Str.ofString "op", NameKind.free), (PySem.Str.ofString "const_binary", NameKind.globalImplicit)], isGenerator := false, isCoroutine := false } [(PySem.Str.ofString "op", c_op), (PySem.Str.ofString "kind", c_kind), (PySem.Str.ofString "b", c_b), (PySem.Str.ofString "a", c_a)] pm c' ctv) ∈ news) (hc : (c', oc) ∈ news) (hcd : oc.data = .fields vs) (hcv : vs[1]? = some (.str qual t)) (m_a : (c_a, o_a) ∈ news) (d_a : o_a.data = .cell (some (.int a ta))) (m_b : (c_b, o_b) ∈ news) (d_b : o_b.data = .cell (some (.int b tb))) (m_kind : (c_kind, o_kind) ∈ news) (d_kind : o_kind.data = .cell (some kv)) (m_op : (c_op, o_op) ∈ news) (d_op : o_op.data = .cell (some (.str o.text to))) (hkn : KN kv u lo hi) (hm : IntMulOk a b) (hm2 : IntMulOk b (a.tdiv b)) (hb : b.natAbs.log2 < 9000) : CallsR 10 w f [] news (fun v n' => ((spec o a b lo hi).Val v ∧ spec o a b lo hi ≠ .fault) ∧ n' = news) (spec o a b lo hi = .fault) := by
  w_on
  unfold CallsR
  k_fill
  intro p loose mean mg mb dp un gd cn cs fa ccd cl outer A₀ base h₀ L m hS gS dS tS oS Q E hB hF hX hN hT hk hd hu hret hrais
  refine wpAny_call ?_
  k_dflt (refine' kla_code ?k1 ?k2 ?k3 ?k4 ?k5 ?kA ?kF ?kK ?k6 ?k7 ?k8 ?k9 ?kB ?_ ?c2 ?c3 ?c4 ?c5; (case kA => exact rfl); (case kF => exact rfl); (case kK => assumption); (case k1 => k_asm); (case k2 => k_asm); (case k3 => k_asm); (case k4 => k_asm); (case k5 => k_asm); (case k6 => exact hf); (case k7 => exact codeRec_news (by k_asm) hc hcd hcv); (case k8 => ktr_room); (case k9 => exact rfl); (case c5 => decide); (case kB => exact locs rfl); (case c2 => exact rfl); (case c3 => exact rfl); (case c4 => exact rfl); k_whole; intro g' L' h' FG' F' N' B' X' T'; (try dsimp only); (try k_lift B'); (try k_fold))
  k_steps
  all_goals first
      | exact hret _ _ _ _ ⟨by assumption, rfl⟩ (by k_asm) (by first | k_asm | exact news_tl (by k_asm) | exact news_tl (news_tl (by k_asm)))
      | ((refine' hrais _ _ _ _ ?_ ?_ ?_ (by first | assumption | exact raised_tl (by assumption) | exact raised_tl (raised_tl (by assumption)))) <;> first | assumption | k_asm)
      | contradiction
      | trace_state


theorem told_bin {a b : Int} {ta tb to : Tok} {o : Op} {f c' c_a c_b c_kind c_op : Addr} {o_a o_b o_kind o_op oc : Obj} {vs : Array Value} {qual : PySem.Str} {pm ctv : Value} {t : Tok} {q0 q1 q2 q3 q4 q5 : Pos} (hf : (f, kla_obj "<lambda>" qual ⟨[], [], none, [], [], none, []⟩ (PySem.Expr.Call (PySem.Expr.Name (PySem.Str.ofString "const_binary") q0) [PySem.Expr.Name (PySem.Str.ofString "op") q2, PySem.Expr.Name (PySem.Str.ofString "a") q3, PySem.Expr.Name (PySem.Str.ofString "b") q4, PySem.Expr.Name (PySem.Str.ofString "kind") q5] [] q1) { kind := .function, names := [(PySem.Str.ofString "a", NameKind.free), (PySem.Str.ofString "b", NameKind.free), (PySem.Str.ofString "kind", NameKind.free), (PySem.Str.ofString "op", NameKind.free), (PySem.Str.ofString "const_binary", NameKind.globalImplicit)], isGenerator := false, isCoroutine := false } [(PySem.Str.ofString "op", c_op), (PySem.Str.ofString "kind", c_kind), (PySem.Str.ofString "b", c_b), (PySem.Str.ofString "a", c_a)] pm c' ctv) ∈ news) (hc : (c', oc) ∈ news) (hcd : oc.data = .fields vs) (hcv : vs[1]? = some (.str qual t)) (m_a : (c_a, o_a) ∈ news) (d_a : o_a.data = .cell (some (.int a ta))) (m_b : (c_b, o_b) ∈ news) (d_b : o_b.data = .cell (some (.int b tb))) (m_kind : (c_kind, o_kind) ∈ news) (d_kind : o_kind.data = .cell (some kv)) (m_op : (c_op, o_op) ∈ news) (d_op : o_op.data = .cell (some (.str o.text to))) (hkn : KN kv u lo hi) (hm : IntMulOk a b) (hm2 : IntMulOk b (a.tdiv b)) (hb : b.natAbs.log2 < 9000) : CallsS 11 w 213 [.ref f] news (fun v n' => (spec o a b lo hi).Val v ∧ n' = news) :=
  told_res hf (lam_bin hf hc hcd hcv m_a d_a m_b d_b m_kind d_kind m_op d_op hkn hm hm2 hb)
theorem words_TE_48 : True := by
  (k_with "call ref" => (k_here; (with_reducible show wpAny _ _ (call (Value.ref 135) _) _ _ _); k_dflt (refine callsR_v (by k_asm) (by k_asm) (by k_asm) (by k_asm) (by k_asm) ?_; refine RestR.led _ _ _ _ (shl_c (by assumption) (by assumption) (by assumption)) (by first | exact rfl | assumption) (by ktr_room) (by ktr_units) ?_ ?_; k_whole); rotate_left; intro e9 g9 h9 tk9 R9 FG9 U9 RS9; (try dsimp only); rotate_left; intro v9 h9 tk9 R9 F9 N9; (try dsimp only); (try k_fold)))
  trivial
set_option maxHeartbeats 8000000 in
theorem lam_shl {a n : Int} {ta tb : Tok} {z0 : Nat} {f c' c_a c_kind c_many : Addr} {o_a o_kind o_many oc : Obj} {vs : Array Value} {qual : PySem.Str} {pm ctv : Value} {t : Tok} {q0 q1 q2 q3 q4 q5 : Pos} (hf : (f, kla_obj "<lambda>" qual ⟨[], [], none, [], [], none, []⟩ (PySem.Expr.Call (PySem.Expr.Name (PySem.Str.ofString "const_binary") q0) [PySem.Expr.Constant (PySem.Const.str (PySem.Str.ofString "<<")) z0 q2, PySem.Expr.Name (PySem.Str.ofString "a") q3, PySem.Expr.Name (PySem.Str.ofString "many") q4, PySem.Expr.Name (PySem.Str.ofString "kind") q5] [] q1) { kind := .function, names := [(PySem.Str.ofString "a", NameKind.free), (PySem.Str.ofString "kind", NameKind.free), (PySem.Str.ofString "many", NameKind.free), (PySem.Str.ofString "const_binary", NameKind.globalImplicit)], isGenerator := false, isCoroutine := false } [(PySem.Str.ofString "many", c_many), (PySem.Str.ofString "kind", c_kind), (PySem.Str.ofString "a", c_a)] pm c' ctv) ∈ news) (hc : (c', oc) ∈ news) (hcd : oc.data = .fields vs) (hcv : vs[1]? = some (.str qual t)) (m_a : (c_a, o_a) ∈ news) (d_a : o_a.data = .cell (some (.int a ta))) (m_kind : (c_kind, o_kind) ∈ news) (d_kind : o_kind.data = .cell (some kv)) (m_many : (c_many, o_many) ∈ news) (d_many : o_many.data = .cell (some (.int n tb))) (hkn : KN kv u lo hi) (ha : -18446744073709551616 < a) (ha2 : a < 18446744073709551616) : CallsR 10 w f [] news (fun v n' => ((shl a n lo hi).Val v ∧ shl a n lo hi ≠ .fault) ∧ n' = news) (shl a n lo hi = .fault) := by
  w_on
  unfold CallsR
  k_fill
  intro p loose mean mg mb dp un gd cn cs fa ccd cl outer A₀ base h₀ L m hS gS dS tS oS Q E hB hF hX hN hT hk hd hu hret hrais
  refine wpAny_call ?_
  k_dflt (refine' kla_code ?k1 ?k2 ?k3 ?k4 ?k5 ?kA ?kF ?kK ?k6 ?k7 ?k8 ?k9 ?kB ?_ ?c2 ?c3 ?c4 ?c5; (case kA => exact rfl); (case kF => exact rfl); (case kK => assumption); (case k1 => k_asm); (case k2 => k_asm); (case k3 => k_asm); (case k4 => k_asm); (case k5 => k_asm); (case k6 => exact hf); (case k7 => exact codeRec_news (by k_asm) hc hcd hcv); (case k8 => ktr_room); (case k9 => exact rfl); (case c5 => decide); (case kB => exact locs rfl); (case c2 => exact rfl); (case c3 => exact rfl); (case c4 => exact rfl); k_whole; intro g' L' h' FG' F' N' B' X' T'; (try dsimp only); (try k_lift B'); (try k_fold))
  k_steps
  all_goals first
      | exact hret _ _ _ _ ⟨by assumption, rfl⟩ (by k_asm) (by first | k_asm | exact news_tl (by k_asm) | exact news_tl (news_tl (by k_asm)))
      | ((refine' hrais _ _ _ _ ?_ ?_ ?_ (by first | assumption | exact raised_tl (by assumption) | exact raised_tl (raised_tl (by assumption)))) <;> first | assumption | k_asm)
      | contradiction
      | trace_state


theorem told_shl {a n : Int} {ta tb : Tok} {z0 : Nat} {f c' c_a c_kind c_many : Addr} {o_a o_kind o_many oc : Obj} {vs : Array Value} {qual : PySem.Str} {pm ctv : Value} {t : Tok} {q0 q1 q2 q3 q4 q5 : Pos} (hf : (f, kla_obj "<lambda>" qual ⟨[], [], none, [], [], none, []⟩ (PySem.Expr.Call (PySem.Expr.Name (PySem.Str.ofString "const_binary") q0) [PySem.Expr.Constant (PySem.Const.str (PySem.Str.ofString "<<")) z0 q2, PySem.Expr.Name (PySem.Str.ofString "a") q3, PySem.Expr.Name (PySem.Str.ofString "many") q4, PySem.Expr.Name (PySem.Str.ofString "kind") q5] [] q1) { kind := .function, names := [(PySem.Str.ofString "a", NameKind.free), (PySem.Str.ofString "kind", NameKind.free), (PySem.Str.ofString "many", NameKind.free), (PySem.Str.ofString "const_binary", NameKind.globalImplicit)], isGenerator := false, isCoroutine := false } [(PySem.Str.ofString "many", c_many), (PySem.Str.ofString "kind", c_kind), (PySem.Str.ofString "a", c_a)] pm c' ctv) ∈ news) (hc : (c', oc) ∈ news) (hcd : oc.data = .fields vs) (hcv : vs[1]? = some (.str qual t)) (m_a : (c_a, o_a) ∈ news) (d_a : o_a.data = .cell (some (.int a ta))) (m_kind : (c_kind, o_kind) ∈ news) (d_kind : o_kind.data = .cell (some kv)) (m_many : (c_many, o_many) ∈ news) (d_many : o_many.data = .cell (some (.int n tb))) (hkn : KN kv u lo hi) (ha : -18446744073709551616 < a) (ha2 : a < 18446744073709551616) : CallsS 11 w 213 [.ref f] news (fun v n' => (shl a n lo hi).Val v ∧ n' = news) :=
  told_res hf (lam_shl hf hc hcd hcv m_a d_a m_kind d_kind m_many d_many hkn ha ha2)
theorem words_TE_49 : True := by
  (k_with "call ref" => (k_here; (with_reducible show wpAny _ _ (call (Value.ref 135) _) _ _ _); k_dflt (refine callsR_v (by k_asm) (by k_asm) (by k_asm) (by k_asm) (by k_asm) ?_; refine RestR.led _ _ _ _ (shr_c (by assumption)) (by first | exact rfl | assumption) (by ktr_room) (by ktr_units) ?_ ?_; k_whole); rotate_left; intro e9 g9 h9 tk9 R9 FG9 U9 RS9; (try dsimp only); rotate_left; intro v9 h9 tk9 R9 F9 N9; (try dsimp only); (try k_fold)))
  trivial
set_option maxHeartbeats 8000000 in
theorem lam_shr {a n : Int} {ta tb : Tok} {z0 : Nat} {f c' c_a c_kind c_many : Addr} {o_a o_kind o_many oc : Obj} {vs : Array Value} {qual : PySem.Str} {pm ctv : Value} {t : Tok} {q0 q1 q2 q3 q4 q5 : Pos} (hf : (f, kla_obj "<lambda>" qual ⟨[], [], none, [], [], none, []⟩ (PySem.Expr.Call (PySem.Expr.Name (PySem.Str.ofString "const_binary") q0) [PySem.Expr.Constant (PySem.Const.str (PySem.Str.ofString ">>")) z0 q2, PySem.Expr.Name (PySem.Str.ofString "a") q3, PySem.Expr.Name (PySem.Str.ofString "many") q4, PySem.Expr.Name (PySem.Str.ofString "kind") q5] [] q1) { kind := .function, names := [(PySem.Str.ofString "a", NameKind.free), (PySem.Str.ofString "kind", NameKind.free), (PySem.Str.ofString "many", NameKind.free), (PySem.Str.ofString "const_binary", NameKind.globalImplicit)], isGenerator := false, isCoroutine := false } [(PySem.Str.ofString "many", c_many), (PySem.Str.ofString "kind", c_kind), (PySem.Str.ofString "a", c_a)] pm c' ctv) ∈ news) (hc : (c', oc) ∈ news) (hcd : oc.data = .fields vs) (hcv : vs[1]? = some (.str qual t)) (m_a : (c_a, o_a) ∈ news) (d_a : o_a.data = .cell (some (.int a ta))) (m_kind : (c_kind, o_kind) ∈ news) (d_kind : o_kind.data = .cell (some kv)) (m_many : (c_many, o_many) ∈ news) (d_many : o_many.data = .cell (some (.int n tb))) (hkn : KN kv u lo hi) : CallsR 10 w f [] news (fun v n' => ((shr a n lo hi).Val v ∧ shr a n lo hi ≠ .fault) ∧ n' = news) (shr a n lo hi = .fault) := by
  w_on
  unfold CallsR
  k_fill
  intro p loose mean mg mb dp un gd cn cs fa ccd cl outer A₀ base h₀ L m hS gS dS tS oS Q E hB hF hX hN hT hk hd hu hret hrais
  refine wpAny_call ?_
  k_dflt (refine' kla_code ?k1 ?k2 ?k3 ?k4 ?k5 ?kA ?kF ?kK ?k6 ?k7 ?k8 ?k9 ?kB ?_ ?c2 ?c3 ?c4 ?c5; (case kA => exact rfl); (case kF => exact rfl); (case kK => assumption); (case k1 => k_asm); (case k2 => k_asm); (case k3 => k_asm); (case k4 => k_asm); (case k5 => k_asm); (case k6 => exact hf); (case k7 => exact codeRec_news (by k_asm) hc hcd hcv); (case k8 => ktr_room); (case k9 => exact rfl); (case c5 => decide); (case kB => exact locs rfl); (case c2 => exact rfl); (case c3 => exact rfl); (case c4 => exact rfl); k_whole; intro g' L' h' FG' F' N' B' X' T'; (try dsimp only); (try k_lift B'); (try k_fold))
  k_steps
  all_goals first
      | exact hret _ _ _ _ ⟨by assumption, rfl⟩ (by k_asm) (by first | k_asm | exact news_tl (by k_asm) | exact news_tl (news_tl (by k_asm)))
      | ((refine' hrais _ _ _ _ ?_ ?_ ?_ (by first | assumption | exact raised_tl (by assumption) | exact raised_tl (raised_tl (by assumption)))) <;> first | assumption | k_asm)
      | contradiction
      | trace_state


theorem told_shr {a n : Int} {ta tb : Tok} {z0 : Nat} {f c' c_a c_kind c_many : Addr} {o_a o_kind o_many oc : Obj} {vs : Array Value} {qual : PySem.Str} {pm ctv : Value} {t : Tok} {q0 q1 q2 q3 q4 q5 : Pos} (hf : (f, kla_obj "<lambda>" qual ⟨[], [], none, [], [], none, []⟩ (PySem.Expr.Call (PySem.Expr.Name (PySem.Str.ofString "const_binary") q0) [PySem.Expr.Constant (PySem.Const.str (PySem.Str.ofString ">>")) z0 q2, PySem.Expr.Name (PySem.Str.ofString "a") q3, PySem.Expr.Name (PySem.Str.ofString "many") q4, PySem.Expr.Name (PySem.Str.ofString "kind") q5] [] q1) { kind := .function, names := [(PySem.Str.ofString "a", NameKind.free), (PySem.Str.ofString "kind", NameKind.free), (PySem.Str.ofString "many", NameKind.free), (PySem.Str.ofString "const_binary", NameKind.globalImplicit)], isGenerator := false, isCoroutine := false } [(PySem.Str.ofString "many", c_many), (PySem.Str.ofString "kind", c_kind), (PySem.Str.ofString "a", c_a)] pm c' ctv) ∈ news) (hc : (c', oc) ∈ news) (hcd : oc.data = .fields vs) (hcv : vs[1]? = some (.str qual t)) (m_a : (c_a, o_a) ∈ news) (d_a : o_a.data = .cell (some (.int a ta))) (m_kind : (c_kind, o_kind) ∈ news) (d_kind : o_kind.data = .cell (some kv)) (m_many : (c_many, o_many) ∈ news) (d_many : o_many.data = .cell (some (.int n tb))) (hkn : KN kv u lo hi) : CallsS 11 w 213 [.ref f] news (fun v n' => (shr a n lo hi).Val v ∧ n' = news) :=
  told_res hf (lam_shr hf hc hcd hcv m_a d_a m_kind d_kind m_many d_many hkn)
theorem words_TE_50 : True := by
  (k_with "call ref" => (k_here; (with_reducible show wpAny _ _ (call (Value.ref 92) _) _ _ _); k_dflt (refine callsR_v (by k_asm) (by k_asm) (by k_asm) (by k_asm) (by k_asm) ?_; refine RestR.led _ _ _ _ (neg_c (by assumption)) (by first | exact rfl | assumption) (by ktr_room) (by ktr_units) ?_ ?_; k_whole); rotate_left; intro e9 g9 h9 tk9 R9 FG9 U9 RS9; (try dsimp only); rotate_left; intro v9 h9 tk9 R9 F9 N9; (try dsimp only); (try k_fold)))
  trivial
set_option maxHeartbeats 8000000 in
theorem lam_neg {a : Int} {ta : Tok} {z0 : Nat} {f c' c_a c_kind : Addr} {o_a o_kind oc : Obj} {vs : Array Value} {qual : PySem.Str} {pm ctv : Value} {t : Tok} {q0 q1 q2 q3 q4 : Pos} (hf : (f, kla_obj "<lambda>" qual ⟨[], [], none, [], [], none, []⟩ (PySem.Expr.Call (PySem.Expr.Name (PySem.Str.ofString "const_unary") q0) [PySem.Expr.Constant (PySem.Const.str (PySem.Str.ofString "-")) z0 q2, PySem.Expr.Name (PySem.Str.ofString "a") q3, PySem.Expr.Name (PySem.Str.ofString "kind") q4] [] q1) { kind := .function, names := [(PySem.Str.ofString "a", NameKind.free), (PySem.Str.ofString "kind", NameKind.free), (PySem.Str.ofString "const_unary", NameKind.globalImplicit)], isGenerator := false, isCoroutine := false } [(PySem.Str.ofString "kind", c_kind), (PySem.Str.ofString "a", c_a)] pm c' ctv) ∈ news) (hc : (c', oc) ∈ news) (hcd : oc.data = .fields vs) (hcv : vs[1]? = some (.str qual t)) (m_a : (c_a, o_a) ∈ news) (d_a : o_a.data = .cell (some (.int a ta))) (m_kind : (c_kind, o_kind) ∈ news) (d_kind : o_kind.data = .cell (some kv)) (hkn : KN kv u lo hi) : CallsR 10 w f [] news (fun v n' => (((kept lo hi (0 - a))).Val v ∧ (kept lo hi (0 - a)) ≠ .fault) ∧ n' = news) ((kept lo hi (0 - a)) = .fault) := by
  w_on
  unfold CallsR
  k_fill
  intro p loose mean mg mb dp un gd cn cs fa ccd cl outer A₀ base h₀ L m hS gS dS tS oS Q E hB hF hX hN hT hk hd hu hret hrais
  refine wpAny_call ?_
  k_dflt (refine' kla_code ?k1 ?k2 ?k3 ?k4 ?k5 ?kA ?kF ?kK ?k6 ?k7 ?k8 ?k9 ?kB ?_ ?c2 ?c3 ?c4 ?c5; (case kA => exact rfl); (case kF => exact rfl); (case kK => assumption); (case k1 => k_asm); (case k2 => k_asm); (case k3 => k_asm); (case k4 => k_asm); (case k5 => k_asm); (case k6 => exact hf); (case k7 => exact codeRec_news (by k_asm) hc hcd hcv); (case k8 => ktr_room); (case k9 => exact rfl); (case c5 => decide); (case kB => exact locs rfl); (case c2 => exact rfl); (case c3 => exact rfl); (case c4 => exact rfl); k_whole; intro g' L' h' FG' F' N' B' X' T'; (try dsimp only); (try k_lift B'); (try k_fold))
  k_steps
  all_goals first
      | exact hret _ _ _ _ ⟨by assumption, rfl⟩ (by k_asm) (by first | k_asm | exact news_tl (by k_asm) | exact news_tl (news_tl (by k_asm)))
      | ((refine' hrais _ _ _ _ ?_ ?_ ?_ (by first | assumption | exact raised_tl (by assumption) | exact raised_tl (raised_tl (by assumption)))) <;> first | assumption | k_asm)
      | contradiction
      | trace_state


theorem told_neg {a : Int} {ta : Tok} {z0 : Nat} {f c' c_a c_kind : Addr} {o_a o_kind oc : Obj} {vs : Array Value} {qual : PySem.Str} {pm ctv : Value} {t : Tok} {q0 q1 q2 q3 q4 : Pos} (hf : (f, kla_obj "<lambda>" qual ⟨[], [], none, [], [], none, []⟩ (PySem.Expr.Call (PySem.Expr.Name (PySem.Str.ofString "const_unary") q0) [PySem.Expr.Constant (PySem.Const.str (PySem.Str.ofString "-")) z0 q2, PySem.Expr.Name (PySem.Str.ofString "a") q3, PySem.Expr.Name (PySem.Str.ofString "kind") q4] [] q1) { kind := .function, names := [(PySem.Str.ofString "a", NameKind.free), (PySem.Str.ofString "kind", NameKind.free), (PySem.Str.ofString "const_unary", NameKind.globalImplicit)], isGenerator := false, isCoroutine := false } [(PySem.Str.ofString "kind", c_kind), (PySem.Str.ofString "a", c_a)] pm c' ctv) ∈ news) (hc : (c', oc) ∈ news) (hcd : oc.data = .fields vs) (hcv : vs[1]? = some (.str qual t)) (m_a : (c_a, o_a) ∈ news) (d_a : o_a.data = .cell (some (.int a ta))) (m_kind : (c_kind, o_kind) ∈ news) (d_kind : o_kind.data = .cell (some kv)) (hkn : KN kv u lo hi) : CallsS 11 w 213 [.ref f] news (fun v n' => (kept lo hi (0 - a)).Val v ∧ n' = news) :=
  told_res hf (lam_neg hf hc hcd hcv m_a d_a m_kind d_kind hkn)
theorem words_TE_51 : True := by
  (k_with "call ref" => (k_here; (with_reducible show wpAny _ _ (call (Value.ref 92) _) _ _ _); k_dflt (refine callsR_v (by k_asm) (by k_asm) (by k_asm) (by k_asm) (by k_asm) ?_; refine RestR.led _ _ _ _ (flip_c (by assumption)) (by first | exact rfl | assumption) (by ktr_room) (by ktr_units) ?_ ?_; k_whole); rotate_left; intro e9 g9 h9 tk9 R9 FG9 U9 RS9; (try dsimp only); rotate_left; intro v9 h9 tk9 R9 F9 N9; (try dsimp only); (try k_fold)))
  trivial
set_option maxHeartbeats 8000000 in
theorem lam_flip {a : Int} {ta : Tok} {z0 : Nat} {f c' c_a c_kind : Addr} {o_a o_kind oc : Obj} {vs : Array Value} {qual : PySem.Str} {pm ctv : Value} {t : Tok} {q0 q1 q2 q3 q4 : Pos} (hf : (f, kla_obj "<lambda>" qual ⟨[], [], none, [], [], none, []⟩ (PySem.Expr.Call (PySem.Expr.Name (PySem.Str.ofString "const_unary") q0) [PySem.Expr.Constant (PySem.Const.str (PySem.Str.ofString "^")) z0 q2, PySem.Expr.Name (PySem.Str.ofString "a") q3, PySem.Expr.Name (PySem.Str.ofString "kind") q4] [] q1) { kind := .function, names := [(PySem.Str.ofString "a", NameKind.free), (PySem.Str.ofString "kind", NameKind.free), (PySem.Str.ofString "const_unary", NameKind.globalImplicit)], isGenerator := false, isCoroutine := false } [(PySem.Str.ofString "kind", c_kind), (PySem.Str.ofString "a", c_a)] pm c' ctv) ∈ news) (hc : (c', oc) ∈ news) (hcd : oc.data = .fields vs) (hcv : vs[1]? = some (.str qual t)) (m_a : (c_a, o_a) ∈ news) (d_a : o_a.data = .cell (some (.int a ta))) (m_kind : (c_kind, o_kind) ∈ news) (d_kind : o_kind.data = .cell (some kv)) (hkn : KN kv u lo hi) : CallsR 10 w f [] news (fun v n' => (((flip u a lo hi)).Val v ∧ (flip u a lo hi) ≠ .fault) ∧ n' = news) ((flip u a lo hi) = .fault) := by
  w_on
  unfold CallsR
  k_fill
  intro p loose mean mg mb dp un gd cn cs fa ccd cl outer A₀ base h₀ L m hS gS dS tS oS Q E hB hF hX hN hT hk hd hu hret hrais
  refine wpAny_call ?_
  k_dflt (refine' kla_code ?k1 ?k2 ?k3 ?k4 ?k5 ?kA ?kF ?kK ?k6 ?k7 ?k8 ?k9 ?kB ?_ ?c2 ?c3 ?c4 ?c5; (case kA => exact rfl); (case kF => exact rfl); (case kK => assumption); (case k1 => k_asm); (case k2 => k_asm); (case k3 => k_asm); (case k4 => k_asm); (case k5 => k_asm); (case k6 => exact hf); (case k7 => exact codeRec_news (by k_asm) hc hcd hcv); (case k8 => ktr_room); (case k9 => exact rfl); (case c5 => decide); (case kB => exact locs rfl); (case c2 => exact rfl); (case c3 => exact rfl); (case c4 => exact rfl); k_whole; intro g' L' h' FG' F' N' B' X' T'; (try dsimp only); (try k_lift B'); (try k_fold))
  k_steps
  all_goals first
      | exact hret _ _ _ _ ⟨by assumption, rfl⟩ (by k_asm) (by first | k_asm | exact news_tl (by k_asm) | exact news_tl (news_tl (by k_asm)))
      | ((refine' hrais _ _ _ _ ?_ ?_ ?_ (by first | assumption | exact raised_tl (by assumption) | exact raised_tl (raised_tl (by assumption)))) <;> first | assumption | k_asm)
      | contradiction
      | trace_state


theorem told_flip {a : Int} {ta : Tok} {z0 : Nat} {f c' c_a c_kind : Addr} {o_a o_kind oc : Obj} {vs : Array Value} {qual : PySem.Str} {pm ctv : Value} {t : Tok} {q0 q1 q2 q3 q4 : Pos} (hf : (f, kla_obj "<lambda>" qual ⟨[], [], none, [], [], none, []⟩ (PySem.Expr.Call (PySem.Expr.Name (PySem.Str.ofString "const_unary") q0) [PySem.Expr.Constant (PySem.Const.str (PySem.Str.ofString "^")) z0 q2, PySem.Expr.Name (PySem.Str.ofString "a") q3, PySem.Expr.Name (PySem.Str.ofString "kind") q4] [] q1) { kind := .function, names := [(PySem.Str.ofString "a", NameKind.free), (PySem.Str.ofString "kind", NameKind.free), (PySem.Str.ofString "const_unary", NameKind.globalImplicit)], isGenerator := false, isCoroutine := false } [(PySem.Str.ofString "kind", c_kind), (PySem.Str.ofString "a", c_a)] pm c' ctv) ∈ news) (hc : (c', oc) ∈ news) (hcd : oc.data = .fields vs) (hcv : vs[1]? = some (.str qual t)) (m_a : (c_a, o_a) ∈ news) (d_a : o_a.data = .cell (some (.int a ta))) (m_kind : (c_kind, o_kind) ∈ news) (d_kind : o_kind.data = .cell (some kv)) (hkn : KN kv u lo hi) : CallsS 11 w 213 [.ref f] news (fun v n' => (flip u a lo hi).Val v ∧ n' = news) :=
  told_res hf (lam_flip hf hc hcd hcv m_a d_a m_kind d_kind hkn)
end
end

-- SP
section
theorem start_SP : True := by
  w_top off
  k_with_none
  (k_with "eval Constant str" => refine kstr ?_)
  (k_with "eval Constant int" => refine kint ?_)
  (k_with "eval Constant bytes" => refine kbyt ?_)
  (k_with "binaryOp Add int int" => with_reducible refine kadd ?_)
  (k_with "binaryOp Sub int int" => with_reducible refine ksub ?_)
  (k_with "unaryOp USub int" => with_reducible refine kneg ?_)
  (k_with "storeName" => (k_here; k_dflt (refine kstL (by k_asm) (by k_asm) ?_ (rfl) (rfl); k_whole; intro h9 F9 N9; (try k_sweep))))
  (k_with "newTuple" => (k_here; k_dflt (refine ktuK (by k_asm) (by k_asm) ?_ (by kmk_size)); intro D7 h7 F7 N7 l7; (try k_lt l7); (try k_sweep)))
  (k_with "newList" => (k_here; k_dflt (refine kltK (by k_asm) (by k_asm) ?_ (by size_fits)); intro D7 h7 F7 N7 l7; (try k_lt l7); (try k_sweep)))
  (k_with "steps9" => repeat' (first | (k_unfold; (try dsimp only)) | (k_end; wrow_close) | (walk1 <;> (try dsimp only)) | (dsimp only; walk1) | (leave1; walk_say "STEP leave1"; try dsimp only) | (with_reducible refine popN (by assumption) ?_) | (with_reducible refine popR (by assumption) ?_) | ((refine pop_ (by assumption) ?_); (try dsimp only)) | fail "no step"))
  (k_with "all9" => focus ((repeat (first | exact List.forall_mem_nil _ | with_reducible assumption | (refine List.forall_mem_cons.mpr ⟨by k_ne, ?_⟩))); done))
  (k_with "room9" => first | exact rl1 (by with_reducible assumption) (Nat.le_of_ble_eq_true rfl) | exact rl0 (by with_reducible assumption) (Nat.le_of_ble_eq_true rfl) | exact rl2 (by with_reducible assumption) (Nat.le_of_ble_eq_true rfl) | exact rlz (by assumption))
  (k_with "ne9" => (refine neN ?_; (try dsimp only); first | (refine Nat.ne_of_lt ?_; focus ((repeat (first | with_reducible assumption | exact cj0 (by with_reducible assumption) | exact cj1 (by with_reducible assumption) | exact cj2 (by with_reducible assumption) | exact cj3 (by with_reducible assumption) | exact cj4 (by with_reducible assumption) | exact cj5 (by with_reducible assumption) | exact cj6 (by with_reducible assumption) | exact cj7 (by with_reducible assumption) | exact cj8 (by with_reducible assumption) | exact cj9 (by with_reducible assumption) | exact cj10 (by with_reducible assumption) | exact cj11 (by with_reducible assumption) | exact cj12 (by with_reducible assumption) | exact cj13 (by with_reducible assumption) | exact cj14 (by with_reducible assumption) | exact cj15 (by with_reducible assumption) | (refine lt_tr (by with_reducible assumption) ?_))); done)) | (refine Nat.ne_of_gt ?_; focus ((repeat (first | with_reducible assumption | exact cj0 (by with_reducible assumption) | exact cj1 (by with_reducible assumption) | exact cj2 (by with_reducible assumption) | exact cj3 (by with_reducible assumption) | exact cj4 (by with_reducible assumption) | exact cj5 (by with_reducible assumption) | exact cj6 (by with_reducible assumption) | exact cj7 (by with_reducible assumption) | exact cj8 (by with_reducible assumption) | exact cj9 (by with_reducible assumption) | exact cj10 (by with_reducible assumption) | exact cj11 (by with_reducible assumption) | exact cj12 (by with_reducible assumption) | exact cj13 (by with_reducible assumption) | exact cj14 (by with_reducible assumption) | exact cj15 (by with_reducible assumption) | (refine lt_tr (by with_reducible assumption) ?_))); done))))
  (k_with "mem9" => focus ((repeat (first | with_reducible assumption | exact List.mem_append_left _ (by with_reducible assumption) | exact List.mem_append_right _ (by with_reducible assumption) | exact List.Mem.head _ | refine List.Mem.tail _ ?_)); done))
  trivial

theorem pick9 {a0 a1 a2 a3 a4 a5 a6 a7 a8 a9 a10 a11 a12 a13 a14 : Value} : (slicePick #[a0, a1, a2, a3, a4, a5, a6, a7, a8, a9, a10, a11, a12, a13, a14] none (some 9) none).toList = [a0, a1, a2, a3, a4, a5, a6, a7, a8] := by
  first | rfl | (simp [slicePick, sliceBounds]; done) | kernel_rfl
section
variable {prog : Program} {w : World} {A : Around} {E : Value → Shared → Prop} {h₀ h : Heap} {L l : Addr} {m : PySem.Str → Option Value} {news : List (Addr × Obj)} {value slice : PySem.Expr} {a0 a1 a2 a3 a4 a5 a6 a7 a8 a9 a10 a11 a12 a13 a14 : Value} {t : Tok} {c : Nat} {Q : Value → Shared → Prop}
theorem slice9 {gn dr tk os} (F : Fr h₀ L h m) (N : News h₀ L h news) (hm : (l, listOf #[a0, a1, a2, a3, a4, a5, a6, a7, a8, a9, a10, a11, a12, a13, a14] c) ∈ news)
    (k : ∀ D h', Fr h₀ L h' m → News h₀ L h' ((D, listOf #[a0, a1, a2, a3, a4, a5, a6, a7, a8] 0) :: news) → (∀ p ∈ news, p.1 < D) → Q (.ref D) { heap := h', gens := gn, drawn := dr, toks := tk, os := os })
    (hs : subscripted slice false (.ref l) (.ref h.objs.size) = operate [.ref h.objs.size, .ref l] (getItem (.ref l) (.ref h.objs.size))) (ht : ∀ r, letTemporaryGo value (.ref l) r = pure ()) :
    wpAny (model prog w) A (subscriptTail value slice (.ref l) (.ref h.objs.size)) Q E { heap := h.push { cls := .type "slice", data := .fields #[.none, .int 9 t, .none] }, gens := gn, drawn := dr, toks := tk, os := os } :=
  kmk_slice_lit (s := { heap := h, gens := gn, drawn := dr, toks := tk, os := os }) F N ⟨_, (N _ hm).1, rfl, c, rfl⟩ (by first | exact .none | constructor) (by first | exact .some _ _ | constructor) pick9 k hs ht (by rw [sizeLine_eq]; show (15 : Nat) ≤ _; omega)
end
end

-- CO
section
theorem start_CO : True := by
  w_top off
  k_with_none
  (k_with "eval Constant str" => refine kstr ?_)
  (k_with "eval Constant int" => refine kint ?_)
  (k_with "eval Constant bytes" => refine kbyt ?_)
  (k_with "binaryOp Add int int" => with_reducible refine kadd ?_)
  (k_with "binaryOp Sub int int" => with_reducible refine ksub ?_)
  (k_with "unaryOp USub int" => with_reducible refine kneg ?_)
  (k_with "storeName" => (k_here; k_dflt (refine kstL (by k_asm) (by k_asm) ?_ (rfl) (rfl); k_whole; intro h9 F9 N9; (try k_sweep))))
  (k_with "newTuple" => (k_here; k_dflt (refine ktuK (by k_asm) (by k_asm) ?_ (by kmk_size)); intro D7 h7 F7 N7 l7; (try k_lt l7); (try k_sweep)))
  (k_with "newList" => (k_here; k_dflt (refine kltK (by k_asm) (by k_asm) ?_ (by size_fits)); intro D7 h7 F7 N7 l7; (try k_lt l7); (try k_sweep)))
  (k_with "steps9" => repeat' (first | (k_unfold; (try dsimp only)) | (k_end; wrow_close) | (walk1 <;> (try dsimp only)) | (dsimp only; walk1) | (leave1; walk_say "STEP leave1"; try dsimp only) | (with_reducible refine popN (by assumption) ?_) | (with_reducible refine popR (by assumption) ?_) | ((refine pop_ (by assumption) ?_); (try dsimp only)) | fail "no step"))
  (k_with "all9" => focus ((repeat (first | exact List.forall_mem_nil _ | with_reducible assumption | (refine List.forall_mem_cons.mpr ⟨by k_ne, ?_⟩))); done))
  (k_with "room9" => first | exact rl1 (by with_reducible assumption) (Nat.le_of_ble_eq_true rfl) | exact rl0 (by with_reducible assumption) (Nat.le_of_ble_eq_true rfl) | exact rl2 (by with_reducible assumption) (Nat.le_of_ble_eq_true rfl) | exact rlz (by assumption))
  (k_with "ne9" => (refine neN ?_; (try dsimp only); first | (refine Nat.ne_of_lt ?_; focus ((repeat (first | with_reducible assumption | exact cj0 (by with_reducible assumption) | exact cj1 (by with_reducible assumption) | exact cj2 (by with_reducible assumption) | exact cj3 (by with_reducible assumption) | exact cj4 (by with_reducible assumption) | exact cj5 (by with_reducible assumption) | exact cj6 (by with_reducible assumption) | exact cj7 (by with_reducible assumption) | exact cj8 (by with_reducible assumption) | exact cj9 (by with_reducible assumption) | exact cj10 (by with_reducible assumption) | exact cj11 (by with_reducible assumption) | exact cj12 (by with_reducible assumption) | exact cj13 (by with_reducible assumption) | exact cj14 (by with_reducible assumption) | exact cj15 (by with_reducible assumption) | (refine lt_tr (by with_reducible assumption) ?_))); done)) | (refine Nat.ne_of_gt ?_; focus ((repeat (first | with_reducible assumption | exact cj0 (by with_reducible assumption) | exact cj1 (by with_reducible assumption) | exact cj2 (by with_reducible assumption) | exact cj3 (by with_reducible assumption) | exact cj4 (by with_reducible assumption) | exact cj5 (by with_reducible assumption) | exact cj6 (by with_reducible assumption) | exact cj7 (by with_reducible assumption) | exact cj8 (by with_reducible assumption) | exact cj9 (by with_reducible assumption) | exact cj10 (by with_reducible assumption) | exact cj11 (by with_reducible assumption) | exact cj12 (by with_reducible assumption) | exact cj13 (by with_reducible assumption) | exact cj14 (by with_reducible assumption) | exact cj15 (by with_reducible assumption) | (refine lt_tr (by with_reducible assumption) ?_))); done))))
  (k_with "mem9" => focus ((repeat (first | with_reducible assumption | exact List.mem_append_left _ (by with_reducible assumption) | exact List.mem_append_right _ (by with_reducible assumption) | exact List.Mem.head _ | refine List.Mem.tail _ ?_)); done))
  trivial

/-- a scope of a comprehension with one cell -/
def OneCell (scope : Scope) (x : PySem.Str) : Prop := ∀ (h : Heap) (n : Nat) (cl : List (PySem.Str × Addr)), pushCells h scope.names = h.push { cls := .type "cell", data := .cell none } ∧ cellsFrom n scope.names cl = (x, n) :: cl
abbrev compDict : Obj := { cls := .type "dict", data := .dict #[] }
def Off4 (I C D c : Addr) (rest : List (Addr × Obj)) : Prop := ∀ p ∈ rest, p.1 ≠ I ∧ p.1 ≠ C ∧ p.1 ≠ D ∧ p.1 ≠ c
abbrev Led4 (I C D c : Addr) (oI oc : Obj) (rest : List (Addr × Obj)) : List (Addr × Obj) := (I, oI) :: (C, compDict) :: (D, listOf #[] 0) :: (c, oc) :: rest

/-- where a turn ends -/
def TurnEnd (L : Addr) (s₁ : Shared) (I C D c : Addr) (oI oc : Obj) (J : Heap → (PySem.Str → Option Value) → List (Addr × Obj) → Prop) (b : Bool) (s' : Shared) : Prop :=
  b = false ∧ ∃ h' tk' h₀ m rest, s' = { s₁ with heap := h', toks := tk' } ∧ J h₀ m rest ∧ Fr h₀ L h' m ∧ News h₀ L h' (Led4 I C D c oI oc rest) ∧ Off4 I C D c rest

def CompAt (L : Addr) (s₁ : Shared) (l : Addr) (len : Nat) (I C D c : Addr) (J : Heap → (PySem.Str → Option Value) → List (Addr × Obj) → Prop) (n : Nat) (s' : Shared) : Prop :=
  HeldC (fun G => ∀ (i : Nat) (h : Heap) (tk : Tok) (h₀ : Heap) (m : PySem.Str → Option Value) (rest : List (Addr × Obj)) (oI oc : Obj) (ov : Option Value), n = len + 1 - i → i ≤ len → s' = { s₁ with heap := h, toks := tk } → J h₀ m rest → Fr h₀ L h m → News h₀ L h (Led4 I C D c oI oc rest) → Off4 I C D c rest → ItO l i oI → oc.data = .cell ov → G)
section
variable {prog : Program} {w : World} {A : Around} {E : Value → Shared → Prop} {s s₁ : Shared} {env cenv : Env} {elt iter ct : PySem.Expr} {x : PySem.Str} {px pos : Pos} {scope : Scope} {cl : List (PySem.Str × Addr)} {I l C D c L : Addr} {vs : List Value} {k : Nat} {J : Heap → (PySem.Str → Option Value) → List (Addr × Obj) → Prop} {R : Result → Shared → Prop}

theorem newEnv_comp {M : Model} {Q : Env → Shared → Prop} (h : Q { scope := scope, locals := s.heap.objs.size, globals := env.globals, cells := cellsFrom (s.heap.objs.size + 1) scope.names cl, qual := env.qual, func := none, code := env.code, frame := env.frame, builtins := env.builtins }
      { s with heap := pushCells (s.heap.push compDict) scope.names }) :
    wpAny M A (newFunctionEnv scope env.globals cl [] env.qual none .none (some env)) Q E s := by
  simp only [newFunctionEnv, Option.isSome_some, if_true]
  refine wpAny_bind (wpAny_alloc ?_)
  refine wpAny_bind (wpAny_layCells _ (fun name kind cells => by cases hkc : kind == NameKind.cell <;> simp) _ _ _ _ ?_)
  rw [List.forIn_nil]
  refine wpAny_bind (wpAny_pure (wpAny_pure ?_))
  rw [show ({ s with heap := s.heap.push compDict } : Shared).heap.objs.size = s.heap.objs.size + 1 from Heap.size_push ..]
  exact h

theorem led4_rest {oI oc : Obj} {rest : List (Addr × Obj)} : ∀ q ∈ rest, q ∈ Led4 I C D c oI oc rest := fun _ hq => .tail _ (.tail _ (.tail _ (.tail _ hq)))
theorem fr_ext {h₀ h h' : Heap} {m : PySem.Str → Option Value} {X : Addr} (F : Fr h₀ L h m) (hx : Heap.ExtBut X h h') (h1 : X ≠ L) (h2 : h₀.get? X = none) : Fr h₀ L h' m :=
  ⟨F.ns.extBut hx (Ne.symm h1), fun b ob e => hx b ob (fun z => by rw [z, h2] at e; cases e) (F.keep b ob e), F.above⟩
theorem led4_I {h₀ h h' : Heap} {oI oI' oc : Obj} {rest : List (Addr × Obj)} (N : News h₀ L h (Led4 I C D c oI oc rest)) (off : Off4 I C D c rest) (hap : I ≠ C ∧ I ≠ D ∧ I ≠ c) (hx : Heap.ExtBut I h h') (hI : h'.get? I = some oI') :
    News h₀ L h' (Led4 I C D c oI' oc rest) := by
  intro q hq
  have keep : ∀ q ∈ Led4 I C D c oI oc rest, q.1 ≠ I → h'.get? q.1 = some q.2 ∧ q.1 ≠ L ∧ h₀.get? q.1 = none := fun q hq hne => ⟨hx _ _ hne (N q hq).1, (N q hq).2⟩
  rcases List.mem_cons.mp hq with rfl | hq
  · exact ⟨hI, (N _ (.head _)).2⟩
  · refine keep q (.tail _ hq) ?_
    rcases List.mem_cons.mp hq with rfl | hq
    · exact Ne.symm hap.1
    · rcases List.mem_cons.mp hq with rfl | hq
      · exact Ne.symm hap.2.1
      · rcases List.mem_cons.mp hq with rfl | hq
        · exact Ne.symm hap.2.2
        · exact (off q hq).1
theorem led4_c {h₀ h h' : Heap} {oI oc oc' : Obj} {rest : List (Addr × Obj)} (N : News h₀ L h (Led4 I C D c oI oc rest)) (off : Off4 I C D c rest) (hap : I ≠ c ∧ C ≠ c ∧ D ≠ c) (hx : Heap.ExtBut c h h') (hI : h'.get? c = some oc') :
    News h₀ L h' (Led4 I C D c oI oc' rest) := by
  intro q hq
  have keep : ∀ q ∈ Led4 I C D c oI oc rest, q.1 ≠ c → h'.get? q.1 = some q.2 ∧ q.1 ≠ L ∧ h₀.get? q.1 = none := fun q hq hne => ⟨hx _ _ hne (N q hq).1, (N q hq).2⟩
  rcases List.mem_cons.mp hq with rfl | hq
  · exact keep _ (.head _) hap.1
  · rcases List.mem_cons.mp hq with rfl | hq
    · exact keep _ (.tail _ (.head _)) hap.2.1
    · rcases List.mem_cons.mp hq with rfl | hq
      · exact keep _ (.tail _ (.tail _ (.head _))) hap.2.2
      · rcases List.mem_cons.mp hq with rfl | hq
        · exact ⟨hI, (N _ (.tail _ (.tail _ (.tail _ (.head _))))).2⟩
        · exact keep q (led4_rest q hq) (off q hq).2.2.2

theorem comp_none_loop (hkn : cenv.kindOf x = some .cell) (hkind : cenv.scope.kind = .function) (hcl : cenv.cells.lookup x = some c) (hh : A.handled = none)
    (hJ : ∀ h₀ m rest, J h₀ m rest → (l, listOf vs.toArray k) ∈ rest)
    (turn : ∀ h₀ m rest oI oc v h tk E', v ∈ vs → J h₀ m rest → Fr h₀ L h m → News h₀ L h (Led4 I C D c oI oc rest) → Off4 I C D c rest → oc.data = .cell (some v) →
      wpAny (model prog w) A (isTrue ct cenv (eval ct cenv)) (TurnEnd L s₁ I C D c oI oc J) E' { s₁ with heap := h, toks := tk })
    (fin : ∀ h₀ m rest oc h tk, J h₀ m rest → Fr h₀ L h m → News h₀ L h ((C, compDict) :: (D, listOf #[] 0) :: (c, oc) :: rest) → Off4 I C D c rest → R (.ok .next) { s₁ with heap := h, toks := tk })
    (hap : I ≠ C ∧ I ≠ D ∧ I ≠ c ∧ C ≠ c ∧ D ≠ c)
    {h₀ : Heap} {m : PySem.Str → Option Value} {rest : List (Addr × Obj)} {oI oc : Obj} {h : Heap} {tk : Tok} {ov : Option Value} (j : J h₀ m rest) (F : Fr h₀ L h m) (N : News h₀ L h (Led4 I C D c oI oc rest)) (off : Off4 I C D c rest) (hI : ItO l 0 oI) (hc : oc.data = .cell ov) :
    codeAny (model prog w) A (.compLoop (.ListComp elt [⟨.Name x px, iter, [ct], 0⟩] scope pos) 0 (.ref I) (.ref D) cenv) R { s₁ with heap := h, toks := tk } := by
  refine codeAny_compLoop_tests (fun n s' => CompAt L s₁ l vs.length I C D c J n s') ?_ (vs.length + 1)
    (HeldC.mk fun G k9 => k9 0 h tk h₀ m rest oI oc ov rfl (Nat.zero_le _) rfl j F N off hI hc)
  clear j F N off hI hc
  intro n s' h9
  unfold CompAt at h9
  with_reducible refine heldC_ h9 ?_
  clear h9
  intro i h tk h₀ m rest oI oc ov e91 hi e92 j F N off hI hc
  subst e91 e92
  obtain ⟨a1, a2, a3, a4, a5⟩ := hap
  have nI := N (I, oI) (.head _)
  have nc := N (c, oc) (.tail _ (.tail _ (.tail _ (.head _))))
  have nl := N _ (led4_rest _ (hJ _ _ _ j))
  cases hv : vs[i]? with
  | none =>
    refine wpAny_pyNext_list_end hh ⟨oI, nI.1, hI.1, hI.2⟩ (items := vs.toArray) ⟨_, nl.1, rfl, k, rfl⟩ (by simpa using hv) fun h' hx => ?_
    refine fin h₀ m rest oc h' tk j (fr_ext F hx nI.2.1 nI.2.2) (fun q hq => ?_) off
    refine ⟨hx _ _ ?_ (N q (.tail _ hq)).1, (N q (.tail _ hq)).2⟩
    rcases List.mem_cons.mp hq with rfl | hq
    · exact Ne.symm a1
    · rcases List.mem_cons.mp hq with rfl | hq
      · exact Ne.symm a2
      · rcases List.mem_cons.mp hq with rfl | hq
        · exact Ne.symm a3
        · exact (off q hq).1
  | some v =>
    have hlt : i < vs.length := (List.getElem?_eq_some_iff.mp hv).1
    refine wpAny_pyNext_list_item ⟨oI, nI.1, hI.1, hI.2⟩ (items := vs.toArray) ⟨_, nl.1, rfl, k, rfl⟩ (x := v) (by simpa using hv) fun h' hit hs => ?_
    obtain ⟨oI', hI1, hI2, hI3⟩ := hit
    have F1 := fr_ext F hs.extBut nI.2.1 nI.2.2
    have N1 := led4_I N off ⟨a1, a2, a3⟩ hs.extBut hI1
    have nc1 := N1 (c, oc) (.tail _ (.tail _ (.tail _ (.head _))))
    refine wpAny_assign_Name (wpAny_storeName_cell hkind hkn hcl ⟨oc, nc1.1, hc⟩ fun h'' hc' hs' => ?_)
    obtain ⟨oc', hc1, hc2⟩ := hc'
    have F2 := fr_ext F1 hs'.extBut nc1.2.1 nc1.2.2
    have N2 := led4_c N1 off ⟨a3, a4, a5⟩ hs'.extBut hc1
    refine wpAny_tests_one (wpAny_mono (turn h₀ m rest oI' oc' v h'' tk _ (List.mem_of_getElem? hv) j F2 N2 off hc2) (fun b s₃ hb => ?_) fun _ _ e => e)
    obtain ⟨rfl, h3, tk3, g3, m3, rest3, rfl, j3, F3, N3, off3⟩ := hb
    simp only [Bool.false_eq_true, if_false]
    exact ⟨vs.length + 1 - (i + 1), by omega, HeldC.mk fun G k9 => k9 (i + 1) h3 tk3 g3 m3 rest3 oI' oc' (some v) rfl hlt rfl j3 F3 N3 off3 ⟨hI2, hI3⟩ hc2⟩

def CompNone (prog : Program) (w : World) (A : Around) (env : Env) (ct : PySem.Expr) (x : PySem.Str) (scope : Scope) (cl : List (PySem.Str × Addr)) (L : Addr) (Q : Value → Shared → Prop) (xv : Value) (s₁ : Shared) : Prop :=
  ∃ (l : Addr) (vs : List Value) (k : Nat) (h₀ : Heap) (m : PySem.Str → Option Value) (news : List (Addr × Obj)) (J : Heap → (PySem.Str → Option Value) → List (Addr × Obj) → Prop), xv = .ref l ∧ A.handled = none ∧ Fr h₀ L s₁.heap m ∧ News h₀ L s₁.heap news ∧ (∀ h₀ m rest, J h₀ m rest → (l, listOf vs.toArray k) ∈ rest) ∧ J h₀ m news ∧
    (∀ I C D c h₀ m rest oI oc v h tk E', v ∈ vs → J h₀ m rest → Fr h₀ L h m → News h₀ L h (Led4 I C D c oI oc rest) → Off4 I C D c rest → (∀ p ∈ news, p.1 < I) → I < D → D < C → C < c → oc.data = .cell (some v) →
      wpAny (model prog w) A (isTrue ct (compEnvC scope ((x, c) :: cl) C env) (eval ct (compEnvC scope ((x, c) :: cl) C env))) (TurnEnd L s₁ I C D c oI oc J) E' { s₁ with heap := h, toks := tk }) ∧
    (∀ I C D c h₀ m rest h tk, J h₀ m rest → Fr h₀ L h m → News h₀ L h ((D, listOf #[] 0) :: rest) → Off4 I C D c rest → (∀ p ∈ news, p.1 < D) → Q (.ref D) { s₁ with heap := h, toks := tk })

theorem listComp_none {Q : Value → Shared → Prop} (hclos : closureFor scope env = pure cl) (hone : OneCell scope x) (hkind : scope.kind = .function)
    (hnames : ∀ y ∈ scope.names, y.2 = .local → scope.names.lookup y.1 = some .local) (hx : (relabel scope env).names.lookup x = some .cell)
    (h : wpAny (model prog w) A (eval iter env) (CompNone prog w A env ct x scope cl L Q) E s)
    (hs : ∀ x, foldedSetIterable iter env x = pure x := by intro _; rfl) :
    wpAny (model prog w) A (eval (.ListComp elt [⟨.Name x px, iter, [ct], 0⟩] scope pos) env) Q E s := by
  rw [eval_ListComp]
  refine wpAny_comprehension_free (use := none) rfl hs hclos hkind hnames (wpAny_mono h (fun xv s₁ h₁ => ?_) fun _ _ e => e)
  obtain ⟨l, vs, k, h₀, m, news, J, rfl, hh, F, N, hJ, j, turn, fin⟩ := h₁
  have nl := N _ (hJ _ _ _ j)
  refine wpAny_pyIter_list (items := vs.toArray) ⟨_, nl.1, rfl, k, rfl⟩ ?_
  refine wpAny_newObj_type ?_
  refine newEnv_comp ?_
  have q1 := fun hp => (hone hp 0 []).1
  have q2 := fun n => (hone s.heap n cl).2
  rw [q1, q2]
  clear q1 q2
  dsimp only
  -- the four new objects
  have F1 := F.push { cls := .type "list_iterator", data := .fields #[.ref l, .int 0 0] }
  have N1 := News.push F N { cls := .type "list_iterator", data := .fields #[.ref l, .int 0 0] }
  have F2 := F1.push (listOf #[] 0)
  have N2 := News.push F1 N1 (listOf #[] 0)
  have F3 := F2.push compDict
  have N3 := News.push F2 N2 compDict
  have F4 := F3.push { cls := .type "cell", data := .cell none }
  have N4 := News.push F3 N3 { cls := .type "cell", data := .cell none }
  have nI : ∀ q ∈ news, q.1 < s₁.heap.objs.size := fun q hq => Heap.lt_size (N q hq).1
  have s1 : (s₁.heap.push { cls := .type "list_iterator", data := .fields #[.ref l, .int 0 0] }).objs.size = s₁.heap.objs.size + 1 := Heap.size_push ..
  have s2 : ((s₁.heap.push { cls := .type "list_iterator", data := .fields #[.ref l, .int 0 0] }).push (listOf #[] 0)).objs.size = s₁.heap.objs.size + 1 + 1 := by rw [Heap.size_push, s1]
  have s3 : (((s₁.heap.push { cls := .type "list_iterator", data := .fields #[.ref l, .int 0 0] }).push (listOf #[] 0)).push compDict).objs.size = s₁.heap.objs.size + 1 + 1 + 1 := by rw [Heap.size_push, s2]
  rw [s1] at N2
  rw [s2, s1] at N3
  rw [s3, s2, s1] at N4
  change codeAny (model prog w) A (.compStart _ 0 (.ref s₁.heap.objs.size) (.ref (s₁.heap.push { cls := .type "list_iterator", data := .fields #[.ref l, .int 0 0] }).objs.size) (compEnvC scope ((x, ((s₁.heap.push { cls := .type "list_iterator", data := .fields #[.ref l, .int 0 0] }).push (listOf #[] 0)).objs.size + 1) :: cl) ((s₁.heap.push { cls := .type "list_iterator", data := .fields #[.ref l, .int 0 0] }).push (listOf #[] 0)).objs.size env)) _
    { s₁ with heap := (((s₁.heap.push { cls := .type "list_iterator", data := .fields #[.ref l, .int 0 0] }).push (listOf #[] 0)).push compDict).push { cls := .type "cell", data := .cell none } }
  rw [s1, s2]
  clear N1 N2 N3 s1 s2 s3 F1 F2 F3
  generalize ((((s₁.heap.push { cls := .type "list_iterator", data := .fields #[.ref l, .int 0 0] }).push (listOf #[] 0)).push compDict).push { cls := .type "cell", data := .cell none }) = hp at *
  generalize s₁.heap.objs.size = i0 at *
  have l1 : i0 < i0 + 1 := Nat.lt_succ_self _
  have l2 : i0 + 1 < i0 + 1 + 1 := Nat.lt_succ_self _
  have l3 : i0 + 1 + 1 < i0 + 1 + 1 + 1 := Nat.lt_succ_self _
  generalize i0 + 1 = D at *
  generalize D + 1 = C at *
  generalize C + 1 = c at *
  have l02 := Nat.lt_trans l1 l2
  have l03 := Nat.lt_trans l02 l3
  have l13 := Nat.lt_trans l2 l3
  have off : Off4 i0 C D c news := fun p hp => ⟨Nat.ne_of_lt (nI p hp), Nat.ne_of_lt (Nat.lt_trans (nI p hp) l02), Nat.ne_of_lt (Nat.lt_trans (nI p hp) l1), Nat.ne_of_lt (Nat.lt_trans (nI p hp) l03)⟩
  have NL : News h₀ L hp (Led4 i0 C D c { cls := .type "list_iterator", data := .fields #[.ref l, .int 0 0] } { cls := .type "cell", data := .cell none } news) := fun q hq => by
    rcases List.mem_cons.mp hq with rfl | hq
    · exact N4 _ (.tail _ (.tail _ (.tail _ (.head _))))
    · rcases List.mem_cons.mp hq with rfl | hq
      · exact N4 _ (.tail _ (.head _))
      · rcases List.mem_cons.mp hq with rfl | hq
        · exact N4 _ (.tail _ (.tail _ (.head _)))
        · rcases List.mem_cons.mp hq with rfl | hq
          · exact N4 _ (.head _)
          · exact N4 _ (.tail _ (.tail _ (.tail _ (.tail _ hq))))
  have loop : codeAny (model prog w) A (.compLoop (.ListComp elt [⟨.Name x px, iter, [ct], 0⟩] scope pos) 0 (.ref i0) (.ref D) (compEnvC scope ((x, c) :: cl) C env)) (compPost (model prog w) A E none Q (.ref D) C) { s₁ with heap := hp } := by
    refine comp_none_loop (cenv := compEnvC scope ((x, c) :: cl) C env) (L := L) (J := J) (s₁ := s₁) (k := k) (vs := vs) (c := c) hx hkind (by simp [compEnvC]) hh hJ (fun h₀ m rest oI oc v h tk E' hv j F N off hc => turn _ _ _ _ _ _ _ _ _ _ _ _ _ hv j F N off nI l1 l2 l3 hc) (fun h₀ m rest oc h tk j F N off => ?_)
      ⟨Nat.ne_of_lt l02, Nat.ne_of_lt l1, Nat.ne_of_lt l03, Nat.ne_of_lt l3, Nat.ne_of_lt l13⟩ j F4 NL off ⟨rfl, rfl⟩ rfl
    have nC := N (C, compDict) (.head _)
    refine ⟨fun _ => none, ⟨_, #[], _, nC.1, rfl, (fun e he => absurd he (by simp)), fun _ => rfl⟩, fun h' hs => fin i0 C D c h₀ m rest h' tk j (fr_ext F hs.extBut nC.2.1 nC.2.2) (fun q hq => ?_) off fun p hp => Nat.lt_trans (nI p hp) l1⟩
    have hne : q.1 ≠ C := by
      rcases List.mem_cons.mp hq with rfl | hq
      · exact Nat.ne_of_lt l2
      · exact (off q hq).2.1
    have n := N q (by
      rcases List.mem_cons.mp hq with rfl | hq
      · exact .tail _ (.head _)
      · exact .tail _ (.tail _ (.tail _ hq)))
    exact ⟨hs.extBut _ _ hne n.1, n.2⟩
  exact codeAny_compStart_list loop (wpAny_pyIter_listiter ⟨_, (NL _ (.head _)).1, rfl, rfl⟩ loop)
end
end

-- SG
section
theorem start_SG : True := by
  w_top off
  k_with_none
  (k_with "eval Constant str" => refine kstr ?_)
  (k_with "eval Constant int" => refine kint ?_)
  (k_with "eval Constant bytes" => refine kbyt ?_)
  (k_with "binaryOp Add int int" => with_reducible refine kadd ?_)
  (k_with "binaryOp Sub int int" => with_reducible refine ksub ?_)
  (k_with "unaryOp USub int" => with_reducible refine kneg ?_)
  (k_with "storeName" => (k_here; k_dflt (refine kstL (by k_asm) (by k_asm) ?_ (rfl) (rfl); k_whole; intro h9 F9 N9; (try k_sweep))))
  (k_with "newTuple" => (k_here; k_dflt (refine ktuK (by k_asm) (by k_asm) ?_ (by kmk_size)); intro D7 h7 F7 N7 l7; (try k_lt l7); (try k_sweep)))
  (k_with "newList" => (k_here; k_dflt (refine kltK (by k_asm) (by k_asm) ?_ (by size_fits)); intro D7 h7 F7 N7 l7; (try k_lt l7); (try k_sweep)))
  (k_with "steps9" => repeat' (first | (k_unfold; (try dsimp only)) | (k_end; wrow_close) | (walk1 <;> (try dsimp only)) | (dsimp only; walk1) | (leave1; walk_say "STEP leave1"; try dsimp only) | (with_reducible refine popN (by assumption) ?_) | (with_reducible refine popR (by assumption) ?_) | ((refine pop_ (by assumption) ?_); (try dsimp only)) | fail "no step"))
  (k_with "all9" => focus ((repeat (first | exact List.forall_mem_nil _ | with_reducible assumption | (refine List.forall_mem_cons.mpr ⟨by k_ne, ?_⟩))); done))
  (k_with "room9" => first | exact rl1 (by with_reducible assumption) (Nat.le_of_ble_eq_true rfl) | exact rl0 (by with_reducible assumption) (Nat.le_of_ble_eq_true rfl) | exact rl2 (by with_reducible assumption) (Nat.le_of_ble_eq_true rfl) | exact rlz (by assumption))
  (k_with "ne9" => (refine neN ?_; (try dsimp only); first | (refine Nat.ne_of_lt ?_; focus ((repeat (first | with_reducible assumption | exact cj0 (by with_reducible assumption) | exact cj1 (by with_reducible assumption) | exact cj2 (by with_reducible assumption) | exact cj3 (by with_reducible assumption) | exact cj4 (by with_reducible assumption) | exact cj5 (by with_reducible assumption) | exact cj6 (by with_reducible assumption) | exact cj7 (by with_reducible assumption) | exact cj8 (by with_reducible assumption) | exact cj9 (by with_reducible assumption) | exact cj10 (by with_reducible assumption) | exact cj11 (by with_reducible assumption) | exact cj12 (by with_reducible assumption) | exact cj13 (by with_reducible assumption) | exact cj14 (by with_reducible assumption) | exact cj15 (by with_reducible assumption) | (refine lt_tr (by with_reducible assumption) ?_))); done)) | (refine Nat.ne_of_gt ?_; focus ((repeat (first | with_reducible assumption | exact cj0 (by with_reducible assumption) | exact cj1 (by with_reducible assumption) | exact cj2 (by with_reducible assumption) | exact cj3 (by with_reducible assumption) | exact cj4 (by with_reducible assumption) | exact cj5 (by with_reducible assumption) | exact cj6 (by with_reducible assumption) | exact cj7 (by with_reducible assumption) | exact cj8 (by with_reducible assumption) | exact cj9 (by with_reducible assumption) | exact cj10 (by with_reducible assumption) | exact cj11 (by with_reducible assumption) | exact cj12 (by with_reducible assumption) | exact cj13 (by with_reducible assumption) | exact cj14 (by with_reducible assumption) | exact cj15 (by with_reducible assumption) | (refine lt_tr (by with_reducible assumption) ?_))); done))))
  (k_with "mem9" => focus ((repeat (first | with_reducible assumption | exact List.mem_append_left _ (by with_reducible assumption) | exact List.mem_append_right _ (by with_reducible assumption) | exact List.Mem.head _ | refine List.Mem.tail _ ?_)); done))
  trivial

theorem callsR_upd {k : Nat} {w : World} {f src : Addr} {vs : List Value} {n₂ : List (Addr × Obj)} {o : Obj} {g : Obj → List (Addr × Obj)} {R : Value → Obj → Prop} (U : UpdF src o n₂ g)
    (C : ∀ rest, (∀ p ∈ rest, p.1 ≠ src) → (∀ q ∈ n₂, q.1 ≠ src → q ∈ rest) → CallsR k w f vs ((src, o) :: rest) (fun v n' => ∃ o', R v o' ∧ n' = (src, o') :: rest) False) : CallsR k w f vs n₂ (fun v n' => ∃ o', R v o' ∧ n' = g o') False := by
  obtain ⟨pre, post, rfl, hg, h1, h2⟩ := U.split
  intro p loose mean mg mb dp un gd cn cs fa ccd cl outer A₀ base h₀ L m hS gS dS tS oS Q E hB hF hX hN hT hk hd hu hret hrais
  refine C (pre ++ post) (fun q hq => (List.mem_append.mp hq).elim (h1 q) (h2 q)) (fun q hq hn => ?_) _ _ _ _ _ _ _ _ _ _ _ _ _ _ _ _ _ _ _ _ _ _ _ _ _ _ hB hF hX (fun q hq => hN q ?_) hT hk hd hu (fun v n' h' tk' R' F N => ?_) fun e g h' tk' z => z.elim
  · rcases List.mem_append.mp hq with hq | hq
    · exact List.mem_append_left _ hq
    · rcases List.mem_cons.mp hq with rfl | hq
      · exact absurd rfl hn
      · exact List.mem_append_right _ hq
  · rcases List.mem_cons.mp hq with rfl | hq
    · exact List.mem_append_right _ (.head _)
    · rcases List.mem_append.mp hq with hq | hq
      · exact List.mem_append_left _ hq
      · exact List.mem_append_right _ (.tail _ hq)
  · obtain ⟨o', r, rfl⟩ := R'
    refine hret v _ _ _ ⟨o', r, rfl⟩ F (fun q hq => N q ?_)
    rw [hg] at hq
    rcases List.mem_append.mp hq with hq | hq
    · exact .tail _ (List.mem_append_left _ hq)
    · rcases List.mem_cons.mp hq with rfl | hq
      · exact .head _
      · exact .tail _ (List.mem_append_right _ hq)
theorem callsR_ret {k : Nat} {w : World} {f : Addr} {vs : List Value} {n₂ : List (Addr × Obj)} {R R' : Value → List (Addr × Obj) → Prop} {Z : Prop} (C : CallsR k w f vs n₂ R Z) (h : ∀ v n, R v n → R' v n) : CallsR k w f vs n₂ R' Z :=
  fun p loose mean mg mb dp un gd cn cs fa ccd cl outer A₀ base h₀ L m hS gS dS tS oS Q E hB hF hX hN hT hk hd hu hret hrais =>
    C p loose mean mg mb dp un gd cn cs fa ccd cl outer A₀ base h₀ L m hS gS dS tS oS Q E hB hF hX hN hT hk hd hu (fun v n' h' tk' r => hret v n' h' tk' (h v n' r)) hrais
theorem number_u {w : World} {news : List (Addr × Obj)} {kv : Value} {u : Bool} {lo hi : Int} {src : Addr} {o : Obj} {g : Obj → List (Addr × Obj)} (hkn : KN kv u lo hi) (U : UpdF src o news g) (ho : SrcO o) :
    CallsR 4 w 185 [.ref src, kv] news (fun v n' => ∃ o', (∃ x t, v = .int x t ∧ (lo ≤ x ∧ x ≤ hi) ∧ (-9223372036854775808 ≤ x ∧ x < 18446744073709551616) ∧ SrcO o') ∧ n' = g o') False :=
  callsR_upd U fun rest hne _ => callsR_ret (number_c hkn hne ho) fun v n ⟨x, t, o', e, a, b, c, d⟩ => ⟨o', ⟨x, t, e, a, b, d⟩, c⟩
theorem one_u {w : World} {news : List (Addr × Obj)} {src l : Addr} {o : Obj} {vs : Array Value} {c : Nat} {g : Obj → List (Addr × Obj)} (U : UpdF src o news g) (ho : SrcO o) (hl : (l, listOf vs c) ∈ news) (hn : l ≠ src) (hs : (2 : Int) ≤ (vs.size : Int)) (hs2 : (vs.size : Int) ≤ 64) :
    CallsR 2 w 170 [.ref src, .ref l] news (fun v n' => ∃ o', (v ∈ vs.toList ∧ SrcO o') ∧ n' = g o') False :=
  callsR_upd U fun rest hne hm => callsR_ret (one_c hne ho (hm _ hl hn) hs hs2) fun v n ⟨o', a, b, d⟩ => ⟨o', ⟨a, d⟩, b⟩
/-- as CallsS, with what is known of the base -/
abbrev CallsB (Bs : Heap → Prop) (k : Nat) (w : World) (f : Addr) (vs : List Value) (news : List (Addr × Obj)) (Ret : Value → List (Addr × Obj) → Prop) : Prop :=
  ∀ (p : Program) (loose : List PySem.Str) (mean : ExcName → Option Value) (mg mb : PySem.Str → Option Value) (dp un : Nat) (gd : Option (List Code)) (cn : PySem.Str) (cs : Scope) (a : Addr) (ccd : Value) (cl : List (PySem.Str × Addr)) (outer : List Env) (A₀ : Around) (base g₀ h₀ : Heap) (L : Addr) (m : PySem.Str → Option Value) (hS : Heap) (gS : Array GenState) (dS : Drawn) (tS : Nat) (oS : OsState) (Q E : Value → Shared → Prop),
    Below A₀ base outer h₀ → Fr h₀ L hS m → (Mine.hd.heap_39 w.params).In h₀ → News h₀ L hS news → Top p loose mean mg mb h₀ → (Mine.hd.heap_39 w.params).In base → Top p loose mean mg mb base → KtsDicts (frs outer) h₀ → KtsTurn (frs outer) g₀ h₀ → Bs base → cs.kind = .function →
    dp + k < recursionLimit → un + 20 * k < cLine →
    (∀ v news' h' tk' h₀', Ret v news' → KtsTurn (frs outer) g₀ h₀' → Fr h₀' L h' m → News h₀' L h' news' → Below A₀ base outer h₀' → (Mine.hd.heap_39 w.params).In h₀' → Top p loose mean mg mb h₀' → KtsDicts (frs outer) h₀' → Q v ⟨h', gS, dS, tk', oS⟩) →
    wpAny (model Challenge.rw_on0013_01.row.prog w) (ktrTop dp un gd cn cs L a ccd cl outer) (call (.ref f) vs) Q E ⟨hS, gS, dS, tS, oS⟩

theorem ops15 {v : Value} {t0 t1 t2 t3 t4 t5 t6 t7 t8 t9 t10 t11 t12 t13 t14 : Tok} (h : v ∈ [.str (PySem.Str.ofString "+") t0, .str (PySem.Str.ofString "-") t1, .str (PySem.Str.ofString "*") t2, .str (PySem.Str.ofString "/") t3, .str (PySem.Str.ofString "%") t4, .str (PySem.Str.ofString "&") t5, .str (PySem.Str.ofString "|") t6, .str (PySem.Str.ofString "^") t7, .str (PySem.Str.ofString "&^") t8, .str (PySem.Str.ofString "==") t9, .str (PySem.Str.ofString "!=") t10, .str (PySem.Str.ofString "<") t11, .str (PySem.Str.ofString "<=") t12, .str (PySem.Str.ofString ">") t13, .str (PySem.Str.ofString ">=") t14]) : ∃ (o : Op) (t : Tok), v = .str o.text t := by
  simp only [List.mem_cons, List.not_mem_nil, or_false] at h
  rcases h with rfl | rfl | rfl | rfl | rfl | rfl | rfl | rfl | rfl | rfl | rfl | rfl | rfl | rfl | rfl
  · exact ⟨.add, _, rfl⟩
  · exact ⟨.sub, _, rfl⟩
  · exact ⟨.mul, _, rfl⟩
  · exact ⟨.div, _, rfl⟩
  · exact ⟨.mod, _, rfl⟩
  · exact ⟨.band, _, rfl⟩
  · exact ⟨.bor, _, rfl⟩
  · exact ⟨.bxor, _, rfl⟩
  · exact ⟨.bnot, _, rfl⟩
  · exact ⟨.eq, _, rfl⟩
  · exact ⟨.ne, _, rfl⟩
  · exact ⟨.lt, _, rfl⟩
  · exact ⟨.le, _, rfl⟩
  · exact ⟨.gt, _, rfl⟩
  · exact ⟨.ge, _, rfl⟩
theorem ops9 {v : Value} {t0 t1 t2 t3 t4 t5 t6 t7 t8 : Tok} (h : v ∈ [.str (PySem.Str.ofString "+") t0, .str (PySem.Str.ofString "-") t1, .str (PySem.Str.ofString "*") t2, .str (PySem.Str.ofString "/") t3, .str (PySem.Str.ofString "%") t4, .str (PySem.Str.ofString "&") t5, .str (PySem.Str.ofString "|") t6, .str (PySem.Str.ofString "^") t7, .str (PySem.Str.ofString "&^") t8]) : ∃ (o : Op) (t : Tok), v = .str o.text t := by
  simp only [List.mem_cons, List.not_mem_nil, or_false] at h
  rcases h with rfl | rfl | rfl | rfl | rfl | rfl | rfl | rfl | rfl
  · exact ⟨.add, _, rfl⟩
  · exact ⟨.sub, _, rfl⟩
  · exact ⟨.mul, _, rfl⟩
  · exact ⟨.div, _, rfl⟩
  · exact ⟨.mod, _, rfl⟩
  · exact ⟨.band, _, rfl⟩
  · exact ⟨.bor, _, rfl⟩
  · exact ⟨.bxor, _, rfl⟩
  · exact ⟨.bnot, _, rfl⟩
theorem due_c {w : World} {news : List (Addr × Obj)} {kv : Value} {u : Bool} {lo hi a b : Int} {ta tb to : Tok} {o : Op} (hkn : KN kv u lo hi) (ha : -18446744073709551616 < a) (ha2 : a < 18446744073709551616) (hb : -18446744073709551616 < b) (hb2 : b < 18446744073709551616) :
    CallsR 4 w 206 [.str o.text to, .int a ta, .int b tb, kv] news (fun v n' => ((spec o a b lo hi).Val v) ∧ n' = news) False := by
  cases o
  · exact due_add hkn ha ha2 hb hb2
  · exact due_sub hkn ha ha2 hb hb2
  · exact due_mul hkn ha ha2 hb hb2
  · exact due_div hkn ha ha2 hb hb2
  · exact due_mod hkn ha ha2 hb hb2
  · exact due_bit rfl hkn ha ha2 hb hb2
  · exact due_bit rfl hkn ha ha2 hb hb2
  · exact due_bit rfl hkn ha ha2 hb hb2
  · exact due_bit rfl hkn ha ha2 hb hb2
  · exact due_cmp rfl hkn ha ha2 hb hb2
  · exact due_cmp rfl hkn ha ha2 hb hb2
  · exact due_cmp rfl hkn ha ha2 hb hb2
  · exact due_cmp rfl hkn ha ha2 hb hb2
  · exact due_cmp rfl hkn ha ha2 hb hb2
  · exact due_cmp rfl hkn ha ha2 hb hb2
theorem off_step {X : Addr} {oX : Obj} {cs cs' rest led : List (Addr × Obj)} (hn : ∀ q ∈ cs', q ∈ cs ∨ ∀ q' ∈ led, q'.1 < q.1) (hm : (X, oX) ∈ led) (h : ∀ p ∈ cs ++ rest, p.1 ≠ X) : ∀ p ∈ cs' ++ rest, p.1 ≠ X := fun p hp => by
  rcases List.mem_append.mp hp with hp | hp
  · rcases hn p hp with z | z
    · exact h p (List.mem_append_left _ z)
    · exact Nat.ne_of_gt (z _ hm)
  · exact h p (List.mem_append_right _ hp)

theorem ne_res {prog : Program} {w : World} {A : Around} {E : Value → Shared → Prop} {s : Shared} {r : Res} {x y : Value} {Q : Value → Shared → Prop} (h1 : r.Val x) (h2 : r.Val y) (h : Q (.bool false) s) : wpAny (model prog w) A (compareOp .NotEq x y) Q E s := by
  cases r with
  | int i => obtain ⟨t, rfl⟩ := h1; obtain ⟨u, rfl⟩ := h2; exact PyProof.Rows.ne_int (by simpa using h)
  | bool b => cases h1; cases h2; exact PyProof.Rows.ne_bool (by simpa using h)
  | fault => obtain ⟨t, rfl⟩ := h1; obtain ⟨u, rfl⟩ := h2; exact PyProof.Rows.ne_str (by simpa using h)
theorem eq_res {prog : Program} {w : World} {A : Around} {E : Value → Shared → Prop} {s : Shared} {r : Res} {x y : Value} {Q : Value → Shared → Prop} (h1 : r.Val x) (h2 : r.Val y) (h : Q (.bool true) s) : wpAny (model prog w) A (compareOp .Eq x y) Q E s := by
  cases r with
  | int i => obtain ⟨t, rfl⟩ := h1; obtain ⟨u, rfl⟩ := h2; exact PyProof.Rows.eq_int (by simpa using h)
  | bool b => cases h1; cases h2; exact PyProof.Rows.eq_bool (by simpa using h)
  | fault => obtain ⟨t, rfl⟩ := h1; obtain ⟨u, rfl⟩ := h2; exact PyProof.Rows.eq_str (by simpa using h)
theorem many_in {v : Value} {t0 t1 t2 t3 t4 t5 t6 t7 t8 : Tok} (h : v ∈ #[Value.int 0 t0, .int 1 t1, .int 3 t2, .int 7 t3, .int 8 t4, .int 63 t5, .int 64 t6, .int 300 t7, .int (-1) t8].toList) : ∃ n t, v = .int n t ∧ -1 ≤ n ∧ n ≤ 300 := by
  simp only [List.mem_cons, List.not_mem_nil, or_false] at h
  rcases h with rfl | rfl | rfl | rfl | rfl | rfl | rfl | rfl | rfl <;> exact ⟨_, _, rfl, by decide, by decide⟩
theorem codes_grow {codes codes' cs' led : List (Addr × Obj)} {X : Addr} {oX : Obj} (hc : ∀ q ∈ codes', q ∈ codes ∨ @LT.lt Nat _ X q.1) (n : ∀ q ∈ cs', q ∈ codes' ∨ ∀ q' ∈ led, q'.1 < q.1) (hm : (X, oX) ∈ led) : ∀ q ∈ cs', q ∈ codes ∨ @LT.lt Nat _ X q.1 :=
  fun q hq => (n q hq).elim (hc q) fun z => .inr (z _ hm)
theorem codes_off {codes codes' news : List (Addr × Obj)} {X Y : Addr} (hc : ∀ q ∈ codes', q ∈ codes ∨ @LT.lt Nat _ X q.1) (h0 : ∀ p ∈ codes ++ news, p.1 ≠ Y) (hy : @LE.le Nat _ Y X) : ∀ p ∈ codes' ++ news, p.1 ≠ Y := fun p hp => by
  rcases List.mem_append.mp hp with hp | hp
  · rcases hc p hp with z | z
    · exact h0 p (List.mem_append_left _ z)
    · exact Nat.ne_of_gt (Nat.lt_of_le_of_lt hy z)
  · exact h0 p (List.mem_append_right _ hp)
theorem makeFunction_env {name qual : PySem.Str} {params : Arguments} {body : FuncBody} {scope : Scope} {e1 e2 : Env} {ds : List Value} {ks : List (Option Value)} {an : List (PySem.Str × Value)} {pos : Pos} {fl : Nat}
    (h1 : e1.globals = e2.globals) (h2 : e1.code = e2.code) (h3 : e1.builtins = e2.builtins) (h4 : e1.scope = e2.scope) (h5 : e1.cells = e2.cells) :
    makeFunction name qual params body scope e1 ds ks an pos fl = makeFunction name qual params body scope e2 ds ks an pos fl := by
  obtain ⟨a1, a2, a3, a4, a5, a6, a7, a8, a9⟩ := e1
  obtain ⟨b1, b2, b3, b4, b5, b6, b7, b8, b9⟩ := e2
  dsimp only at h1 h2 h3 h4 h5
  subst h1 h2 h3 h4 h5
  rfl
section
variable {M : Model} {A : Around} {E : Value → Shared → Prop} {s : Shared} {h₀ : Heap} {L c P : Addr} {m mg mb : PySem.Str → Option Value} {news : List (Addr × Obj)} {env : Env}
  {p : Program} {loose : List PySem.Str} {mean : ExcName → Option Value} {name qual : PySem.Str} {params : Arguments} {body : PySem.Expr} {scope : Scope} {ps : Array Value} {pos : Pos} {firstLine : Nat} {clos : List (PySem.Str × Addr)}
  {codes rest : List (Addr × Obj)} {g : Array Value → List (Addr × Obj) → List (Addr × Obj)}
theorem lam_env {Q : Value → Shared → Prop} (F : Fr h₀ L s.heap m) (N : News h₀ L s.heap news) (T : Top p loose mean mg mb h₀) (C : CodeHd h₀ c P) (hcd : env.code = .ref c) (hgl : env.globals = mainGlobals) (hbt : env.builtins = builtinsNs) (G : LedF P ps codes rest news g) (I : TabInv qual P ps codes) (hrest : ∀ q ∈ rest, q.1 ≠ P)
    (hcl : closureFor scope env = pure clos)
    (h : ∀ f c' oc vs t ctv ps' codes' h' tk, Fr h₀ L h' m → News h₀ L h' ((f, kla_obj name qual params body scope clos ((mg "__name__").getD .none) c' ctv) :: g ps' codes') → TabInv qual P ps' codes' →
      (c', oc) ∈ codes' → oc.data = .fields vs → vs[1]? = some (.str qual t) → (∀ q ∈ codes', q ∈ codes ∨ ∀ q' ∈ news, q'.1 < q.1) → (∀ q ∈ g ps' codes', q.1 < f) → Q (.ref f) { s with heap := h', toks := tk }) :
    wpAny M A (makeFunction name qual params (.expr body) scope env [] [] [] pos firstLine) Q E s := by
  rw [makeFunction_env (e2 := envX "" env.scope L 0 (.ref c) env.cells) hgl hcd hbt rfl rfl]
  exact lam_any F N T C rfl G I hrest hcl h
end

section
variable {prog : Program} {w : World} {A : Around} {E : Value → Shared → Prop} {s : Shared} {env : Env} {target : PySem.Expr} {body : List Stmt} {Q : Flow → Shared → Prop}

def TurnF (L : Addr) (s₁ : Shared) (I : Addr) (oI : Obj) (J : Heap → (PySem.Str → Option Value) → List (Addr × Obj) → Prop) (s' : Shared) : Prop :=
  ∃ h' tk' h₀ m rest, s' = { s₁ with heap := h', toks := tk' } ∧ J h₀ m rest ∧ Fr h₀ L h' m ∧ News h₀ L h' ((I, oI) :: rest) ∧ ∀ p ∈ rest, p.1 ≠ I

/-- a for over a list of the ledger, by what holds between the turns; the ground may turn -/
def ForInv (prog : Program) (w : World) (A : Around) (env : Env) (target : PySem.Expr) (body : List Stmt) (Q : Flow → Shared → Prop) (E : Value → Shared → Prop) (xv : Value) (s₁ : Shared) : Prop :=
  ∃ (l : Addr) (vs : List Value) (k : Nat) (h₀ : Heap) (m : PySem.Str → Option Value) (news : List (Addr × Obj)) (J : Heap → (PySem.Str → Option Value) → List (Addr × Obj) → Prop), xv = .ref l ∧ Fr h₀ env.locals s₁.heap m ∧ News h₀ env.locals s₁.heap news ∧ (∀ h₀ m rest, J h₀ m rest → (l, listOf vs.toArray k) ∈ rest) ∧ J h₀ m news ∧
    (∀ I h₀ m rest oI v h tk, v ∈ vs → J h₀ m rest → Fr h₀ env.locals h m → News h₀ env.locals h ((I, oI) :: rest) → (∀ p ∈ rest, p.1 ≠ I) → (∀ p ∈ news, p.1 < I) →
      wpAny (model prog w) A (assign target env v) (fun _ s₂ => wpAny (model prog w) A (execs body env) (fun f s₃ => match f with
        | .next => TurnF env.locals s₁ I oI J s₃
        | .cont => TurnF env.locals s₁ I oI J s₃
        | .brk => Q .next s₃
        | .ret v => Q (.ret v) s₃) E s₂) E { s₁ with heap := h, toks := tk }) ∧
    (∀ h₀ m rest h tk, J h₀ m rest → Fr h₀ env.locals h m → News h₀ env.locals h rest → Q .next { s₁ with heap := h, toks := tk })

theorem forInv_ {J : Addr → List Value → Nat → Heap → (PySem.Str → Option Value) → List (Addr × Obj) → Prop} {s₁ : Shared} {l : Addr} {vs : List Value} {k : Nat} {h₀ : Heap} {m : PySem.Str → Option Value} {news led : List (Addr × Obj)}
    (_N0 : News h₀ env.locals s₁.heap led) (_hv : (l, listOf vs.toArray k) ∈ led) (j : J l vs k h₀ m news) (hJ : ∀ h₀ m rest, J l vs k h₀ m rest → (l, listOf vs.toArray k) ∈ rest) (F : Fr h₀ env.locals s₁.heap m) (N : News h₀ env.locals s₁.heap news)
    (turn : ∀ I h₀ m rest oI v h tk, v ∈ vs → J l vs k h₀ m rest → Fr h₀ env.locals h m → News h₀ env.locals h ((I, oI) :: rest) → (∀ p ∈ rest, p.1 ≠ I) → (∀ p ∈ news, p.1 < I) →
      wpAny (model prog w) A (assign target env v) (fun _ s₂ => wpAny (model prog w) A (execs body env) (fun f s₃ => match f with
        | .next => TurnF env.locals s₁ I oI (J l vs k) s₃
        | .cont => TurnF env.locals s₁ I oI (J l vs k) s₃
        | .brk => Q .next s₃
        | .ret v => Q (.ret v) s₃) E s₂) E { s₁ with heap := h, toks := tk })
    (fin : ∀ h₀ m rest h tk, J l vs k h₀ m rest → Fr h₀ env.locals h m → News h₀ env.locals h rest → Q .next { s₁ with heap := h, toks := tk }) :
    ForInv prog w A env target body Q E (.ref l) s₁ := ⟨l, vs, k, h₀, m, news, J l vs k, rfl, F, N, hJ, j, turn, fin⟩

theorem news_ext {h₀ h h' : Heap} {L I : Addr} {oI oI' : Obj} {rest : List (Addr × Obj)} (N : News h₀ L h ((I, oI) :: rest)) (off : ∀ p ∈ rest, p.1 ≠ I) (hx : Heap.ExtBut I h h') (hI : h'.get? I = some oI') : News h₀ L h' ((I, oI') :: rest) := fun q hq => by
  rcases List.mem_cons.mp hq with rfl | hq
  · exact ⟨hI, (N _ (.head _)).2⟩
  · exact ⟨hx _ _ (off q hq) (N q (.tail _ hq)).1, (N q (.tail _ hq)).2⟩

def ForAt (L : Addr) (s₁ : Shared) (l I : Addr) (len : Nat) (J : Heap → (PySem.Str → Option Value) → List (Addr × Obj) → Prop) (n : Nat) (s' : Shared) : Prop :=
  HeldC (fun G => ∀ i h tk h₀ m rest oI, n = len + 1 - i → i ≤ len → s' = { s₁ with heap := h, toks := tk } → J h₀ m rest → Fr h₀ L h m → News h₀ L h ((I, oI) :: rest) → (∀ p ∈ rest, p.1 ≠ I) → ItO l i oI → G)
theorem For_inv {iter : PySem.Expr} {pos : Pos} (h : wpAny (model prog w) A (eval iter env) (fun xv s₁ => ForInv prog w A env target body Q E xv s₁) E s) (hh : A.handled = none)
    (hs : ∀ x, foldedSetIterable iter env x = pure x := by intro _; rfl) (hE : PassesOwn (model prog w) A env E := by passes_own) :
    wpAny (model prog w) A (exec (.For target iter body [] pos) env) Q E s := by
  refine wpAny_For (wpAny_mono h (fun xv s₁ h₁ => ?_) fun _ _ e => e) hs
  obtain ⟨l, vs, k, h₀, m, news, J, rfl, F, N, hJ, j, turn, fin⟩ := h₁
  have nl := N _ (hJ _ _ _ j)
  have nI : ∀ q ∈ news, q.1 < s₁.heap.objs.size := fun q hq => Heap.lt_size (N q hq).1
  refine wpAny_pyIter_list (items := vs.toArray) ⟨_, nl.1, rfl, k, rfl⟩ ?_
  have F0 := F.push { cls := .type "list_iterator", data := .fields #[.ref l, .int 0 0] }
  have N0 := News.push F N { cls := .type "list_iterator", data := .fields #[.ref l, .int 0 0] }
  generalize s₁.heap.push { cls := .type "list_iterator", data := .fields #[.ref l, .int 0 0] } = hp at *
  generalize s₁.heap.objs.size = I at *
  refine codeAny_forLoop_any (fun n s' => ForAt env.locals s₁ l I vs.length J n s') ?_ (vs.length + 1)
    (HeldC.mk fun G k9 => k9 0 hp s₁.toks h₀ m news _ rfl (Nat.zero_le _) rfl j F0 N0 (fun p hp => Nat.ne_of_lt (nI p hp)) ⟨rfl, rfl⟩)
  clear F0 N0 j nl F N
  intro n s' h9
  unfold ForAt at h9
  with_reducible refine heldC_ h9 ?_
  clear h9
  intro i h tk h₀ m rest oI e1 hi e2 j F N off hI
  subst e1 e2
  have nIo := N (I, oI) (.head _)
  have nl := N _ (.tail _ (hJ _ _ _ j))
  cases hv : vs[i]? with
  | none =>
    refine wpAny_pyNext_list_end hh ⟨oI, nIo.1, hI.1, hI.2⟩ (items := vs.toArray) ⟨_, nl.1, rfl, k, rfl⟩ (by simpa using hv) fun h' hx => ?_
    exact wpAny_execs_nil (fin h₀ m rest h' tk j (fr_ext F hx nIo.2.1 nIo.2.2) fun q hq => ⟨hx _ _ (off q hq) (N q (.tail _ hq)).1, (N q (.tail _ hq)).2⟩)
  | some v =>
    have hlt : i < vs.length := (List.getElem?_eq_some_iff.mp hv).1
    refine wpAny_pyNext_list_item ⟨oI, nIo.1, hI.1, hI.2⟩ (items := vs.toArray) ⟨_, nl.1, rfl, k, rfl⟩ (x := v) (by simpa using hv) fun h' hit hs' => ?_
    obtain ⟨oI', hI1, hI2, hI3⟩ := hit
    refine letGo_listiter ⟨oI', hI1, hI2, hI3⟩ ?_
    refine wpAny_mono (turn I h₀ m rest oI' v h' tk (List.mem_of_getElem? hv) j (fr_ext F hs'.extBut nIo.2.1 nIo.2.2) (news_ext N off hs'.extBut hI1) off nI) (fun _ s₂ h₂ => wpAny_mono h₂ (fun f s₃ h₃ => ?_) fun _ _ e => hE _ _ e) fun _ _ e => hE _ _ e
    have again : TurnF env.locals s₁ I oI' J s₃ → ∃ n', n' < vs.length + 1 - i ∧ ForAt env.locals s₁ l I vs.length J n' s₃ := by
      rintro ⟨h3, tk3, g3, m3, rest3, rfl, j3, F3, N3, off3⟩
      exact ⟨vs.length + 1 - (i + 1), by omega, HeldC.mk fun G k9 => k9 (i + 1) h3 tk3 g3 m3 rest3 oI' rfl hlt rfl j3 F3 N3 off3 ⟨hI2, hI3⟩⟩
    cases f with
    | next => exact again h₃
    | cont => exact again h₃
    | brk => exact h₃
    | ret v => exact h₃
end
end

-- OT
section
theorem start_OT : True := by
  w_top off
  k_with_none
  (k_with "eval Constant str" => refine kstr ?_)
  (k_with "eval Constant int" => refine kint ?_)
  (k_with "eval Constant bytes" => refine kbyt ?_)
  (k_with "binaryOp Add int int" => with_reducible refine kadd ?_)
  (k_with "binaryOp Sub int int" => with_reducible refine ksub ?_)
  (k_with "unaryOp USub int" => with_reducible refine kneg ?_)
  (k_with "storeName" => (k_here; k_dflt (refine kstL (by k_asm) (by k_asm) ?_ (rfl) (rfl); k_whole; intro h9 F9 N9; (try k_sweep))))
  (k_with "newTuple" => (k_here; k_dflt (refine ktuK (by k_asm) (by k_asm) ?_ (by kmk_size)); intro D7 h7 F7 N7 l7; (try k_lt l7); (try k_sweep)))
  (k_with "newList" => (k_here; k_dflt (refine kltK (by k_asm) (by k_asm) ?_ (by size_fits)); intro D7 h7 F7 N7 l7; (try k_lt l7); (try k_sweep)))
  (k_with "steps9" => repeat' (first | (k_unfold; (try dsimp only)) | (k_end; wrow_close) | (walk1 <;> (try dsimp only)) | (dsimp only; walk1) | (leave1; walk_say "STEP leave1"; try dsimp only) | (with_reducible refine popN (by assumption) ?_) | (with_reducible refine popR (by assumption) ?_) | ((refine pop_ (by assumption) ?_); (try dsimp only)) | fail "no step"))
  (k_with "all9" => focus ((repeat (first | exact List.forall_mem_nil _ | with_reducible assumption | (refine List.forall_mem_cons.mpr ⟨by k_ne, ?_⟩))); done))
  (k_with "room9" => first | exact rl1 (by with_reducible assumption) (Nat.le_of_ble_eq_true rfl) | exact rl0 (by with_reducible assumption) (Nat.le_of_ble_eq_true rfl) | exact rl2 (by with_reducible assumption) (Nat.le_of_ble_eq_true rfl) | exact rlz (by assumption))
  (k_with "ne9" => (refine neN ?_; (try dsimp only); first | (refine Nat.ne_of_lt ?_; focus ((repeat (first | with_reducible assumption | exact cj0 (by with_reducible assumption) | exact cj1 (by with_reducible assumption) | exact cj2 (by with_reducible assumption) | exact cj3 (by with_reducible assumption) | exact cj4 (by with_reducible assumption) | exact cj5 (by with_reducible assumption) | exact cj6 (by with_reducible assumption) | exact cj7 (by with_reducible assumption) | exact cj8 (by with_reducible assumption) | exact cj9 (by with_reducible assumption) | exact cj10 (by with_reducible assumption) | exact cj11 (by with_reducible assumption) | exact cj12 (by with_reducible assumption) | exact cj13 (by with_reducible assumption) | exact cj14 (by with_reducible assumption) | exact cj15 (by with_reducible assumption) | (refine lt_tr (by with_reducible assumption) ?_))); done)) | (refine Nat.ne_of_gt ?_; focus ((repeat (first | with_reducible assumption | exact cj0 (by with_reducible assumption) | exact cj1 (by with_reducible assumption) | exact cj2 (by with_reducible assumption) | exact cj3 (by with_reducible assumption) | exact cj4 (by with_reducible assumption) | exact cj5 (by with_reducible assumption) | exact cj6 (by with_reducible assumption) | exact cj7 (by with_reducible assumption) | exact cj8 (by with_reducible assumption) | exact cj9 (by with_reducible assumption) | exact cj10 (by with_reducible assumption) | exact cj11 (by with_reducible assumption) | exact cj12 (by with_reducible assumption) | exact cj13 (by with_reducible assumption) | exact cj14 (by with_reducible assumption) | exact cj15 (by with_reducible assumption) | (refine lt_tr (by with_reducible assumption) ?_))); done))))
  (k_with "mem9" => focus ((repeat (first | with_reducible assumption | exact List.mem_append_left _ (by with_reducible assumption) | exact List.mem_append_right _ (by with_reducible assumption) | exact List.Mem.head _ | refine List.Mem.tail _ ?_)); done))
  trivial

theorem turnF_mk {L : Addr} {s₁ : Shared} {I : Addr} {oI : Obj} {J : Heap → (PySem.Str → Option Value) → List (Addr × Obj) → Prop} {s' : Shared} {h' : Heap} {tk' : Tok} {h₀ : Heap} {m : PySem.Str → Option Value} {rest : List (Addr × Obj)}
    (e : s' = { s₁ with heap := h', toks := tk' }) (j : J h₀ m rest) (F : Fr h₀ L h' m) (N : News h₀ L h' ((I, oI) :: rest)) (o : ∀ p ∈ rest, p.1 ≠ I) : TurnF L s₁ I oI J s' := ⟨h', tk', h₀, m, rest, e, j, F, N, o⟩
theorem turnEnd_mk {L : Addr} {s₁ : Shared} {I C D c : Addr} {oI oc : Obj} {J : Heap → (PySem.Str → Option Value) → List (Addr × Obj) → Prop} {s' : Shared} {h' : Heap} {tk' : Tok} {h₀ : Heap} {m : PySem.Str → Option Value} {rest : List (Addr × Obj)}
    (e : s' = { s₁ with heap := h', toks := tk' }) (j : J h₀ m rest) (F : Fr h₀ L h' m) (N : News h₀ L h' (Led4 I C D c oI oc rest)) (o : Off4 I C D c rest) : TurnEnd L s₁ I C D c oI oc J false s' := ⟨rfl, h', tk', h₀, m, rest, e, j, F, N, o⟩
theorem leaveT_mk {A₀ : Around} {base : Heap} {outer : List Env} {env : Env} {K : Frag} {p : Program} {loose : List PySem.Str} {mean : ExcName → Option Value} {mg mb : PySem.Str → Option Value} {g₀ h₀ : Heap} {L : Addr} {m : PySem.Str → Option Value} {g : Heap} {R : Result → Shared → Prop} {v : Value} {s' : Shared}
    {g' : Heap} {L' : Addr} {m' : PySem.Str → Option Value} {news' : List (Addr × Obj)} (T : KtsTurn (frs (env :: outer)) g g') (F : Fr g' L' s'.heap m') (N : News g' L' s'.heap news')
    (k : ∀ h₀', KtsTurn (frs outer) g₀ h₀' → Fr h₀' L s'.heap m → News h₀' L s'.heap news' → Below A₀ base outer h₀' → K.In h₀' → Top p loose mean mg mb h₀' → KtsDicts (frs outer) h₀' → R (.ok (.ret v)) s') : LeaveT A₀ base outer env K p loose mean mg mb g₀ h₀ L m g R v s' := ⟨g', L', m', news', T, F, N, k⟩
end

-- SH
section
theorem start_SH : True := by
  w_top off
  k_with_none
  (k_with "eval Constant str" => refine kstr ?_)
  (k_with "eval Constant int" => refine kint ?_)
  (k_with "eval Constant bytes" => refine kbyt ?_)
  (k_with "binaryOp Add int int" => with_reducible refine kadd ?_)
  (k_with "binaryOp Sub int int" => with_reducible refine ksub ?_)
  (k_with "unaryOp USub int" => with_reducible refine kneg ?_)
  (k_with "storeName" => (k_here; k_dflt (refine kstL (by k_asm) (by k_asm) ?_ (rfl) (rfl); k_whole; intro h9 F9 N9; (try k_sweep))))
  (k_with "newTuple" => (k_here; k_dflt (refine ktuK (by k_asm) (by k_asm) ?_ (by kmk_size)); intro D7 h7 F7 N7 l7; (try k_lt l7); (try k_sweep)))
  (k_with "newList" => (k_here; k_dflt (refine kltK (by k_asm) (by k_asm) ?_ (by size_fits)); intro D7 h7 F7 N7 l7; (try k_lt l7); (try k_sweep)))
  (k_with "steps9" => repeat' (first | (k_unfold; (try dsimp only)) | (k_end; wrow_close) | (walk1 <;> (try dsimp only)) | (dsimp only; walk1) | (leave1; walk_say "STEP leave1"; try dsimp only) | (with_reducible refine popN (by assumption) ?_) | (with_reducible refine popR (by assumption) ?_) | ((refine pop_ (by assumption) ?_); (try dsimp only)) | fail "no step"))
  (k_with "all9" => focus ((repeat (first | exact List.forall_mem_nil _ | with_reducible assumption | (refine List.forall_mem_cons.mpr ⟨by k_ne, ?_⟩))); done))
  (k_with "room9" => first | exact rl1 (by with_reducible assumption) (Nat.le_of_ble_eq_true rfl) | exact rl0 (by with_reducible assumption) (Nat.le_of_ble_eq_true rfl) | exact rl2 (by with_reducible assumption) (Nat.le_of_ble_eq_true rfl) | exact rlz (by assumption))
  (k_with "ne9" => (refine neN ?_; (try dsimp only); first | (refine Nat.ne_of_lt ?_; focus ((repeat (first | with_reducible assumption | exact cj0 (by with_reducible assumption) | exact cj1 (by with_reducible assumption) | exact cj2 (by with_reducible assumption) | exact cj3 (by with_reducible assumption) | exact cj4 (by with_reducible assumption) | exact cj5 (by with_reducible assumption) | exact cj6 (by with_reducible assumption) | exact cj7 (by with_reducible assumption) | exact cj8 (by with_reducible assumption) | exact cj9 (by with_reducible assumption) | exact cj10 (by with_reducible assumption) | exact cj11 (by with_reducible assumption) | exact cj12 (by with_reducible assumption) | exact cj13 (by with_reducible assumption) | exact cj14 (by with_reducible assumption) | exact cj15 (by with_reducible assumption) | (refine lt_tr (by with_reducible assumption) ?_))); done)) | (refine Nat.ne_of_gt ?_; focus ((repeat (first | with_reducible assumption | exact cj0 (by with_reducible assumption) | exact cj1 (by with_reducible assumption) | exact cj2 (by with_reducible assumption) | exact cj3 (by with_reducible assumption) | exact cj4 (by with_reducible assumption) | exact cj5 (by with_reducible assumption) | exact cj6 (by with_reducible assumption) | exact cj7 (by with_reducible assumption) | exact cj8 (by with_reducible assumption) | exact cj9 (by with_reducible assumption) | exact cj10 (by with_reducible assumption) | exact cj11 (by with_reducible assumption) | exact cj12 (by with_reducible assumption) | exact cj13 (by with_reducible assumption) | exact cj14 (by with_reducible assumption) | exact cj15 (by with_reducible assumption) | (refine lt_tr (by with_reducible assumption) ?_))); done))))
  (k_with "mem9" => focus ((repeat (first | with_reducible assumption | exact List.mem_append_left _ (by with_reducible assumption) | exact List.mem_append_right _ (by with_reducible assumption) | exact List.Mem.head _ | refine List.Mem.tail _ ?_)); done))
  trivial

theorem ltN {a b : Nat} (h : a < b) : @LT.lt Nat _ a b := h
theorem shr_eq {a n lo hi : Int} (h0 : ¬ n < 0) (h1 : n ≤ 300) (ha : lo ≤ a ∧ a ≤ hi) (hz : lo ≤ 0 ∧ 0 ≤ hi) : shr a n lo hi = .int (a.fdiv (2 ^ n.toNat)) := by
  have h2 : (0 : Int) < 2 ^ n.toNat := Int.pow_pos (by decide)
  unfold shr
  rw [if_neg h0, if_neg (by omega : ¬ (2*512 < n))]
  have hb : lo ≤ a.fdiv (2 ^ n.toNat) ∧ a.fdiv (2 ^ n.toNat) ≤ hi := by
    rw [Int.fdiv_eq_ediv_of_nonneg _ (Int.le_of_lt h2)]
    generalize (2 : Int) ^ n.toNat = d at *
    by_cases ha0 : 0 ≤ a
    · have := Int.ediv_nonneg ha0 (Int.le_of_lt h2); have := Int.ediv_le_self d ha0; omega
    · have h3 : a / d < 0 := Int.ediv_neg_of_neg_of_pos (by omega) h2
      have : a ≤ a / d := by
        apply Int.le_ediv_of_mul_le h2
        have : a * (d - 1) ≤ 0 := Int.mul_nonpos_of_nonpos_of_nonneg (by omega) (by omega)
        rw [Int.mul_sub] at this; omega
      omega
  unfold kept; rw [if_pos hb]
theorem shr_neg {a n lo hi : Int} (h0 : n < 0) : shr a n lo hi = .fault := by unfold shr; rw [if_pos h0]
theorem shl_neg {a n lo hi : Int} (h0 : n < 0) : shl a n lo hi = .fault := by unfold shl; rw [if_pos h0]
theorem shl_kept {a n lo hi : Int} (h0 : ¬ n < 0) (h1 : n ≤ 300) : shl a n lo hi = kept lo hi (a * 2 ^ n.toNat) := by
  unfold shl; rw [if_neg h0]
  split
  · subst a; rw [Int.zero_mul]
  · rw [if_neg (by omega)]
theorem shr_small {a n lo hi : Int} {t : Tok} (h0 : ¬ n < 0) (h1 : n ≤ 300) (ha : lo ≤ a ∧ a ≤ hi) (hz : lo ≤ 0 ∧ 0 ≤ hi) : (shr a n lo hi).Val (.int (a.fdiv (2 ^ n.toNat)) t) := by
  rw [shr_eq h0 h1 ha hz]; exact ⟨_, rfl⟩
end

-- GL
section
theorem start_GL : True := by
  w_top off
  k_with_none
  (k_with "eval Constant str" => refine kstr ?_)
  (k_with "eval Constant int" => refine kint ?_)
  (k_with "eval Constant bytes" => refine kbyt ?_)
  (k_with "binaryOp Add int int" => with_reducible refine kadd ?_)
  (k_with "binaryOp Sub int int" => with_reducible refine ksub ?_)
  (k_with "unaryOp USub int" => with_reducible refine kneg ?_)
  (k_with "storeName" => (k_here; k_dflt (refine kstL (by k_asm) (by k_asm) ?_ (rfl) (rfl); k_whole; intro h9 F9 N9; (try k_sweep))))
  (k_with "newTuple" => (k_here; k_dflt (refine ktuK (by k_asm) (by k_asm) ?_ (by kmk_size)); intro D7 h7 F7 N7 l7; (try k_lt l7); (try k_sweep)))
  (k_with "newList" => (k_here; k_dflt (refine kltK (by k_asm) (by k_asm) ?_ (by size_fits)); intro D7 h7 F7 N7 l7; (try k_lt l7); (try k_sweep)))
  (k_with "steps9" => repeat' (first | (k_unfold; (try dsimp only)) | (k_end; wrow_close) | (walk1 <;> (try dsimp only)) | (dsimp only; walk1) | (leave1; walk_say "STEP leave1"; try dsimp only) | (with_reducible refine popN (by assumption) ?_) | (with_reducible refine popR (by assumption) ?_) | ((refine pop_ (by assumption) ?_); (try dsimp only)) | fail "no step"))
  (k_with "all9" => focus ((repeat (first | exact List.forall_mem_nil _ | with_reducible assumption | (refine List.forall_mem_cons.mpr ⟨by k_ne, ?_⟩))); done))
  (k_with "room9" => first | exact rl1 (by with_reducible assumption) (Nat.le_of_ble_eq_true rfl) | exact rl0 (by with_reducible assumption) (Nat.le_of_ble_eq_true rfl) | exact rl2 (by with_reducible assumption) (Nat.le_of_ble_eq_true rfl) | exact rlz (by assumption))
  (k_with "ne9" => (refine neN ?_; (try dsimp only); first | (refine Nat.ne_of_lt ?_; focus ((repeat (first | with_reducible assumption | exact cj0 (by with_reducible assumption) | exact cj1 (by with_reducible assumption) | exact cj2 (by with_reducible assumption) | exact cj3 (by with_reducible assumption) | exact cj4 (by with_reducible assumption) | exact cj5 (by with_reducible assumption) | exact cj6 (by with_reducible assumption) | exact cj7 (by with_reducible assumption) | exact cj8 (by with_reducible assumption) | exact cj9 (by with_reducible assumption) | exact cj10 (by with_reducible assumption) | exact cj11 (by with_reducible assumption) | exact cj12 (by with_reducible assumption) | exact cj13 (by with_reducible assumption) | exact cj14 (by with_reducible assumption) | exact cj15 (by with_reducible assumption) | (refine lt_tr (by with_reducible assumption) ?_))); done)) | (refine Nat.ne_of_gt ?_; focus ((repeat (first | with_reducible assumption | exact cj0 (by with_reducible assumption) | exact cj1 (by with_reducible assumption) | exact cj2 (by with_reducible assumption) | exact cj3 (by with_reducible assumption) | exact cj4 (by with_reducible assumption) | exact cj5 (by with_reducible assumption) | exact cj6 (by with_reducible assumption) | exact cj7 (by with_reducible assumption) | exact cj8 (by with_reducible assumption) | exact cj9 (by with_reducible assumption) | exact cj10 (by with_reducible assumption) | exact cj11 (by with_reducible assumption) | exact cj12 (by with_reducible assumption) | exact cj13 (by with_reducible assumption) | exact cj14 (by with_reducible assumption) | exact cj15 (by with_reducible assumption) | (refine lt_tr (by with_reducible assumption) ?_))); done))))
  (k_with "mem9" => focus ((repeat (first | with_reducible assumption | exact List.mem_append_left _ (by with_reducible assumption) | exact List.mem_append_right _ (by with_reducible assumption) | exact List.Mem.head _ | refine List.Mem.tail _ ?_)); done))
  trivial


theorem words_GL_52 : True := by
  (k_with "eval Call" => (((with_reducible show wpAny _ _ (eval (PySem.Expr.Call (PySem.Expr.Name _ _) _ [] _) _) _ _ _); k_dflt (refine Call_ ?_))))
  trivial
section
variable {w : World} {news : List (Addr × Obj)}

theorem words_GL_53 : True := by
  (k_with "eval Name" => ((k_here; k_dflt (refine nameX_F (by k_asm) (by exact rfl) (by assumption) (by assumption) ?_ (rfl) (rfl); k_whole))))
  (k_with "exec Raise some none" => ((k_here; refine raise_fault rfl ?_)))
  (k_with "call ref" => ((k_here; (with_reducible show wpAny _ _ (call (Value.ref 45) _) _ _ _); k_dflt (refine fault_made (by k_asm) (by k_asm) (by k_asm) (by k_asm) (by k_asm) (rfl) (rfl) (by first | exact rfl | assumption) (by ktr_room) ?_; k_whole); intro e9 t9 h9 tk9 oe9 F9 N9 hc9 hd9 hn9; (try dsimp only))))
  (k_with "FaultRaised" => ((refine fault_raised (by k_asm) (by k_asm) (by k_asm) (by assumption) (by assumption) ?_)))
  (k_with "leaving ref" => ((k_here; first | (refine leave_fault (by k_asm) (by k_asm) (by k_asm) (by assumption) (by assumption) (by assumption) ?_ (rfl) (by first | exact rfl | assumption); intro h9 RS9 U9; (try dsimp only)) | (refine leave_onE (by k_asm) (by k_asm) (by assumption) (by assumption) ?_ (rfl); intro h9 RS9 U9; (try dsimp only)))))
  (k_with "call ref" => (k_here; (with_reducible show wpAny _ _ (call (Value.ref 135) _) _ _ _); k_dflt (refine callsR_v (by k_asm) (by k_asm) (by k_asm) (by k_asm) (by k_asm) ?_; refine RestR.led _ _ _ _ (mul3_c (by assumption) (by assumption) (by assumption)) (by first | exact rfl | assumption) (by ktr_room) (by ktr_units) ?_ ?_; k_whole); rotate_left; intro e9 g9 h9 tk9 R9 FG9 U9 RS9; (try dsimp only); rotate_left; intro v9 h9 tk9 R9 F9 N9; (try dsimp only); (try k_fold)))
  trivial
set_option maxHeartbeats 8000000 in
theorem lam_gmul {a b : Int} {ta tb : Tok} {z0 : Nat} {f c' c_a c_b : Addr} {o_a o_b oc : Obj} {vs : Array Value} {qual : PySem.Str} {pm ctv : Value} {t : Tok} {q0 q1 q2 q3 q4 : Pos} (hf : (f, kla_obj "<lambda>" qual ⟨[], [], none, [], [], none, []⟩ (PySem.Expr.Call (PySem.Expr.Name (PySem.Str.ofString "const_binary") q0) [PySem.Expr.Constant (PySem.Const.str (PySem.Str.ofString "*")) z0 q2, PySem.Expr.Name (PySem.Str.ofString "a") q3, PySem.Expr.Name (PySem.Str.ofString "b") q4] [] q1) { kind := .function, names := [(PySem.Str.ofString "a", NameKind.free), (PySem.Str.ofString "b", NameKind.free), (PySem.Str.ofString "const_binary", NameKind.globalImplicit)], isGenerator := false, isCoroutine := false } [(PySem.Str.ofString "b", c_b), (PySem.Str.ofString "a", c_a)] pm c' ctv) ∈ news) (hc : (c', oc) ∈ news) (hcd : oc.data = .fields vs) (hcv : vs[1]? = some (.str qual t)) (m_a : (c_a, o_a) ∈ news) (d_a : o_a.data = .cell (some (.int a ta))) (m_b : (c_b, o_b) ∈ news) (d_b : o_b.data = .cell (some (.int b tb))) (hm : IntMulOk a b) (hm2 : IntMulOk b (a.tdiv b)) (hb : b.natAbs.log2 < 9000) : CallsR 10 w f [] news (fun v n' => ((spec .mul a b (1 - 2 ^ 512) (2 ^ 512 - 1)).Val v ∧ spec .mul a b (1 - 2 ^ 512) (2 ^ 512 - 1) ≠ .fault) ∧ n' = news) (spec .mul a b (1 - 2 ^ 512) (2 ^ 512 - 1) = .fault) := by
  w_on
  unfold CallsR
  k_fill
  intro p loose mean mg mb dp un gd cn cs fa ccd cl outer A₀ base h₀ L m hS gS dS tS oS Q E hB hF hX hN hT hk hd hu hret hrais
  refine wpAny_call ?_
  k_dflt (refine' kla_code ?k1 ?k2 ?k3 ?k4 ?k5 ?kA ?kF ?kK ?k6 ?k7 ?k8 ?k9 ?kB ?_ ?c2 ?c3 ?c4 ?c5; (case kA => exact rfl); (case kF => exact rfl); (case kK => assumption); (case k1 => k_asm); (case k2 => k_asm); (case k3 => k_asm); (case k4 => k_asm); (case k5 => k_asm); (case k6 => exact hf); (case k7 => exact codeRec_news (by k_asm) hc hcd hcv); (case k8 => ktr_room); (case k9 => exact rfl); (case c5 => decide); (case kB => exact locs rfl); (case c2 => exact rfl); (case c3 => exact rfl); (case c4 => exact rfl); k_whole; intro g' L' h' FG' F' N' B' X' T'; (try dsimp only); (try k_lift B'); (try k_fold))
  k_steps
  all_goals first
      | exact hret _ _ _ _ ⟨by assumption, rfl⟩ (by k_asm) (by first | k_asm | exact news_tl (by k_asm) | exact news_tl (news_tl (by k_asm)))
      | ((refine' hrais _ _ _ _ ?_ ?_ ?_ (by first | assumption | exact raised_tl (by assumption) | exact raised_tl (raised_tl (by assumption)))) <;> first | assumption | k_asm)
      | contradiction
      | trace_state


theorem told_gmul {a b : Int} {ta tb : Tok} {z0 : Nat} {f c' c_a c_b : Addr} {o_a o_b oc : Obj} {vs : Array Value} {qual : PySem.Str} {pm ctv : Value} {t : Tok} {q0 q1 q2 q3 q4 : Pos} (hf : (f, kla_obj "<lambda>" qual ⟨[], [], none, [], [], none, []⟩ (PySem.Expr.Call (PySem.Expr.Name (PySem.Str.ofString "const_binary") q0) [PySem.Expr.Constant (PySem.Const.str (PySem.Str.ofString "*")) z0 q2, PySem.Expr.Name (PySem.Str.ofString "a") q3, PySem.Expr.Name (PySem.Str.ofString "b") q4] [] q1) { kind := .function, names := [(PySem.Str.ofString "a", NameKind.free), (PySem.Str.ofString "b", NameKind.free), (PySem.Str.ofString "const_binary", NameKind.globalImplicit)], isGenerator := false, isCoroutine := false } [(PySem.Str.ofString "b", c_b), (PySem.Str.ofString "a", c_a)] pm c' ctv) ∈ news) (hc : (c', oc) ∈ news) (hcd : oc.data = .fields vs) (hcv : vs[1]? = some (.str qual t)) (m_a : (c_a, o_a) ∈ news) (d_a : o_a.data = .cell (some (.int a ta))) (m_b : (c_b, o_b) ∈ news) (d_b : o_b.data = .cell (some (.int b tb))) (hm : IntMulOk a b) (hm2 : IntMulOk b (a.tdiv b)) (hb : b.natAbs.log2 < 9000) : CallsS 11 w 213 [.ref f] news (fun v n' => (spec .mul a b (1 - 2 ^ 512) (2 ^ 512 - 1)).Val v ∧ n' = news) :=
  told_res hf (lam_gmul hf hc hcd hcv m_a d_a m_b d_b hm hm2 hb)
theorem words_GL_54 : True := by
  (k_with "call ref" => (k_here; (with_reducible show wpAny _ _ (call (Value.ref 135) _) _ _ _); k_dflt (refine callsR_v (by k_asm) (by k_asm) (by k_asm) (by k_asm) (by k_asm) ?_; refine RestR.led _ _ _ _ (div3_c (by assumption) (by assumption) (by assumption)) (by first | exact rfl | assumption) (by ktr_room) (by ktr_units) ?_ ?_; k_whole); rotate_left; intro e9 g9 h9 tk9 R9 FG9 U9 RS9; (try dsimp only); rotate_left; intro v9 h9 tk9 R9 F9 N9; (try dsimp only); (try k_fold)))
  (k_with "binaryOp Mult int int" => ((k_here; k_dflt (refine mul_0 ?_ (by assumption)))))
  trivial
set_option maxHeartbeats 8000000 in
theorem lam_gdiv {a : Int} {ta : Tok} {z0 z1 : Nat} {p0 p1 : Pos} {f c' c_a : Addr} {o_a oc : Obj} {vs : Array Value} {qual : PySem.Str} {pm ctv : Value} {t : Tok} {q0 q1 q2 q3 q4 : Pos} (hf : (f, kla_obj "<lambda>" qual ⟨[], [], none, [], [], none, []⟩ (PySem.Expr.Call (PySem.Expr.Name (PySem.Str.ofString "const_binary") q0) [PySem.Expr.Constant (PySem.Const.str (PySem.Str.ofString "/")) z0 q2, PySem.Expr.BinOp (PySem.Expr.Name (PySem.Str.ofString "a") p0) PySem.Operator.Mult (PySem.Expr.Constant (PySem.Const.int 3) z1 p1) q3, PySem.Expr.Name (PySem.Str.ofString "a") q4] [] q1) { kind := .function, names := [(PySem.Str.ofString "a", NameKind.free), (PySem.Str.ofString "const_binary", NameKind.globalImplicit)], isGenerator := false, isCoroutine := false } [(PySem.Str.ofString "a", c_a)] pm c' ctv) ∈ news) (hc : (c', oc) ∈ news) (hcd : oc.data = .fields vs) (hcv : vs[1]? = some (.str qual t)) (m_a : (c_a, o_a) ∈ news) (d_a : o_a.data = .cell (some (.int a ta))) (h3 : IntMulOk a 3) (hm : IntMulOk (a * 3) a) (hm2 : IntMulOk a ((a * 3).tdiv a)) (hb : a.natAbs.log2 < 9000) : CallsR 10 w f [] news (fun v n' => ((spec .div (a * 3) a (1 - 2 ^ 512) (2 ^ 512 - 1)).Val v ∧ spec .div (a * 3) a (1 - 2 ^ 512) (2 ^ 512 - 1) ≠ .fault) ∧ n' = news) (spec .div (a * 3) a (1 - 2 ^ 512) (2 ^ 512 - 1) = .fault) := by
  w_on
  unfold CallsR
  k_fill
  intro p loose mean mg mb dp un gd cn cs fa ccd cl outer A₀ base h₀ L m hS gS dS tS oS Q E hB hF hX hN hT hk hd hu hret hrais
  refine wpAny_call ?_
  k_dflt (refine' kla_code ?k1 ?k2 ?k3 ?k4 ?k5 ?kA ?kF ?kK ?k6 ?k7 ?k8 ?k9 ?kB ?_ ?c2 ?c3 ?c4 ?c5; (case kA => exact rfl); (case kF => exact rfl); (case kK => assumption); (case k1 => k_asm); (case k2 => k_asm); (case k3 => k_asm); (case k4 => k_asm); (case k5 => k_asm); (case k6 => exact hf); (case k7 => exact codeRec_news (by k_asm) hc hcd hcv); (case k8 => ktr_room); (case k9 => exact rfl); (case c5 => decide); (case kB => exact locs rfl); (case c2 => exact rfl); (case c3 => exact rfl); (case c4 => exact rfl); k_whole; intro g' L' h' FG' F' N' B' X' T'; (try dsimp only); (try k_lift B'); (try k_fold))
  k_steps
  all_goals first
      | exact hret _ _ _ _ ⟨by assumption, rfl⟩ (by k_asm) (by first | k_asm | exact news_tl (by k_asm) | exact news_tl (news_tl (by k_asm)))
      | ((refine' hrais _ _ _ _ ?_ ?_ ?_ (by first | assumption | exact raised_tl (by assumption) | exact raised_tl (raised_tl (by assumption)))) <;> first | assumption | k_asm)
      | contradiction
      | trace_state


theorem told_gdiv {a : Int} {ta : Tok} {z0 z1 : Nat} {p0 p1 : Pos} {f c' c_a : Addr} {o_a oc : Obj} {vs : Array Value} {qual : PySem.Str} {pm ctv : Value} {t : Tok} {q0 q1 q2 q3 q4 : Pos} (hf : (f, kla_obj "<lambda>" qual ⟨[], [], none, [], [], none, []⟩ (PySem.Expr.Call (PySem.Expr.Name (PySem.Str.ofString "const_binary") q0) [PySem.Expr.Constant (PySem.Const.str (PySem.Str.ofString "/")) z0 q2, PySem.Expr.BinOp (PySem.Expr.Name (PySem.Str.ofString "a") p0) PySem.Operator.Mult (PySem.Expr.Constant (PySem.Const.int 3) z1 p1) q3, PySem.Expr.Name (PySem.Str.ofString "a") q4] [] q1) { kind := .function, names := [(PySem.Str.ofString "a", NameKind.free), (PySem.Str.ofString "const_binary", NameKind.globalImplicit)], isGenerator := false, isCoroutine := false } [(PySem.Str.ofString "a", c_a)] pm c' ctv) ∈ news) (hc : (c', oc) ∈ news) (hcd : oc.data = .fields vs) (hcv : vs[1]? = some (.str qual t)) (m_a : (c_a, o_a) ∈ news) (d_a : o_a.data = .cell (some (.int a ta))) (h3 : IntMulOk a 3) (hm : IntMulOk (a * 3) a) (hm2 : IntMulOk a ((a * 3).tdiv a)) (hb : a.natAbs.log2 < 9000) : CallsS 11 w 213 [.ref f] news (fun v n' => (spec .div (a * 3) a (1 - 2 ^ 512) (2 ^ 512 - 1)).Val v ∧ n' = news) :=
  told_res hf (lam_gdiv hf hc hcd hcv m_a d_a h3 hm hm2 hb)
theorem words_GL_55 : True := by
  (k_with "call ref" => (k_here; (with_reducible show wpAny _ _ (call (Value.ref 135) _) _ _ _); k_dflt (refine callsR_v (by k_asm) (by k_asm) (by k_asm) (by k_asm) (by k_asm) ?_; refine RestR.led _ _ _ _ (shl3_c (by decide) (by decide)) (by first | exact rfl | assumption) (by ktr_room) (by ktr_units) ?_ ?_; k_whole); rotate_left; intro e9 g9 h9 tk9 R9 FG9 U9 RS9; (try dsimp only); rotate_left; intro v9 h9 tk9 R9 F9 N9; (try dsimp only); (try k_fold)))
  trivial
set_option maxHeartbeats 8000000 in
theorem lam_gshl {z0 z1 z2 : Nat} {f c' : Addr} {oc : Obj} {vs : Array Value} {qual : PySem.Str} {pm ctv : Value} {t : Tok} {q0 q1 q2 q3 q4 : Pos} (hf : (f, kla_obj "<lambda>" qual ⟨[], [], none, [], [], none, []⟩ (PySem.Expr.Call (PySem.Expr.Name (PySem.Str.ofString "const_binary") q0) [PySem.Expr.Constant (PySem.Const.str (PySem.Str.ofString "<<")) z0 q2, PySem.Expr.Constant (PySem.Const.int 1) z1 q3, PySem.Expr.Constant (PySem.Const.int 5000) z2 q4] [] q1) { kind := .function, names := [(PySem.Str.ofString "const_binary", NameKind.globalImplicit)], isGenerator := false, isCoroutine := false } [] pm c' ctv) ∈ news) (hc : (c', oc) ∈ news) (hcd : oc.data = .fields vs) (hcv : vs[1]? = some (.str qual t))   : CallsR 10 w f [] news (fun v n' => ((shl 1 5000 (1 - 2 ^ 512) (2 ^ 512 - 1)).Val v ∧ shl 1 5000 (1 - 2 ^ 512) (2 ^ 512 - 1) ≠ .fault) ∧ n' = news) (shl 1 5000 (1 - 2 ^ 512) (2 ^ 512 - 1) = .fault) := by
  w_on
  unfold CallsR
  k_fill
  intro p loose mean mg mb dp un gd cn cs fa ccd cl outer A₀ base h₀ L m hS gS dS tS oS Q E hB hF hX hN hT hk hd hu hret hrais
  refine wpAny_call ?_
  k_dflt (refine' kla_code ?k1 ?k2 ?k3 ?k4 ?k5 ?kA ?kF ?kK ?k6 ?k7 ?k8 ?k9 ?kB ?_ ?c2 ?c3 ?c4 ?c5; (case kA => exact rfl); (case kF => exact rfl); (case kK => assumption); (case k1 => k_asm); (case k2 => k_asm); (case k3 => k_asm); (case k4 => k_asm); (case k5 => k_asm); (case k6 => exact hf); (case k7 => exact codeRec_news (by k_asm) hc hcd hcv); (case k8 => ktr_room); (case k9 => exact rfl); (case c5 => decide); (case kB => exact locs rfl); (case c2 => exact rfl); (case c3 => exact rfl); (case c4 => exact rfl); k_whole; intro g' L' h' FG' F' N' B' X' T'; (try dsimp only); (try k_lift B'); (try k_fold))
  k_steps
  all_goals first
      | exact hret _ _ _ _ ⟨by assumption, rfl⟩ (by k_asm) (by first | k_asm | exact news_tl (by k_asm) | exact news_tl (news_tl (by k_asm)))
      | ((refine' hrais _ _ _ _ ?_ ?_ ?_ (by first | assumption | exact raised_tl (by assumption) | exact raised_tl (raised_tl (by assumption)))) <;> first | assumption | k_asm)
      | contradiction
      | trace_state


theorem told_gshl {z0 z1 z2 : Nat} {f c' : Addr} {oc : Obj} {vs : Array Value} {qual : PySem.Str} {pm ctv : Value} {t : Tok} {q0 q1 q2 q3 q4 : Pos} (hf : (f, kla_obj "<lambda>" qual ⟨[], [], none, [], [], none, []⟩ (PySem.Expr.Call (PySem.Expr.Name (PySem.Str.ofString "const_binary") q0) [PySem.Expr.Constant (PySem.Const.str (PySem.Str.ofString "<<")) z0 q2, PySem.Expr.Constant (PySem.Const.int 1) z1 q3, PySem.Expr.Constant (PySem.Const.int 5000) z2 q4] [] q1) { kind := .function, names := [(PySem.Str.ofString "const_binary", NameKind.globalImplicit)], isGenerator := false, isCoroutine := false } [] pm c' ctv) ∈ news) (hc : (c', oc) ∈ news) (hcd : oc.data = .fields vs) (hcv : vs[1]? = some (.str qual t))   : CallsS 11 w 213 [.ref f] news (fun v n' => (shl 1 5000 (1 - 2 ^ 512) (2 ^ 512 - 1)).Val v ∧ n' = news) :=
  told_res hf (lam_gshl hf hc hcd hcv  )
end
end

-- GB
section
theorem start_GB : True := by
  w_top off
  k_with_none
  (k_with "eval Constant str" => refine kstr ?_)
  (k_with "eval Constant int" => refine kint ?_)
  (k_with "eval Constant bytes" => refine kbyt ?_)
  (k_with "binaryOp Add int int" => with_reducible refine kadd ?_)
  (k_with "binaryOp Sub int int" => with_reducible refine ksub ?_)
  (k_with "unaryOp USub int" => with_reducible refine kneg ?_)
  (k_with "storeName" => (k_here; k_dflt (refine kstL (by k_asm) (by k_asm) ?_ (rfl) (rfl); k_whole; intro h9 F9 N9; (try k_sweep))))
  (k_with "newTuple" => (k_here; k_dflt (refine ktuK (by k_asm) (by k_asm) ?_ (by kmk_size)); intro D7 h7 F7 N7 l7; (try k_lt l7); (try k_sweep)))
  (k_with "newList" => (k_here; k_dflt (refine kltK (by k_asm) (by k_asm) ?_ (by size_fits)); intro D7 h7 F7 N7 l7; (try k_lt l7); (try k_sweep)))
  (k_with "steps9" => repeat' (first | (k_unfold; (try dsimp only)) | (k_end; wrow_close) | (walk1 <;> (try dsimp only)) | (dsimp only; walk1) | (leave1; walk_say "STEP leave1"; try dsimp only) | (with_reducible refine popN (by assumption) ?_) | (with_reducible refine popR (by assumption) ?_) | ((refine pop_ (by assumption) ?_); (try dsimp only)) | fail "no step"))
  (k_with "all9" => focus ((repeat (first | exact List.forall_mem_nil _ | with_reducible assumption | (refine List.forall_mem_cons.mpr ⟨by k_ne, ?_⟩))); done))
  (k_with "room9" => first | exact rl1 (by with_reducible assumption) (Nat.le_of_ble_eq_true rfl) | exact rl0 (by with_reducible assumption) (Nat.le_of_ble_eq_true rfl) | exact rl2 (by with_reducible assumption) (Nat.le_of_ble_eq_true rfl) | exact rlz (by assumption))
  (k_with "ne9" => (refine neN ?_; (try dsimp only); first | (refine Nat.ne_of_lt ?_; focus ((repeat (first | with_reducible assumption | exact cj0 (by with_reducible assumption) | exact cj1 (by with_reducible assumption) | exact cj2 (by with_reducible assumption) | exact cj3 (by with_reducible assumption) | exact cj4 (by with_reducible assumption) | exact cj5 (by with_reducible assumption) | exact cj6 (by with_reducible assumption) | exact cj7 (by with_reducible assumption) | exact cj8 (by with_reducible assumption) | exact cj9 (by with_reducible assumption) | exact cj10 (by with_reducible assumption) | exact cj11 (by with_reducible assumption) | exact cj12 (by with_reducible assumption) | exact cj13 (by with_reducible assumption) | exact cj14 (by with_reducible assumption) | exact cj15 (by with_reducible assumption) | (refine lt_tr (by with_reducible assumption) ?_))); done)) | (refine Nat.ne_of_gt ?_; focus ((repeat (first | with_reducible assumption | exact cj0 (by with_reducible assumption) | exact cj1 (by with_reducible assumption) | exact cj2 (by with_reducible assumption) | exact cj3 (by with_reducible assumption) | exact cj4 (by with_reducible assumption) | exact cj5 (by with_reducible assumption) | exact cj6 (by with_reducible assumption) | exact cj7 (by with_reducible assumption) | exact cj8 (by with_reducible assumption) | exact cj9 (by with_reducible assumption) | exact cj10 (by with_reducible assumption) | exact cj11 (by with_reducible assumption) | exact cj12 (by with_reducible assumption) | exact cj13 (by with_reducible assumption) | exact cj14 (by with_reducible assumption) | exact cj15 (by with_reducible assumption) | (refine lt_tr (by with_reducible assumption) ?_))); done))))
  (k_with "mem9" => focus ((repeat (first | with_reducible assumption | exact List.mem_append_left _ (by with_reducible assumption) | exact List.mem_append_right _ (by with_reducible assumption) | exact List.Mem.head _ | refine List.Mem.tail _ ?_)); done))
  trivial

theorem take_u {w : World} {news : List (Addr × Obj)} {src : Addr} {o : Obj} {top : Int} {tt : Tok} {g : Obj → List (Addr × Obj)} (U : UpdF src o news g) (ho : SrcO o) (ht : 2 ≤ top) (ht2 : top ≤ 64) :
    CallsR 1 w 163 [.ref src, .int top tt] news (fun v n' => ∃ o', (∃ r t, v = .int r t ∧ 0 ≤ r ∧ r < top ∧ SrcO o') ∧ n' = g o') False :=
  callsR_upd U fun rest hne _ => callsR_ret (take_s hne ho ht ht2) fun v n ⟨r, t, o', e, a, b, c, d⟩ => ⟨o', ⟨r, t, e, a, b, d⟩, c⟩
def BigA (a : Int) : Prop := 3 < a ∧ a ≤ 2 ^ 300
def BigB (b : Int) : Prop := 3 < b ∧ b ≤ 2 ^ 257
theorem pow_le {n m : Int} (h0 : 0 ≤ n) (h : n ≤ m) : (2 : Int) ^ n.toNat ≤ 2 ^ m.toNat := by
  have : (2 : Nat) ^ n.toNat ≤ 2 ^ m.toNat := Nat.pow_le_pow_right (by decide) (by omega)
  exact_mod_cast this
theorem bigA_of {n f : Int} (h1 : 200 ≤ n) (h2 : n ≤ 300) (f0 : 0 ≤ f) (f1 : f < 3) : BigA (2 ^ n.toNat - f) := by
  have p1 := pow_le (n := 3) (m := n) (by decide) (by omega)
  have p2 := pow_le (n := n) (m := 300) (by omega) h2
  have e1 : (2 : Int) ^ (3 : Int).toNat = 8 := by decide
  have e2 : (2 : Int) ^ (300 : Int).toNat = 2 ^ 300 := rfl
  rw [e1] at p1
  rw [e2] at p2
  generalize (2 : Int) ^ n.toNat = x at *
  unfold BigA
  generalize (2 : Int) ^ 300 = y at *
  omega
theorem bigB_of {n f : Int} (h1 : 200 ≤ n) (h2 : n ≤ 256) (f0 : 0 ≤ f) (f1 : f < 3) : BigB (2 ^ n.toNat + f) := by
  have p1 := pow_le (n := 3) (m := n) (by decide) (by omega)
  have p2 := pow_le (n := n) (m := 256) (by omega) h2
  have e1 : (2 : Int) ^ (3 : Int).toNat = 8 := by decide
  have e2 : (2 : Int) ^ (256 : Int).toNat = 2 ^ 256 := rfl
  have e3 : (2 : Int) ^ 257 = 2 ^ 256 + 2 ^ 256 := by decide +kernel
  have e4 : (3 : Int) ≤ 2 ^ 256 := by decide +kernel
  rw [e1] at p1
  rw [e2] at p2
  unfold BigB
  rw [e3]
  generalize (2 : Int) ^ n.toNat = x at *
  generalize (2 : Int) ^ 256 = y at *
  omega
theorem bits_310 {x : Int} (h0 : 0 ≤ x) (h : x ≤ 2 ^ 303) : Builtin.Int.intBits x ≤ 310 := by
  refine intBits_le_iff.mpr ?_
  have e : (2 : Int) ^ 303 < 2 ^ 310 := by decide +kernel
  have : (x.natAbs : Int) < ((2 ^ 310 : Nat) : Int) := by
    rw [show ((2 ^ 310 : Nat) : Int) = 2 ^ 310 by decide +kernel]
    generalize (2 : Int) ^ 310 = y at *
    generalize (2 : Int) ^ 303 = z at *
    omega
  exact Int.ofNat_lt.mp this
theorem bigA_303 {a : Int} (h : BigA a) : 0 ≤ a ∧ a ≤ 2 ^ 303 := by
  unfold BigA at h
  have e : (2 : Int) ^ 300 ≤ 2 ^ 303 := by decide +kernel
  generalize (2 : Int) ^ 303 = y at *
  generalize (2 : Int) ^ 300 = z at *
  omega
theorem bigB_303 {a : Int} (h : BigB a) : 0 ≤ a ∧ a ≤ 2 ^ 303 := by
  unfold BigB at h
  have e : (2 : Int) ^ 257 ≤ 2 ^ 303 := by decide +kernel
  generalize (2 : Int) ^ 303 = y at *
  generalize (2 : Int) ^ 257 = z at *
  omega
theorem a3_303 {a : Int} (h : BigA a) : 0 ≤ a * 3 ∧ a * 3 ≤ 2 ^ 303 := by
  unfold BigA at h
  have e : (2 : Int) ^ 303 = 2 ^ 300 * 8 := by decide +kernel
  rw [e]
  generalize (2 : Int) ^ 300 = z at *
  omega
theorem mulok {a b : Int} (ha : 0 ≤ a ∧ a ≤ 2 ^ 303) (hb : 0 ≤ b ∧ b ≤ 2 ^ 303) : IntMulOk a b := IntMulOk.of_le (bits_310 ha.1 ha.2) (bits_310 hb.1 hb.2) (by decide)
theorem tdiv_303 {a b : Int} (ha : 0 ≤ a ∧ a ≤ 2 ^ 303) (hb : 0 ≤ b) : 0 ≤ a.tdiv b ∧ a.tdiv b ≤ 2 ^ 303 := by
  refine ⟨Int.tdiv_nonneg ha.1 hb, Int.le_trans ?_ ha.2⟩
  rw [Int.tdiv_eq_ediv_of_nonneg ha.1]
  exact Int.ediv_le_self _ ha.1
theorem log2_big {x : Int} (h0 : 0 ≤ x) (h : x ≤ 2 ^ 303) : x.natAbs.log2 < 9000 := by
  have hb := intBits_le_iff.mp (bits_310 h0 h)
  by_cases hx : x.natAbs = 0
  · rw [hx]; decide
  · exact Nat.lt_of_lt_of_le ((Nat.log2_lt hx).mpr hb) (by decide)
theorem fdiv_303 {a b : Int} (ha : 0 ≤ a ∧ a ≤ 2 ^ 303) (hb : 0 ≤ b) : 0 ≤ a.fdiv b ∧ a.fdiv b ≤ 2 ^ 303 := by
  rw [Int.fdiv_eq_tdiv_of_nonneg ha.1 hb]
  exact tdiv_303 ha hb
theorem kept_is {lo hi x : Int} (h : lo ≤ x ∧ x ≤ hi) : kept lo hi x = .int x := if_pos h
theorem div3_is {a : Int} (h : BigA a) : spec .div (a * 3) a (1 - 2 ^ 512) (2 ^ 512 - 1) = .int 3 := by
  have h0 : a ≠ 0 := by unfold BigA at h; omega
  have e : spec .div (a * 3) a (1 - 2 ^ 512) (2 ^ 512 - 1) = kept (1 - 2 ^ 512) (2 ^ 512 - 1) ((a * 3).tdiv a) := if_neg h0
  rw [e, Int.mul_tdiv_cancel_left _ h0]
  exact kept_is (by decide +kernel)
theorem mod3_is {a b : Int} (ha : BigA a) (hb : BigB b) : spec .mod a b (1 - 2 ^ 512) (2 ^ 512 - 1) = .int (a - b * a.fdiv b) := by
  have h0 : b ≠ 0 := by unfold BigB at hb; omega
  have e : spec .mod a b (1 - 2 ^ 512) (2 ^ 512 - 1) = kept (1 - 2 ^ 512) (2 ^ 512 - 1) (a - b * a.tdiv b) := if_neg h0
  rw [e, ← Int.fdiv_eq_tdiv_of_nonneg (bigA_303 ha).1 (bigB_303 hb).1]
  refine kept_is ?_
  have l : 0 ≤ a - b * a.fdiv b ∧ a - b * a.fdiv b < b := by
    rw [Int.fdiv_eq_ediv_of_nonneg _ (bigB_303 hb).1]
    have := Int.emod_def a b
    have h1 := Int.emod_nonneg a h0
    have h2 := Int.emod_lt_of_pos a (show 0 < b by unfold BigB at hb; omega)
    omega
  have := (bigB_303 hb).2
  have e2 : (2 : Int) ^ 303 < 2 ^ 512 := by decide +kernel
  generalize (2 : Int) ^ 303 = y at *
  generalize (2 : Int) ^ 512 = z at *
  generalize a - b * a.fdiv b = x at *
  omega
theorem shl_far : shl 1 5000 (1 - 2 ^ 512) (2 ^ 512 - 1) = .fault := by
  unfold shl; rw [if_neg (by decide), if_neg (by decide), if_pos (by decide)]
theorem shl_nil : shl 0 5000 (1 - 2 ^ 512) (2 ^ 512 - 1) = .int 0 := by
  unfold shl; rw [if_neg (by decide), if_pos rfl]
  exact kept_is (by decide +kernel)
theorem shr_far {a : Int} (ha : BigA a) : shr a 5000 (1 - 2 ^ 512) (2 ^ 512 - 1) = .int 0 := by
  have e : shr a 5000 (1 - 2 ^ 512) (2 ^ 512 - 1) = kept (1 - 2 ^ 512) (2 ^ 512 - 1) (a.fdiv (2 ^ 1024)) := by
    unfold shr; rw [if_neg (by decide), if_pos (by decide)]; rfl
  have p : (0 : Int) < 2 ^ 1024 := Int.pow_pos (by decide)
  have l : a < 2 ^ 1024 := Int.lt_of_le_of_lt (bigA_303 ha).2 (by decide +kernel)
  rw [e, Int.fdiv_eq_ediv_of_nonneg _ (Int.le_of_lt p), Int.ediv_eq_zero_of_lt (bigA_303 ha).1 l]
  exact kept_is (by decide +kernel)
theorem shr_far_neg {a : Int} (ha : BigA a) : shr (0 - a) 5000 (1 - 2 ^ 512) (2 ^ 512 - 1) = .int (-1) := by
  have e : shr (0 - a) 5000 (1 - 2 ^ 512) (2 ^ 512 - 1) = kept (1 - 2 ^ 512) (2 ^ 512 - 1) ((0 - a).fdiv (2 ^ 1024)) := by
    unfold shr; rw [if_neg (by decide), if_pos (by decide)]; rfl
  have p : (0 : Int) < 2 ^ 1024 := Int.pow_pos (by decide)
  have l : a < 2 ^ 1024 := Int.lt_of_le_of_lt (bigA_303 ha).2 (by decide +kernel)
  have l0 : 0 < a := by unfold BigA at ha; omega
  have : (0 - a) / 2 ^ 1024 = -1 := by
    generalize (2 : Int) ^ 1024 = z at *
    refine Int.le_antisymm ?_ ?_
    · have := Int.ediv_lt_of_lt_mul (a := 0 - a) (b := 0) (c := z) p (by omega); omega
    · exact Int.le_ediv_of_mul_le p (by omega)
  rw [e, Int.fdiv_eq_ediv_of_nonneg _ (Int.le_of_lt p), this]
  exact kept_is (by decide +kernel)
theorem four_in {v : Value} {t0 t1 t2 t3 : Tok} (h : v ∈ #[Value.int 200 t0, .int 255 t1, .int 256 t2, .int 300 t3].toList) : ∃ n t, v = .int n t ∧ 200 ≤ n ∧ n ≤ 300 := by
  simp only [List.mem_cons, List.not_mem_nil, or_false] at h
  rcases h with rfl | rfl | rfl | rfl <;> exact ⟨_, _, rfl, by decide, by decide⟩
theorem five_in {v : Value} {t0 t1 t2 t3 t4 : Tok} (h : v ∈ #[Value.int 200 t0, .int 211 t1, .int 212 t2, .int 255 t3, .int 256 t4].toList) : ∃ n t, v = .int n t ∧ 200 ≤ n ∧ n ≤ 256 := by
  simp only [List.mem_cons, List.not_mem_nil, or_false] at h
  rcases h with rfl | rfl | rfl | rfl | rfl <;> exact ⟨_, _, rfl, by decide, by decide⟩
theorem callsR_sure {k : Nat} {w : World} {f : Addr} {vs : List Value} {n₂ : List (Addr × Obj)} {R R' : Value → List (Addr × Obj) → Prop} {Z : Prop} (C : CallsR k w f vs n₂ R Z) (hz : ¬ Z) (h : ∀ v n, R v n → R' v n) : CallsR k w f vs n₂ R' False :=
  fun p loose mean mg mb dp un gd cn cs fa ccd cl outer A₀ base h₀ L m hS gS dS tS oS Q E hB hF hX hN hT hk hd hu hret hrais =>
    C p loose mean mg mb dp un gd cn cs fa ccd cl outer A₀ base h₀ L m hS gS dS tS oS Q E hB hF hX hN hT hk hd hu (fun v n' h' tk' r => hret v n' h' tk' (h v n' r)) fun _ _ _ _ z => absurd z hz
/-- a reckoning whose answer is known -/
theorem sure_res {k : Nat} {w : World} {f : Addr} {vs : List Value} {news : List (Addr × Obj)} {r r' : Res} (C : CallsR k w f vs news (fun v n' => (r.Val v ∧ r ≠ .fault) ∧ n' = news) (r = .fault)) (e : r = r') (h : r' ≠ .fault) : CallsR k w f vs news (fun v n' => r'.Val v ∧ n' = news) False :=
  callsR_sure C (by rw [e]; exact h) fun v n z => ⟨e ▸ z.1.1, z.2⟩
section
variable {w : World} {news : List (Addr × Obj)} {a b : Int} {ta tb to : Tok}
theorem gmod_c (ha : BigA a) (hb : BigB b) : CallsR 9 w 135 [.str (PySem.Str.ofString "%") to, .int a ta, .int b tb] news (fun v n' => (Res.int (a - b * a.fdiv b)).Val v ∧ n' = news) False :=
  sure_res (mod3_c (mulok (bigA_303 ha) (bigB_303 hb)) (mulok (bigB_303 hb) (tdiv_303 (bigA_303 ha) (bigB_303 hb).1)) (log2_big (bigB_303 hb).1 (bigB_303 hb).2)) (mod3_is ha hb) (by intro z; cases z)
theorem gzero_c : CallsR 9 w 135 [.str (PySem.Str.ofString "<<") to, .int 0 ta, .int 5000 tb] news (fun v n' => (Res.int 0).Val v ∧ n' = news) False :=
  sure_res (shl3_c (by decide) (by decide)) shl_nil (by intro z; cases z)
theorem gfar_c (ha : BigA a) : CallsR 9 w 135 [.str (PySem.Str.ofString ">>") to, .int a ta, .int 5000 tb] news (fun v n' => (Res.int 0).Val v ∧ n' = news) False :=
  sure_res shr3_c (shr_far ha) (by intro z; cases z)
theorem gfarn_c (ha : BigA a) : CallsR 9 w 135 [.str (PySem.Str.ofString ">>") to, .int (0 - a) ta, .int 5000 tb] news (fun v n' => (Res.int (-1)).Val v ∧ n' = news) False :=
  sure_res shr3_c (shr_far_neg ha) (by intro z; cases z)
end
section
variable {w : World} {news : List (Addr × Obj)}
theorem told2_gmul {a b : Int} {ta tb : Tok} {z0 : Nat} {f c' c_a c_b : Addr} {o_a o_b oc : Obj} {vs : Array Value} {qual : PySem.Str} {pm ctv : Value} {t : Tok} {q0 q1 q2 q3 q4 : Pos} (hf : (f, kla_obj "<lambda>" qual ⟨[], [], none, [], [], none, []⟩ (PySem.Expr.Call (PySem.Expr.Name (PySem.Str.ofString "const_binary") q0) [PySem.Expr.Constant (PySem.Const.str (PySem.Str.ofString "*")) z0 q2, PySem.Expr.Name (PySem.Str.ofString "a") q3, PySem.Expr.Name (PySem.Str.ofString "b") q4] [] q1) { kind := .function, names := [(PySem.Str.ofString "a", NameKind.free), (PySem.Str.ofString "b", NameKind.free), (PySem.Str.ofString "const_binary", NameKind.globalImplicit)], isGenerator := false, isCoroutine := false } [(PySem.Str.ofString "b", c_b), (PySem.Str.ofString "a", c_a)] pm c' ctv) ∈ news) (hc : (c', oc) ∈ news) (hcd : oc.data = .fields vs) (hcv : vs[1]? = some (.str qual t)) (m_a : (c_a, o_a) ∈ news) (d_a : o_a.data = .cell (some (.int a ta))) (m_b : (c_b, o_b) ∈ news) (d_b : o_b.data = .cell (some (.int b tb)))    (ha : BigA a) (hb : BigB b) : CallsS 11 w 213 [.ref f] news (fun v n' => (kept (1 - 2 ^ 512) (2 ^ 512 - 1) (a * b)).Val v ∧ n' = news) :=
  told_gmul hf hc hcd hcv m_a d_a m_b d_b (mulok (bigA_303 ha) (bigB_303 hb)) (mulok (bigB_303 hb) (tdiv_303 (bigA_303 ha) (bigB_303 hb).1)) (log2_big (bigB_303 hb).1 (bigB_303 hb).2)
theorem told2_gdiv {a : Int} {ta : Tok} {z0 z1 : Nat} {p0 p1 : Pos} {f c' c_a : Addr} {o_a oc : Obj} {vs : Array Value} {qual : PySem.Str} {pm ctv : Value} {t : Tok} {q0 q1 q2 q3 q4 : Pos} (hf : (f, kla_obj "<lambda>" qual ⟨[], [], none, [], [], none, []⟩ (PySem.Expr.Call (PySem.Expr.Name (PySem.Str.ofString "const_binary") q0) [PySem.Expr.Constant (PySem.Const.str (PySem.Str.ofString "/")) z0 q2, PySem.Expr.BinOp (PySem.Expr.Name (PySem.Str.ofString "a") p0) PySem.Operator.Mult (PySem.Expr.Constant (PySem.Const.int 3) z1 p1) q3, PySem.Expr.Name (PySem.Str.ofString "a") q4] [] q1) { kind := .function, names := [(PySem.Str.ofString "a", NameKind.free), (PySem.Str.ofString "const_binary", NameKind.globalImplicit)], isGenerator := false, isCoroutine := false } [(PySem.Str.ofString "a", c_a)] pm c' ctv) ∈ news) (hc : (c', oc) ∈ news) (hcd : oc.data = .fields vs) (hcv : vs[1]? = some (.str qual t)) (m_a : (c_a, o_a) ∈ news) (d_a : o_a.data = .cell (some (.int a ta)))     (ha : BigA a) : CallsS 11 w 213 [.ref f] news (fun v n' => (Res.int 3).Val v ∧ n' = news) :=
  callsS_ret (told_gdiv hf hc hcd hcv m_a d_a (IntMulOk.of_right (by decide)) (mulok (a3_303 ha) (bigA_303 ha)) (mulok (bigA_303 ha) (tdiv_303 (a3_303 ha) (bigA_303 ha).1)) (log2_big (bigA_303 ha).1 (bigA_303 ha).2)) fun v n z => ⟨div3_is ha ▸ z.1, z.2⟩
theorem told2_gshl {z0 z1 z2 : Nat} {f c' : Addr} {oc : Obj} {vs : Array Value} {qual : PySem.Str} {pm ctv : Value} {t : Tok} {q0 q1 q2 q3 q4 : Pos} (hf : (f, kla_obj "<lambda>" qual ⟨[], [], none, [], [], none, []⟩ (PySem.Expr.Call (PySem.Expr.Name (PySem.Str.ofString "const_binary") q0) [PySem.Expr.Constant (PySem.Const.str (PySem.Str.ofString "<<")) z0 q2, PySem.Expr.Constant (PySem.Const.int 1) z1 q3, PySem.Expr.Constant (PySem.Const.int 5000) z2 q4] [] q1) { kind := .function, names := [(PySem.Str.ofString "const_binary", NameKind.globalImplicit)], isGenerator := false, isCoroutine := false } [] pm c' ctv) ∈ news) (hc : (c', oc) ∈ news) (hcd : oc.data = .fields vs) (hcv : vs[1]? = some (.str qual t))    : CallsS 11 w 213 [.ref f] news (fun v n' => (Res.fault).Val v ∧ n' = news) :=
  callsS_ret (told_gshl hf hc hcd hcv) fun v n z => ⟨shl_far ▸ z.1, z.2⟩
end
end

-- SL
section
theorem start_SL : True := by
  w_top off
  k_with_none
  (k_with "eval Constant str" => refine kstr ?_)
  (k_with "eval Constant int" => refine kint ?_)
  (k_with "eval Constant bytes" => refine kbyt ?_)
  (k_with "binaryOp Add int int" => with_reducible refine kadd ?_)
  (k_with "binaryOp Sub int int" => with_reducible refine ksub ?_)
  (k_with "unaryOp USub int" => with_reducible refine kneg ?_)
  (k_with "storeName" => (k_here; k_dflt (refine kstL (by k_asm) (by k_asm) ?_ (rfl) (rfl); k_whole; intro h9 F9 N9; (try k_sweep))))
  (k_with "newTuple" => (k_here; k_dflt (refine ktuK (by k_asm) (by k_asm) ?_ (by kmk_size)); intro D7 h7 F7 N7 l7; (try k_lt l7); (try k_sweep)))
  (k_with "newList" => (k_here; k_dflt (refine kltK (by k_asm) (by k_asm) ?_ (by size_fits)); intro D7 h7 F7 N7 l7; (try k_lt l7); (try k_sweep)))
  (k_with "steps9" => repeat' (first | (k_unfold; (try dsimp only)) | (k_end; wrow_close) | (walk1 <;> (try dsimp only)) | (dsimp only; walk1) | (leave1; walk_say "STEP leave1"; try dsimp only) | (with_reducible refine popN (by assumption) ?_) | (with_reducible refine popR (by assumption) ?_) | ((refine pop_ (by assumption) ?_); (try dsimp only)) | fail "no step"))
  (k_with "all9" => focus ((repeat (first | exact List.forall_mem_nil _ | with_reducible assumption | (refine List.forall_mem_cons.mpr ⟨by k_ne, ?_⟩))); done))
  (k_with "room9" => first | exact rl1 (by with_reducible assumption) (Nat.le_of_ble_eq_true rfl) | exact rl0 (by with_reducible assumption) (Nat.le_of_ble_eq_true rfl) | exact rl2 (by with_reducible assumption) (Nat.le_of_ble_eq_true rfl) | exact rlz (by assumption))
  (k_with "ne9" => (refine neN ?_; (try dsimp only); first | (refine Nat.ne_of_lt ?_; focus ((repeat (first | with_reducible assumption | exact cj0 (by with_reducible assumption) | exact cj1 (by with_reducible assumption) | exact cj2 (by with_reducible assumption) | exact cj3 (by with_reducible assumption) | exact cj4 (by with_reducible assumption) | exact cj5 (by with_reducible assumption) | exact cj6 (by with_reducible assumption) | exact cj7 (by with_reducible assumption) | exact cj8 (by with_reducible assumption) | exact cj9 (by with_reducible assumption) | exact cj10 (by with_reducible assumption) | exact cj11 (by with_reducible assumption) | exact cj12 (by with_reducible assumption) | exact cj13 (by with_reducible assumption) | exact cj14 (by with_reducible assumption) | exact cj15 (by with_reducible assumption) | (refine lt_tr (by with_reducible assumption) ?_))); done)) | (refine Nat.ne_of_gt ?_; focus ((repeat (first | with_reducible assumption | exact cj0 (by with_reducible assumption) | exact cj1 (by with_reducible assumption) | exact cj2 (by with_reducible assumption) | exact cj3 (by with_reducible assumption) | exact cj4 (by with_reducible assumption) | exact cj5 (by with_reducible assumption) | exact cj6 (by with_reducible assumption) | exact cj7 (by with_reducible assumption) | exact cj8 (by with_reducible assumption) | exact cj9 (by with_reducible assumption) | exact cj10 (by with_reducible assumption) | exact cj11 (by with_reducible assumption) | exact cj12 (by with_reducible assumption) | exact cj13 (by with_reducible assumption) | exact cj14 (by with_reducible assumption) | exact cj15 (by with_reducible assumption) | (refine lt_tr (by with_reducible assumption) ?_))); done))))
  (k_with "mem9" => focus ((repeat (first | with_reducible assumption | exact List.mem_append_left _ (by with_reducible assumption) | exact List.mem_append_right _ (by with_reducible assumption) | exact List.Mem.head _ | refine List.Mem.tail _ ?_)); done))
  trivial


theorem words_SL_56 : True := by
  (k_with "eval Call" => (((with_reducible show wpAny _ _ (eval (PySem.Expr.Call (PySem.Expr.Name _ _) _ [] _) _) _ _ _); k_dflt (refine Call_ ?_))))
  trivial
section
variable {w : World} {news : List (Addr × Obj)}

theorem words_SL_57 : True := by
  (k_with "eval Name" => ((k_here; k_dflt (refine nameX_F (by k_asm) (by exact rfl) (by assumption) (by assumption) ?_ (rfl) (rfl); k_whole))))
  (k_with "exec Raise some none" => ((k_here; refine raise_fault rfl ?_)))
  (k_with "call ref" => ((k_here; (with_reducible show wpAny _ _ (call (Value.ref 45) _) _ _ _); k_dflt (refine fault_made (by k_asm) (by k_asm) (by k_asm) (by k_asm) (by k_asm) (rfl) (rfl) (by first | exact rfl | assumption) (by ktr_room) ?_; k_whole); intro e9 t9 h9 tk9 oe9 F9 N9 hc9 hd9 hn9; (try dsimp only))))
  (k_with "FaultRaised" => ((refine fault_raised (by k_asm) (by k_asm) (by k_asm) (by assumption) (by assumption) ?_)))
  (k_with "leaving ref" => ((k_here; first | (refine leave_fault (by k_asm) (by k_asm) (by k_asm) (by assumption) (by assumption) (by assumption) ?_ (rfl) (by first | exact rfl | assumption); intro h9 RS9 U9; (try dsimp only)) | (refine leave_onE (by k_asm) (by k_asm) (by assumption) (by assumption) ?_ (rfl); intro h9 RS9 U9; (try dsimp only)))))
  (k_with "call ref" => (k_here; (with_reducible show wpAny _ _ (call (Value.ref 135) _) _ _ _); k_dflt (refine callsR_v (by k_asm) (by k_asm) (by k_asm) (by k_asm) (by k_asm) ?_; refine RestR.mk _ _ _ (bad_c (by assumption)) (by first | exact rfl | assumption) (by ktr_room) (by ktr_units) ?_ ?_; k_whole); rotate_left; intro e9 g9 h9 tk9 R9 FG9 U9 RS9; (try dsimp only); rotate_left; intro v9 n9 h9 tk9 R9 F9 N9; exact R9.elim))
  trivial
set_option maxHeartbeats 8000000 in
theorem lam_bad {r : Addr} {op : PySem.Str} {to : Tok} {x y : Value} {z0 z1 z2 : Nat} {p0 s0 s1 s2 p1 p2 : Pos}  {f c' c_row : Addr} {o_row oc : Obj} {vs : Array Value} {qual : PySem.Str} {pm ctv : Value} {t : Tok} {q0 q1 q2 q3 q4 : Pos} (hf : (f, kla_obj "<lambda>" qual ⟨[], [], none, [], [], none, []⟩ (PySem.Expr.Call (PySem.Expr.Name (PySem.Str.ofString "const_binary") q0) [PySem.Expr.Subscript (PySem.Expr.Name (PySem.Str.ofString "row") p0) (PySem.Expr.Constant (PySem.Const.int 0) z0 s0) q2, PySem.Expr.Subscript (PySem.Expr.Name (PySem.Str.ofString "row") p1) (PySem.Expr.Constant (PySem.Const.int 1) z1 s1) q3, PySem.Expr.Subscript (PySem.Expr.Name (PySem.Str.ofString "row") p2) (PySem.Expr.Constant (PySem.Const.int 2) z2 s2) q4] [] q1) { kind := .function, names := [(PySem.Str.ofString "row", NameKind.free), (PySem.Str.ofString "const_binary", NameKind.globalImplicit)], isGenerator := false, isCoroutine := false } [(PySem.Str.ofString "row", c_row)] pm c' ctv) ∈ news) (hc : (c', oc) ∈ news) (hcd : oc.data = .fields vs) (hcv : vs[1]? = some (.str qual t)) (m_row : (c_row, o_row) ∈ news) (d_row : o_row.data = .cell (some (.ref r)))  (hr : (r, tupO #[.str op to, x, y]) ∈ news) (hbad : BadRow op x y) : CallsR 10 w f [] news (fun v n' => False) True := by
  w_on
  unfold CallsR
  k_fill
  intro p loose mean mg mb dp un gd cn cs fa ccd cl outer A₀ base h₀ L m hS gS dS tS oS Q E hB hF hX hN hT hk hd hu hret hrais
  refine wpAny_call ?_
  k_dflt (refine' kla_code ?k1 ?k2 ?k3 ?k4 ?k5 ?kA ?kF ?kK ?k6 ?k7 ?k8 ?k9 ?kB ?_ ?c2 ?c3 ?c4 ?c5; (case kA => exact rfl); (case kF => exact rfl); (case kK => assumption); (case k1 => k_asm); (case k2 => k_asm); (case k3 => k_asm); (case k4 => k_asm); (case k5 => k_asm); (case k6 => exact hf); (case k7 => exact codeRec_news (by k_asm) hc hcd hcv); (case k8 => ktr_room); (case k9 => exact rfl); (case c5 => decide); (case kB => exact locs rfl); (case c2 => exact rfl); (case c3 => exact rfl); (case c4 => exact rfl); k_whole; intro g' L' h' FG' F' N' B' X' T'; (try dsimp only); (try k_lift B'); (try k_fold))
  k_steps
  all_goals first
      | exact hret _ _ _ _ ⟨by assumption, rfl⟩ (by k_asm) (by first | k_asm | exact news_tl (by k_asm) | exact news_tl (news_tl (by k_asm)))
      | ((refine' hrais _ _ _ _ ?_ ?_ ?_ (by first | assumption | exact raised_tl (by assumption) | exact raised_tl (raised_tl (by assumption)))) <;> first | exact trivial | assumption | k_asm)
      | contradiction
      | trace_state


theorem told_bad {r : Addr} {op : PySem.Str} {to : Tok} {x y : Value} {z0 z1 z2 : Nat} {p0 s0 s1 s2 p1 p2 : Pos}  {f c' c_row : Addr} {o_row oc : Obj} {vs : Array Value} {qual : PySem.Str} {pm ctv : Value} {t : Tok} {q0 q1 q2 q3 q4 : Pos} (hf : (f, kla_obj "<lambda>" qual ⟨[], [], none, [], [], none, []⟩ (PySem.Expr.Call (PySem.Expr.Name (PySem.Str.ofString "const_binary") q0) [PySem.Expr.Subscript (PySem.Expr.Name (PySem.Str.ofString "row") p0) (PySem.Expr.Constant (PySem.Const.int 0) z0 s0) q2, PySem.Expr.Subscript (PySem.Expr.Name (PySem.Str.ofString "row") p1) (PySem.Expr.Constant (PySem.Const.int 1) z1 s1) q3, PySem.Expr.Subscript (PySem.Expr.Name (PySem.Str.ofString "row") p2) (PySem.Expr.Constant (PySem.Const.int 2) z2 s2) q4] [] q1) { kind := .function, names := [(PySem.Str.ofString "row", NameKind.free), (PySem.Str.ofString "const_binary", NameKind.globalImplicit)], isGenerator := false, isCoroutine := false } [(PySem.Str.ofString "row", c_row)] pm c' ctv) ∈ news) (hc : (c', oc) ∈ news) (hcd : oc.data = .fields vs) (hcv : vs[1]? = some (.str qual t)) (m_row : (c_row, o_row) ∈ news) (d_row : o_row.data = .cell (some (.ref r)))  (hr : (r, tupO #[.str op to, x, y]) ∈ news) (hbad : BadRow op x y) : CallsS 11 w 213 [.ref f] news (fun v n' => (Res.fault).Val v ∧ n' = news) :=
  callsS_ret (told_c hf (lam_bad hf hc hcd hcv m_row d_row hr hbad)) fun v n h => by
    rcases h with h | ⟨_, h, e⟩
    · exact h.elim
    · exact ⟨h, e⟩
theorem words_SL_58 : True := by
  (k_with "call ref" => (k_here; (with_reducible show wpAny _ _ (call (Value.ref 92) _) _ _ _); k_dflt (refine callsR_v (by k_asm) (by k_asm) (by k_asm) (by k_asm) (by k_asm) ?_; refine RestR.mk _ _ _ (badsign_c (by assumption)) (by first | exact rfl | assumption) (by ktr_room) (by ktr_units) ?_ ?_; k_whole); rotate_left; intro e9 g9 h9 tk9 R9 FG9 U9 RS9; (try dsimp only); rotate_left; intro v9 n9 h9 tk9 R9 F9 N9; exact R9.elim))
  trivial
set_option maxHeartbeats 8000000 in
theorem lam_sign {r : Addr} {op : PySem.Str} {to : Tok} {x : Value} {z0 z1 : Nat} {p0 s0 s1 p1 : Pos}  {f c' c_row : Addr} {o_row oc : Obj} {vs : Array Value} {qual : PySem.Str} {pm ctv : Value} {t : Tok} {q0 q1 q2 q3 : Pos} (hf : (f, kla_obj "<lambda>" qual ⟨[], [], none, [], [], none, []⟩ (PySem.Expr.Call (PySem.Expr.Name (PySem.Str.ofString "const_unary") q0) [PySem.Expr.Subscript (PySem.Expr.Name (PySem.Str.ofString "row") p0) (PySem.Expr.Constant (PySem.Const.int 0) z0 s0) q2, PySem.Expr.Subscript (PySem.Expr.Name (PySem.Str.ofString "row") p1) (PySem.Expr.Constant (PySem.Const.int 1) z1 s1) q3] [] q1) { kind := .function, names := [(PySem.Str.ofString "row", NameKind.free), (PySem.Str.ofString "const_unary", NameKind.globalImplicit)], isGenerator := false, isCoroutine := false } [(PySem.Str.ofString "row", c_row)] pm c' ctv) ∈ news) (hc : (c', oc) ∈ news) (hcd : oc.data = .fields vs) (hcv : vs[1]? = some (.str qual t)) (m_row : (c_row, o_row) ∈ news) (d_row : o_row.data = .cell (some (.ref r)))  (hr : (r, tupO #[.str op to, x]) ∈ news) (hbad : BadSign op x) : CallsR 10 w f [] news (fun v n' => False) True := by
  w_on
  unfold CallsR
  k_fill
  intro p loose mean mg mb dp un gd cn cs fa ccd cl outer A₀ base h₀ L m hS gS dS tS oS Q E hB hF hX hN hT hk hd hu hret hrais
  refine wpAny_call ?_
  k_dflt (refine' kla_code ?k1 ?k2 ?k3 ?k4 ?k5 ?kA ?kF ?kK ?k6 ?k7 ?k8 ?k9 ?kB ?_ ?c2 ?c3 ?c4 ?c5; (case kA => exact rfl); (case kF => exact rfl); (case kK => assumption); (case k1 => k_asm); (case k2 => k_asm); (case k3 => k_asm); (case k4 => k_asm); (case k5 => k_asm); (case k6 => exact hf); (case k7 => exact codeRec_news (by k_asm) hc hcd hcv); (case k8 => ktr_room); (case k9 => exact rfl); (case c5 => decide); (case kB => exact locs rfl); (case c2 => exact rfl); (case c3 => exact rfl); (case c4 => exact rfl); k_whole; intro g' L' h' FG' F' N' B' X' T'; (try dsimp only); (try k_lift B'); (try k_fold))
  k_steps
  all_goals first
      | exact hret _ _ _ _ ⟨by assumption, rfl⟩ (by k_asm) (by first | k_asm | exact news_tl (by k_asm) | exact news_tl (news_tl (by k_asm)))
      | ((refine' hrais _ _ _ _ ?_ ?_ ?_ (by first | assumption | exact raised_tl (by assumption) | exact raised_tl (raised_tl (by assumption)))) <;> first | exact trivial | assumption | k_asm)
      | contradiction
      | trace_state


theorem told_sign {r : Addr} {op : PySem.Str} {to : Tok} {x : Value} {z0 z1 : Nat} {p0 s0 s1 p1 : Pos}  {f c' c_row : Addr} {o_row oc : Obj} {vs : Array Value} {qual : PySem.Str} {pm ctv : Value} {t : Tok} {q0 q1 q2 q3 : Pos} (hf : (f, kla_obj "<lambda>" qual ⟨[], [], none, [], [], none, []⟩ (PySem.Expr.Call (PySem.Expr.Name (PySem.Str.ofString "const_unary") q0) [PySem.Expr.Subscript (PySem.Expr.Name (PySem.Str.ofString "row") p0) (PySem.Expr.Constant (PySem.Const.int 0) z0 s0) q2, PySem.Expr.Subscript (PySem.Expr.Name (PySem.Str.ofString "row") p1) (PySem.Expr.Constant (PySem.Const.int 1) z1 s1) q3] [] q1) { kind := .function, names := [(PySem.Str.ofString "row", NameKind.free), (PySem.Str.ofString "const_unary", NameKind.globalImplicit)], isGenerator := false, isCoroutine := false } [(PySem.Str.ofString "row", c_row)] pm c' ctv) ∈ news) (hc : (c', oc) ∈ news) (hcd : oc.data = .fields vs) (hcv : vs[1]? = some (.str qual t)) (m_row : (c_row, o_row) ∈ news) (d_row : o_row.data = .cell (some (.ref r)))  (hr : (r, tupO #[.str op to, x]) ∈ news) (hbad : BadSign op x) : CallsS 11 w 213 [.ref f] news (fun v n' => (Res.fault).Val v ∧ n' = news) :=
  callsS_ret (told_c hf (lam_sign hf hc hcd hcv m_row d_row hr hbad)) fun v n h => by
    rcases h with h | ⟨_, h, e⟩
    · exact h.elim
    · exact ⟨h, e⟩
end
end

-- TL
section
theorem start_TL : True := by
  w_top off
  k_with_none
  (k_with "eval Constant str" => refine kstr ?_)
  (k_with "eval Constant int" => refine kint ?_)
  (k_with "eval Constant bytes" => refine kbyt ?_)
  (k_with "binaryOp Add int int" => with_reducible refine kadd ?_)
  (k_with "binaryOp Sub int int" => with_reducible refine ksub ?_)
  (k_with "unaryOp USub int" => with_reducible refine kneg ?_)
  (k_with "storeName" => (k_here; k_dflt (refine kstL (by k_asm) (by k_asm) ?_ (rfl) (rfl); k_whole; intro h9 F9 N9; (try k_sweep))))
  (k_with "newTuple" => (k_here; k_dflt (refine ktuK (by k_asm) (by k_asm) ?_ (by kmk_size)); intro D7 h7 F7 N7 l7; (try k_lt l7); (try k_sweep)))
  (k_with "newList" => (k_here; k_dflt (refine kltK (by k_asm) (by k_asm) ?_ (by size_fits)); intro D7 h7 F7 N7 l7; (try k_lt l7); (try k_sweep)))
  (k_with "steps9" => repeat' (first | (k_unfold; (try dsimp only)) | (k_end; wrow_close) | (walk1 <;> (try dsimp only)) | (dsimp only; walk1) | (leave1; walk_say "STEP leave1"; try dsimp only) | (with_reducible refine popN (by assumption) ?_) | (with_reducible refine popR (by assumption) ?_) | ((refine pop_ (by assumption) ?_); (try dsimp only)) | fail "no step"))
  (k_with "all9" => focus ((repeat (first | exact List.forall_mem_nil _ | with_reducible assumption | (refine List.forall_mem_cons.mpr ⟨by k_ne, ?_⟩))); done))
  (k_with "room9" => first | exact rl1 (by with_reducible assumption) (Nat.le_of_ble_eq_true rfl) | exact rl0 (by with_reducible assumption) (Nat.le_of_ble_eq_true rfl) | exact rl2 (by with_reducible assumption) (Nat.le_of_ble_eq_true rfl) | exact rlz (by assumption))
  (k_with "ne9" => (refine neN ?_; (try dsimp only); first | (refine Nat.ne_of_lt ?_; focus ((repeat (first | with_reducible assumption | exact cj0 (by with_reducible assumption) | exact cj1 (by with_reducible assumption) | exact cj2 (by with_reducible assumption) | exact cj3 (by with_reducible assumption) | exact cj4 (by with_reducible assumption) | exact cj5 (by with_reducible assumption) | exact cj6 (by with_reducible assumption) | exact cj7 (by with_reducible assumption) | exact cj8 (by with_reducible assumption) | exact cj9 (by with_reducible assumption) | exact cj10 (by with_reducible assumption) | exact cj11 (by with_reducible assumption) | exact cj12 (by with_reducible assumption) | exact cj13 (by with_reducible assumption) | exact cj14 (by with_reducible assumption) | exact cj15 (by with_reducible assumption) | (refine lt_tr (by with_reducible assumption) ?_))); done)) | (refine Nat.ne_of_gt ?_; focus ((repeat (first | with_reducible assumption | exact cj0 (by with_reducible assumption) | exact cj1 (by with_reducible assumption) | exact cj2 (by with_reducible assumption) | exact cj3 (by with_reducible assumption) | exact cj4 (by with_reducible assumption) | exact cj5 (by with_reducible assumption) | exact cj6 (by with_reducible assumption) | exact cj7 (by with_reducible assumption) | exact cj8 (by with_reducible assumption) | exact cj9 (by with_reducible assumption) | exact cj10 (by with_reducible assumption) | exact cj11 (by with_reducible assumption) | exact cj12 (by with_reducible assumption) | exact cj13 (by with_reducible assumption) | exact cj14 (by with_reducible assumption) | exact cj15 (by with_reducible assumption) | (refine lt_tr (by with_reducible assumption) ?_))); done))))
  (k_with "mem9" => focus ((repeat (first | with_reducible assumption | exact List.mem_append_left _ (by with_reducible assumption) | exact List.mem_append_right _ (by with_reducible assumption) | exact List.Mem.head _ | refine List.Mem.tail _ ?_)); done))
  trivial


theorem words_TL_59 : True := by
  (k_with "eval Call" => (((with_reducible show wpAny _ _ (eval (PySem.Expr.Call (PySem.Expr.Name _ _) _ [] _) _) _ _ _); k_dflt (refine Call_ ?_))))
  trivial
section
variable {w : World} {news : List (Addr × Obj)} {u : Bool} {lo hi : Int}

theorem words_TL_60 : True := by
  (k_with "eval Name" => ((k_here; k_dflt (refine nameX_F (by k_asm) (by exact rfl) (by assumption) (by assumption) ?_ (rfl) (rfl); k_whole))))
  (k_with "exec Raise some none" => ((k_here; refine raise_fault rfl ?_)))
  (k_with "call ref" => ((k_here; (with_reducible show wpAny _ _ (call (Value.ref 45) _) _ _ _); k_dflt (refine fault_made (by k_asm) (by k_asm) (by k_asm) (by k_asm) (by k_asm) (rfl) (rfl) (by first | exact rfl | assumption) (by ktr_room) ?_; k_whole); intro e9 t9 h9 tk9 oe9 F9 N9 hc9 hd9 hn9; (try dsimp only))))
  (k_with "FaultRaised" => ((refine fault_raised (by k_asm) (by k_asm) (by k_asm) (by assumption) (by assumption) ?_)))
  (k_with "leaving ref" => ((k_here; first | (refine leave_fault (by k_asm) (by k_asm) (by k_asm) (by assumption) (by assumption) (by assumption) ?_ (rfl) (by first | exact rfl | assumption); intro h9 RS9 U9; (try dsimp only)) | (refine leave_onE (by k_asm) (by k_asm) (by assumption) (by assumption) ?_ (rfl); intro h9 RS9 U9; (try dsimp only)))))
  (k_with "call ref" => (k_here; (with_reducible show wpAny _ _ (call (Value.ref 149) _) _ _ _); k_dflt (refine callsR_v (by k_asm) (by k_asm) (by k_asm) (by k_asm) (by k_asm) ?_; refine RestR.led _ _ _ _ (conv_int_c (by assumption) (by k_mem)) (by first | exact rfl | assumption) (by ktr_room) (by ktr_units) ?_ ?_; k_whole); rotate_left; intro e9 g9 h9 tk9 R9 FG9 U9 RS9; (try dsimp only); rotate_left; intro v9 h9 tk9 R9 F9 N9; (try dsimp only); (try k_fold)))
  trivial
set_option maxHeartbeats 8000000 in
theorem lam_conv {n : Int} {x : PySem.Str} {tk tn : Tok} {z0 z1 : Nat} {p0 p1 : Pos} {f c' c_kind c_number : Addr} {o_kind o_number oc : Obj} {vs : Array Value} {qual : PySem.Str} {pm ctv : Value} {t : Tok} {q0 q1 q2 q3 : Pos} (hf : (f, kla_obj "<lambda>" qual ⟨[], [], none, [], [], none, []⟩ (PySem.Expr.Call (PySem.Expr.Name (PySem.Str.ofString "const_convert") q0) [PySem.Expr.Name (PySem.Str.ofString "number") q2, PySem.Expr.Tuple [PySem.Expr.Constant (PySem.Const.str (PySem.Str.ofString "int")) z0 p0, PySem.Expr.Name (PySem.Str.ofString "kind") p1] z1 q3] [] q1) { kind := .function, names := [(PySem.Str.ofString "kind", NameKind.free), (PySem.Str.ofString "number", NameKind.free), (PySem.Str.ofString "const_convert", NameKind.globalImplicit)], isGenerator := false, isCoroutine := false } [(PySem.Str.ofString "number", c_number), (PySem.Str.ofString "kind", c_kind)] pm c' ctv) ∈ news) (hc : (c', oc) ∈ news) (hcd : oc.data = .fields vs) (hcv : vs[1]? = some (.str qual t)) (m_kind : (c_kind, o_kind) ∈ news) (d_kind : o_kind.data = .cell (some (.str x tk))) (m_number : (c_number, o_number) ∈ news) (d_number : o_number.data = .cell (some (.int n tn))) (hkv : KV (.str x tk) u lo hi) : CallsR 10 w f [] news (fun v n' => (((kept lo hi n)).Val v ∧ (kept lo hi n) ≠ .fault) ∧ n' = news) ((kept lo hi n) = .fault) := by
  w_on
  unfold CallsR
  k_fill
  intro p loose mean mg mb dp un gd cn cs fa ccd cl outer A₀ base h₀ L m hS gS dS tS oS Q E hB hF hX hN hT hk hd hu hret hrais
  refine wpAny_call ?_
  k_dflt (refine' kla_code ?k1 ?k2 ?k3 ?k4 ?k5 ?kA ?kF ?kK ?k6 ?k7 ?k8 ?k9 ?kB ?_ ?c2 ?c3 ?c4 ?c5; (case kA => exact rfl); (case kF => exact rfl); (case kK => assumption); (case k1 => k_asm); (case k2 => k_asm); (case k3 => k_asm); (case k4 => k_asm); (case k5 => k_asm); (case k6 => exact hf); (case k7 => exact codeRec_news (by k_asm) hc hcd hcv); (case k8 => ktr_room); (case k9 => exact rfl); (case c5 => decide); (case kB => exact locs rfl); (case c2 => exact rfl); (case c3 => exact rfl); (case c4 => exact rfl); k_whole; intro g' L' h' FG' F' N' B' X' T'; (try dsimp only); (try k_lift B'); (try k_fold))
  k_steps
  all_goals first
      | exact hret _ _ _ _ ⟨by assumption, rfl⟩ (by k_asm) (by first | k_asm | exact news_tl (by k_asm) | exact news_tl (news_tl (by k_asm)))
      | ((refine' hrais _ _ _ _ ?_ ?_ ?_ (by first | assumption | exact raised_tl (by assumption) | exact raised_tl (raised_tl (by assumption)))) <;> first | assumption | k_asm)
      | contradiction
      | trace_state


theorem told_conv {n : Int} {x : PySem.Str} {tk tn : Tok} {z0 z1 : Nat} {p0 p1 : Pos} {f c' c_kind c_number : Addr} {o_kind o_number oc : Obj} {vs : Array Value} {qual : PySem.Str} {pm ctv : Value} {t : Tok} {q0 q1 q2 q3 : Pos} (hf : (f, kla_obj "<lambda>" qual ⟨[], [], none, [], [], none, []⟩ (PySem.Expr.Call (PySem.Expr.Name (PySem.Str.ofString "const_convert") q0) [PySem.Expr.Name (PySem.Str.ofString "number") q2, PySem.Expr.Tuple [PySem.Expr.Constant (PySem.Const.str (PySem.Str.ofString "int")) z0 p0, PySem.Expr.Name (PySem.Str.ofString "kind") p1] z1 q3] [] q1) { kind := .function, names := [(PySem.Str.ofString "kind", NameKind.free), (PySem.Str.ofString "number", NameKind.free), (PySem.Str.ofString "const_convert", NameKind.globalImplicit)], isGenerator := false, isCoroutine := false } [(PySem.Str.ofString "number", c_number), (PySem.Str.ofString "kind", c_kind)] pm c' ctv) ∈ news) (hc : (c', oc) ∈ news) (hcd : oc.data = .fields vs) (hcv : vs[1]? = some (.str qual t)) (m_kind : (c_kind, o_kind) ∈ news) (d_kind : o_kind.data = .cell (some (.str x tk))) (m_number : (c_number, o_number) ∈ news) (d_number : o_number.data = .cell (some (.int n tn))) (hkv : KV (.str x tk) u lo hi) : CallsS 11 w 213 [.ref f] news (fun v n' => ((kept lo hi n)).Val v ∧ n' = news) :=
  told_res hf (lam_conv hf hc hcd hcv m_kind d_kind m_number d_number hkv)
theorem told_conv_in {n : Int} {x : PySem.Str} {tk tn : Tok} {z0 z1 : Nat} {p0 p1 : Pos} {f c' c_kind c_number : Addr} {o_kind o_number oc : Obj} {vs : Array Value} {qual : PySem.Str} {pm ctv : Value} {t : Tok} {q0 q1 q2 q3 : Pos} (hf : (f, kla_obj "<lambda>" qual ⟨[], [], none, [], [], none, []⟩ (PySem.Expr.Call (PySem.Expr.Name (PySem.Str.ofString "const_convert") q0) [PySem.Expr.Name (PySem.Str.ofString "number") q2, PySem.Expr.Tuple [PySem.Expr.Constant (PySem.Const.str (PySem.Str.ofString "int")) z0 p0, PySem.Expr.Name (PySem.Str.ofString "kind") p1] z1 q3] [] q1) { kind := .function, names := [(PySem.Str.ofString "kind", NameKind.free), (PySem.Str.ofString "number", NameKind.free), (PySem.Str.ofString "const_convert", NameKind.globalImplicit)], isGenerator := false, isCoroutine := false } [(PySem.Str.ofString "number", c_number), (PySem.Str.ofString "kind", c_kind)] pm c' ctv) ∈ news) (hc : (c', oc) ∈ news) (hcd : oc.data = .fields vs) (hcv : vs[1]? = some (.str qual t)) (m_kind : (c_kind, o_kind) ∈ news) (d_kind : o_kind.data = .cell (some (.str x tk))) (m_number : (c_number, o_number) ∈ news) (d_number : o_number.data = .cell (some (.int n tn))) (hkv : KV (.str x tk) u lo hi) (hb : lo ≤ n ∧ n ≤ hi) : CallsS 11 w 213 [.ref f] news (fun v n' => (Res.int n).Val v ∧ n' = news) :=
  callsS_ret (told_conv hf hc hcd hcv m_kind d_kind m_number d_number hkv) fun v n' z => ⟨by have z1 := z.1; unfold kept at z1; rw [if_pos hb] at z1; exact z1, z.2⟩
theorem told_conv_out {n : Int} {x : PySem.Str} {tk tn : Tok} {z0 z1 : Nat} {p0 p1 : Pos} {f c' c_kind c_number : Addr} {o_kind o_number oc : Obj} {vs : Array Value} {qual : PySem.Str} {pm ctv : Value} {t : Tok} {q0 q1 q2 q3 : Pos} (hf : (f, kla_obj "<lambda>" qual ⟨[], [], none, [], [], none, []⟩ (PySem.Expr.Call (PySem.Expr.Name (PySem.Str.ofString "const_convert") q0) [PySem.Expr.Name (PySem.Str.ofString "number") q2, PySem.Expr.Tuple [PySem.Expr.Constant (PySem.Const.str (PySem.Str.ofString "int")) z0 p0, PySem.Expr.Name (PySem.Str.ofString "kind") p1] z1 q3] [] q1) { kind := .function, names := [(PySem.Str.ofString "kind", NameKind.free), (PySem.Str.ofString "number", NameKind.free), (PySem.Str.ofString "const_convert", NameKind.globalImplicit)], isGenerator := false, isCoroutine := false } [(PySem.Str.ofString "number", c_number), (PySem.Str.ofString "kind", c_kind)] pm c' ctv) ∈ news) (hc : (c', oc) ∈ news) (hcd : oc.data = .fields vs) (hcv : vs[1]? = some (.str qual t)) (m_kind : (c_kind, o_kind) ∈ news) (d_kind : o_kind.data = .cell (some (.str x tk))) (m_number : (c_number, o_number) ∈ news) (d_number : o_number.data = .cell (some (.int n tn))) (hkv : KV (.str x tk) u lo hi) (hb : ¬ (lo ≤ n ∧ n ≤ hi)) : CallsS 11 w 213 [.ref f] news (fun v n' => (Res.fault).Val v ∧ n' = news) :=
  callsS_ret (told_conv hf hc hcd hcv m_kind d_kind m_number d_number hkv) fun v n' z => ⟨by have z1 := z.1; rw [kept_out hb] at z1; exact z1, z.2⟩
end
end

end

-- group 7
section

-- OC
section
theorem start_OC : True := by
  w_top off
  k_with_none
  (k_with "eval Constant str" => refine kstr ?_)
  (k_with "eval Constant int" => refine kint ?_)
  (k_with "eval Constant bytes" => refine kbyt ?_)
  (k_with "binaryOp Add int int" => with_reducible refine kadd ?_)
  (k_with "binaryOp Sub int int" => with_reducible refine ksub ?_)
  (k_with "unaryOp USub int" => with_reducible refine kneg ?_)
  (k_with "storeName" => (k_here; k_dflt (refine kstL (by k_asm) (by k_asm) ?_ (rfl) (rfl); k_whole; intro h9 F9 N9; (try k_sweep))))
  (k_with "newTuple" => (k_here; k_dflt (refine ktuK (by k_asm) (by k_asm) ?_ (by kmk_size)); intro D7 h7 F7 N7 l7; (try k_lt l7); (try k_sweep)))
  (k_with "newList" => (k_here; k_dflt (refine kltK (by k_asm) (by k_asm) ?_ (by size_fits)); intro D7 h7 F7 N7 l7; (try k_lt l7); (try k_sweep)))
  (k_with "steps9" => repeat' (first | (k_unfold; (try dsimp only)) | (k_end; wrow_close) | (walk1 <;> (try dsimp only)) | (dsimp only; walk1) | (leave1; walk_say "STEP leave1"; try dsimp only) | (with_reducible refine popN (by assumption) ?_) | (with_reducible refine popR (by assumption) ?_) | ((refine pop_ (by assumption) ?_); (try dsimp only)) | fail "no step"))
  (k_with "all9" => focus ((repeat (first | exact List.forall_mem_nil _ | with_reducible assumption | (refine List.forall_mem_cons.mpr ⟨by k_ne, ?_⟩))); done))
  (k_with "room9" => first | exact rl1 (by with_reducible assumption) (Nat.le_of_ble_eq_true rfl) | exact rl0 (by with_reducible assumption) (Nat.le_of_ble_eq_true rfl) | exact rl2 (by with_reducible assumption) (Nat.le_of_ble_eq_true rfl) | exact rlz (by assumption))
  (k_with "ne9" => (refine neN ?_; (try dsimp only); first | (refine Nat.ne_of_lt ?_; focus ((repeat (first | with_reducible assumption | exact cj0 (by with_reducible assumption) | exact cj1 (by with_reducible assumption) | exact cj2 (by with_reducible assumption) | exact cj3 (by with_reducible assumption) | exact cj4 (by with_reducible assumption) | exact cj5 (by with_reducible assumption) | exact cj6 (by with_reducible assumption) | exact cj7 (by with_reducible assumption) | exact cj8 (by with_reducible assumption) | exact cj9 (by with_reducible assumption) | exact cj10 (by with_reducible assumption) | exact cj11 (by with_reducible assumption) | exact cj12 (by with_reducible assumption) | exact cj13 (by with_reducible assumption) | exact cj14 (by with_reducible assumption) | exact cj15 (by with_reducible assumption) | (refine lt_tr (by with_reducible assumption) ?_))); done)) | (refine Nat.ne_of_gt ?_; focus ((repeat (first | with_reducible assumption | exact cj0 (by with_reducible assumption) | exact cj1 (by with_reducible assumption) | exact cj2 (by with_reducible assumption) | exact cj3 (by with_reducible assumption) | exact cj4 (by with_reducible assumption) | exact cj5 (by with_reducible assumption) | exact cj6 (by with_reducible assumption) | exact cj7 (by with_reducible assumption) | exact cj8 (by with_reducible assumption) | exact cj9 (by with_reducible assumption) | exact cj10 (by with_reducible assumption) | exact cj11 (by with_reducible assumption) | exact cj12 (by with_reducible assumption) | exact cj13 (by with_reducible assumption) | exact cj14 (by with_reducible assumption) | exact cj15 (by with_reducible assumption) | (refine lt_tr (by with_reducible assumption) ?_))); done))))
  (k_with "mem9" => focus ((repeat (first | with_reducible assumption | exact List.mem_append_left _ (by with_reducible assumption) | exact List.mem_append_right _ (by with_reducible assumption) | exact List.Mem.head _ | refine List.Mem.tail _ ?_)); done))
  trivial


theorem words_OC_61 : True := by
  (k_with "eval Call" => (((with_reducible show wpAny _ _ (eval (PySem.Expr.Call (PySem.Expr.Name _ _) _ [] _) _) _ _ _); k_dflt (refine Call_ ?_))))
  trivial
inductive OctCls : Int → Array UInt8 → Prop
  | a (r : Int) (h0 : 0 ≤ r) (h1 : r < 128) : OctCls r #[r.toNat.toUInt8]
  | b (r : Int) (h0 : 128 ≤ r) (h1 : r < 2048) : OctCls r #[(192 + r / 64).toNat.toUInt8, (128 + r % 64).toNat.toUInt8]
  | c (r : Int) (h0 : 2048 ≤ r) (h1 : r < 65536) : OctCls r #[(224 + r / 4096).toNat.toUInt8, (128 + r / 64 % 64).toNat.toUInt8, (128 + r % 64).toNat.toUInt8]
  | d (r : Int) (h0 : 65536 ≤ r) (h1 : r < 1114112) : OctCls r #[(240 + r / 262144).toNat.toUInt8, (128 + r / 4096 % 64).toNat.toUInt8, (128 + r / 64 % 64).toNat.toUInt8, (128 + r % 64).toNat.toUInt8]
theorem pow64_log {n : Int} (h : n ≤ 3) : ((64 : Int) ^ n.toNat).natAbs.log2 < 9000 := by
  have h2 : n.toNat ≤ 3 := by omega
  generalize n.toNat = k at *
  have : k = 0 ∨ k = 1 ∨ k = 2 ∨ k = 3 := by omega
  rcases this with rfl | rfl | rfl | rfl <;> decide +kernel
theorem oct2 (r : Int) : ([192 + r.fdiv (64 ^ Int.toNat 1)] ++ List.map (fun k => 128 + (r.fdiv (64 ^ (1 - 1 - k).toNat)).fmod 64) (rangeKs 0 (1 - 0 : Int).toNat)) = [192 + r / 64, 128 + r % 64] := by
  rw [show rangeKs 0 (1 - 0 : Int).toNat = [0] by decide +kernel]
  rw [Int.fdiv_eq_ediv_of_nonneg _ (by decide)]
  simp only [List.map_cons, List.map_nil, List.cons_append, List.nil_append]
  rw [Int.fdiv_eq_ediv_of_nonneg _ (by decide), Int.fmod_eq_emod_of_nonneg _ (by decide)]
  rw [show ((1 - 1 - 0 : Int)).toNat = 0 by decide, show (64 : Int) ^ 0 = 1 by decide, Int.ediv_one]
  rfl
theorem oct3 (r : Int) : ([224 + r.fdiv (64 ^ Int.toNat 2)] ++ List.map (fun k => 128 + (r.fdiv (64 ^ (2 - 1 - k).toNat)).fmod 64) (rangeKs 0 (2 - 0 : Int).toNat)) = [224 + r / 4096, 128 + r / 64 % 64, 128 + r % 64] := by
  rw [show rangeKs 0 (2 - 0 : Int).toNat = [0, 1] by decide +kernel]
  simp only [List.map_cons, List.map_nil, List.cons_append, List.nil_append]
  rw [Int.fdiv_eq_ediv_of_nonneg _ (by decide), Int.fdiv_eq_ediv_of_nonneg _ (by decide), Int.fdiv_eq_ediv_of_nonneg _ (by decide), Int.fmod_eq_emod_of_nonneg _ (by decide), Int.fmod_eq_emod_of_nonneg _ (by decide)]
  rw [show ((2 - 1 - 0 : Int)).toNat = 1 by decide, show ((2 - 1 - 1 : Int)).toNat = 0 by decide, show (64 : Int) ^ 0 = 1 by decide, Int.ediv_one]
  rfl
theorem oct4 (r : Int) : ([240 + r.fdiv (64 ^ Int.toNat 3)] ++ List.map (fun k => 128 + (r.fdiv (64 ^ (3 - 1 - k).toNat)).fmod 64) (rangeKs 0 (3 - 0 : Int).toNat)) = [240 + r / 262144, 128 + r / 4096 % 64, 128 + r / 64 % 64, 128 + r % 64] := by
  rw [show rangeKs 0 (3 - 0 : Int).toNat = [0, 1, 2] by decide +kernel]
  simp only [List.map_cons, List.map_nil, List.cons_append, List.nil_append]
  rw [Int.fdiv_eq_ediv_of_nonneg _ (by decide), Int.fdiv_eq_ediv_of_nonneg _ (by decide), Int.fdiv_eq_ediv_of_nonneg _ (by decide), Int.fdiv_eq_ediv_of_nonneg _ (by decide), Int.fmod_eq_emod_of_nonneg _ (by decide), Int.fmod_eq_emod_of_nonneg _ (by decide), Int.fmod_eq_emod_of_nonneg _ (by decide)]
  rw [show ((3 - 1 - 0 : Int)).toNat = 2 by decide, show ((3 - 1 - 1 : Int)).toNat = 1 by decide, show ((3 - 1 - 2 : Int)).toNat = 0 by decide, show (64 : Int) ^ 0 = 1 by decide, Int.ediv_one]
  rfl
theorem bytes_oct {prog : Program} {w : World} {A : Around} {E : Value → Shared → Prop} {s : Shared} {h₀ : Heap} {L D : Addr} {m : PySem.Str → Option Value} {news : List (Addr × Obj)} {vs : List Value} {ns ns' : List Int} {b : Array UInt8} {c : Nat} {Q : Value → Shared → Prop}
    (e : ns = ns') (hr : ∀ n ∈ ns', 0 ≤ n ∧ n < 256) (hz : ns'.length ≤ 8) (hb : (ns'.map fun n => n.toNat.toUInt8).toArray = b) (F : Fr h₀ L s.heap m) (N : News h₀ L s.heap news) (hm : (D, listOf vs.toArray c) ∈ news) (hi : IntsAre vs ns) (hh : A.handled = none)
    (h : ∀ h' t k, Fr h₀ L h' m → News h₀ L h' news → Q (.bytes b t) { s with heap := h', toks := k }) : wpAny (model prog w) A (call (.type "bytes") [.ref D]) Q E s := by
  subst e
  refine bytes_K F N ⟨_, (N _ hm).1, rfl, _, rfl⟩ hi hr ?_ hh fun h' t k F' N' _ => hb ▸ h h' t k F' N'
  rw [hi.length, sizeLine_eq]; omega
theorem pw1 {k : Int} (h : k < 0 + ((1 - 0 : Int).toNat : Int)) : 0 ≤ 1 - 1 - k := by
  have e : (1 - 0 : Int).toNat = 1 := by decide
  rw [e] at h; omega
theorem pwl1 {k : Int} (h : 0 ≤ k) : 1 - 1 - k ≤ 1000000 := by omega
theorem pw2 {k : Int} (h : k < 0 + ((2 - 0 : Int).toNat : Int)) : 0 ≤ 2 - 1 - k := by
  have e : (2 - 0 : Int).toNat = 2 := by decide
  rw [e] at h; omega
theorem pwl2 {k : Int} (h : 0 ≤ k) : 2 - 1 - k ≤ 1000000 := by omega
theorem pw3 {k : Int} (h : k < 0 + ((3 - 0 : Int).toNat : Int)) : 0 ≤ 3 - 1 - k := by
  have e : (3 - 0 : Int).toNat = 3 := by decide
  rw [e] at h; omega
theorem pwl3 {k : Int} (h : 0 ≤ k) : 3 - 1 - k ≤ 1000000 := by omega
theorem m64_b (r : Int) : 0 ≤ 128 + r % 64 ∧ 128 + r % 64 < 256 := by omega
theorem d64_b {r : Int} (h0 : 128 ≤ r) (h1 : r < 2048) : 0 ≤ 192 + r / 64 ∧ 192 + r / 64 < 256 := by omega
theorem d4096_b {r : Int} (h0 : 2048 ≤ r) (h1 : r < 65536) : 0 ≤ 224 + r / 4096 ∧ 224 + r / 4096 < 256 := by omega
theorem d262144_b {r : Int} (h0 : 65536 ≤ r) (h1 : r < 1114112) : 0 ≤ 240 + r / 262144 ∧ 240 + r / 262144 < 256 := by omega
theorem oct_bad {r : Int} {b : Array UInt8} (hr : RuneOf r b) (h : r < 0 ∨ 1114111 < r ∨ (55296 ≤ r ∧ r ≤ 57343)) : OctCls 65533 b := by
  have k : OctCls 65533 #[239, 191, 189] := .c 65533 (by decide) (by decide)
  cases hr <;> first | exact k | (exfalso; omega)
theorem oct_good {r : Int} {b : Array UInt8} (hr : RuneOf r b) (h0 : ¬ r < 0) (h1 : ¬ 1114111 < r) (h2 : ¬ (55296 ≤ r ∧ r ≤ 57343)) : OctCls r b := by
  cases hr <;> first | (exfalso; omega) | exact .a _ (by decide) (by decide) | exact .b _ (by decide) (by decide) | exact .c _ (by decide) (by decide) | exact .d _ (by decide) (by decide)

section
variable {w : World} {news : List (Addr × Obj)}
theorem words_OC_62 : True := by
  (k_with "eval Name" => ((k_here; k_dflt (first | (refine nameX_L (by k_asm) (by exact rfl) ?_ (by exact rfl) (rfl) (by decide); k_whole) | (refine nameX_C (by k_asm) (by exact rfl) (by k_mem) (by assumption) ?_ (by exact rfl) (rfl) (by decide); k_whole) | (refine nameX_K (by k_asm) (by k_asm) (by k_asm) (by k_is) ?_ (by exact rfl) (rfl) (by decide); k_whole)))))
  (k_with "storeName" => ((k_here; k_dflt (first | (refine kstL (by k_asm) (by k_asm) ?_ (rfl) (rfl); k_whole; intro h9 F9 N9) | (refine kstC (by k_asm) (by k_asm) (by exact rfl) (by k_updF) (by assumption) ?_ (rfl) (rfl); k_whole; intro h9 o9 F9 N9 d9; (try dsimp only at N9))))))
  (k_with "binaryOp FloorDiv int int" => ((k_here; refine PyProof.Rows.floordiv_int (Int.pow_ne_zero (by decide)) ?_ (Or.inl (PyProof.noPylong_of_log2 (pow64_log (by omega)))))))
  (k_with "binaryOp Pow int int" => ((k_here; (with_reducible refine pow_int_small (by first | exact pw1 (by assumption) | exact pw2 (by assumption) | exact pw3 (by assumption)) (by first | exact pwl1 (by assumption) | exact pwl2 (by assumption) | exact pwl3 (by assumption)) (by decide) ?_))))
  trivial
set_option maxHeartbeats 8000000 in
theorem octets_c {r : Int} {b : Array UInt8} {t : Tok} (hr : RuneOf r b) : CallsR 1 w 251 [.int r t] news (fun v n' => (∃ t', v = .bytes b t') ∧ n' = news) False := by
  w_on
  unfold CallsR
  k_fill
  intro p loose mean mg mb dp un gd cn cs fa ccd cl outer A₀ base h₀ L m hS gS dS tS oS Q E hB hF hX hN hT hk hd hu hret hrais
  refine wpAny_call ?_
  k_dflt (refine' code_defC (binds := [(PySem.Str.ofString "rune", .int r t)]) ?k1 ?k2 ?k3 ?k4 ?k5 ?kA ?kF ?kK ?k6 ?k7 ?k8 ?k9 ?kB ?kN ?_ ?c2 ?c3 ?c4; (case kA => exact rfl); (case kF => exact rfl); (case kK => assumption); (case k1 => k_asm); (case k2 => k_asm); (case k3 => k_asm); (case k4 => k_asm); (case k5 => k_asm); (case k6 => k_is); (case k7 => k_is); (case k8 => ktr_room); (case k9 => exact BindsTo.of_eq (by kernel_rfl)); (case kB => exact rfl); (case kN => decide +kernel); (case c2 => exact rfl); (case c3 => exact rfl); (case c4 => exact rfl); k_whole; intro g' L' h' tk' cells' FG' F' N' Y' B' X' T' l1)
  have hY := PyProof.Rows.CellsAre.two Y'
  obtain ⟨o2, o1, hE, d2, d1⟩ := hY
  subst hE; clear Y'
  replace d1 : o1.data = .cell (some (.int r t)) := d1
  replace d2 : o2.data = .cell none := d2
  have F1 : Fr g' L' h' (fun y => none) := F'
  have N1 : News g' L' h' ((L' + 2, o2) :: (L' + 1, o1) :: news) := N'
  have f1 : ∀ p ∈ news, p.1 ≠ L' + 1 := fun p hp => Nat.ne_of_lt (Nat.lt_of_lt_of_le (l1 p hp) (Nat.le_add_right _ _))
  have f2 : ∀ p ∈ news, p.1 ≠ L' + 2 := fun p hp => Nat.ne_of_lt (Nat.lt_of_lt_of_le (l1 p hp) (Nat.le_add_right _ _))
  clear F' N' l1
  (try dsimp only); (try k_lift B'); (try k_fold)
  refine seg (fun s' => Held (∃ h tk oa r t, s' = ⟨h, gS, dS, tk, oS⟩ ∧ Fr g' L' h (fun y => none) ∧ News g' L' h ((L' + 2, o2) :: (L' + 1, oa) :: news) ∧ oa.data = .cell (some (.int r t)) ∧ OctCls r b)) ?_ ?_
  · k_steps
    all_goals first
      | exact .mk ⟨_, _, _, _, _, rfl, by k_asm, by k_asm, by assumption, oct_good hr (by assumption) (by assumption) (by omega)⟩
      | exact .mk ⟨_, _, _, _, _, rfl, by k_asm, by k_asm, by assumption, oct_bad hr (by omega)⟩
  clear F1 N1 d1 hr
  rintro s' ⟨h, tk, oa, r, t, rfl, F1, N1, d1, hr⟩
  (try dsimp only)
  rcases hr with ⟨h0, h1⟩ | ⟨h0, h1⟩ | ⟨h0, h1⟩ | ⟨h0, h1⟩
  all_goals k_steps
  exact hret _ _ _ _ ⟨⟨_, rfl⟩, rfl⟩ (by k_asm) (news_sub (by k_asm) (sub_tail (sub_tail (sub_tail sub_refl))))
  refine bytes_oct (oct2 _) (List.forall_mem_cons.mpr ⟨d64_b (by assumption) (by assumption), List.forall_mem_cons.mpr ⟨m64_b _, List.forall_mem_nil _⟩⟩) (Nat.le_of_ble_eq_true rfl) rfl (by k_asm) (by k_asm) (by k_mem) (by assumption) rfl ?_
  intro h9 t9 k9 F9 N9
  k_steps
  exact hret _ _ _ _ ⟨⟨_, rfl⟩, rfl⟩ (by k_asm) (news_sub (by k_asm) (sub_tail (sub_tail (sub_tail (sub_tail (sub_tail (sub_tail sub_refl)))))))
  refine bytes_oct (oct3 _) (List.forall_mem_cons.mpr ⟨d4096_b (by assumption) (by assumption), List.forall_mem_cons.mpr ⟨m64_b _, List.forall_mem_cons.mpr ⟨m64_b _, List.forall_mem_nil _⟩⟩⟩) (Nat.le_of_ble_eq_true rfl) rfl (by k_asm) (by k_asm) (by k_mem) (by assumption) rfl ?_
  intro h9 t9 k9 F9 N9
  k_steps
  exact hret _ _ _ _ ⟨⟨_, rfl⟩, rfl⟩ (by k_asm) (news_sub (by k_asm) (sub_tail (sub_tail (sub_tail (sub_tail (sub_tail (sub_tail sub_refl)))))))
  refine bytes_oct (oct4 _) (List.forall_mem_cons.mpr ⟨d262144_b (by assumption) (by assumption), List.forall_mem_cons.mpr ⟨m64_b _, List.forall_mem_cons.mpr ⟨m64_b _, List.forall_mem_cons.mpr ⟨m64_b _, List.forall_mem_nil _⟩⟩⟩⟩) (Nat.le_of_ble_eq_true rfl) rfl (by k_asm) (by k_asm) (by k_mem) (by assumption) rfl ?_
  intro h9 t9 k9 F9 N9
  k_steps
  exact hret _ _ _ _ ⟨⟨_, rfl⟩, rfl⟩ (by k_asm) (news_sub (by k_asm) (sub_tail (sub_tail (sub_tail (sub_tail (sub_tail (sub_tail sub_refl)))))))

end
end

end

-- group 8
section

-- NE
section
theorem start_NE : True := by
  w_top off
  k_with_none
  (k_with "eval Constant str" => refine kstr ?_)
  (k_with "eval Constant int" => refine kint ?_)
  (k_with "eval Constant bytes" => refine kbyt ?_)
  (k_with "binaryOp Add int int" => with_reducible refine kadd ?_)
  (k_with "binaryOp Sub int int" => with_reducible refine ksub ?_)
  (k_with "unaryOp USub int" => with_reducible refine kneg ?_)
  (k_with "storeName" => (k_here; k_dflt (refine kstL (by k_asm) (by k_asm) ?_ (rfl) (rfl); k_whole; intro h9 F9 N9; (try k_sweep))))
  (k_with "newTuple" => (k_here; k_dflt (refine ktuK (by k_asm) (by k_asm) ?_ (by kmk_size)); intro D7 h7 F7 N7 l7; (try k_lt l7); (try k_sweep)))
  (k_with "newList" => (k_here; k_dflt (refine kltK (by k_asm) (by k_asm) ?_ (by size_fits)); intro D7 h7 F7 N7 l7; (try k_lt l7); (try k_sweep)))
  (k_with "steps9" => repeat' (first | (k_unfold; (try dsimp only)) | (k_end; wrow_close) | (walk1 <;> (try dsimp only)) | (dsimp only; walk1) | (leave1; walk_say "STEP leave1"; try dsimp only) | (with_reducible refine popN (by assumption) ?_) | (with_reducible refine popR (by assumption) ?_) | ((refine pop_ (by assumption) ?_); (try dsimp only)) | fail "no step"))
  (k_with "all9" => focus ((repeat (first | exact List.forall_mem_nil _ | with_reducible assumption | (refine List.forall_mem_cons.mpr ⟨by k_ne, ?_⟩))); done))
  (k_with "room9" => first | exact rl1 (by with_reducible assumption) (Nat.le_of_ble_eq_true rfl) | exact rl0 (by with_reducible assumption) (Nat.le_of_ble_eq_true rfl) | exact rl2 (by with_reducible assumption) (Nat.le_of_ble_eq_true rfl) | exact rlz (by assumption))
  (k_with "ne9" => (refine neN ?_; (try dsimp only); first | (refine Nat.ne_of_lt ?_; focus ((repeat (first | with_reducible assumption | exact cj0 (by with_reducible assumption) | exact cj1 (by with_reducible assumption) | exact cj2 (by with_reducible assumption) | exact cj3 (by with_reducible assumption) | exact cj4 (by with_reducible assumption) | exact cj5 (by with_reducible assumption) | exact cj6 (by with_reducible assumption) | exact cj7 (by with_reducible assumption) | exact cj8 (by with_reducible assumption) | exact cj9 (by with_reducible assumption) | exact cj10 (by with_reducible assumption) | exact cj11 (by with_reducible assumption) | exact cj12 (by with_reducible assumption) | exact cj13 (by with_reducible assumption) | exact cj14 (by with_reducible assumption) | exact cj15 (by with_reducible assumption) | (refine lt_tr (by with_reducible assumption) ?_))); done)) | (refine Nat.ne_of_gt ?_; focus ((repeat (first | with_reducible assumption | exact cj0 (by with_reducible assumption) | exact cj1 (by with_reducible assumption) | exact cj2 (by with_reducible assumption) | exact cj3 (by with_reducible assumption) | exact cj4 (by with_reducible assumption) | exact cj5 (by with_reducible assumption) | exact cj6 (by with_reducible assumption) | exact cj7 (by with_reducible assumption) | exact cj8 (by with_reducible assumption) | exact cj9 (by with_reducible assumption) | exact cj10 (by with_reducible assumption) | exact cj11 (by with_reducible assumption) | exact cj12 (by with_reducible assumption) | exact cj13 (by with_reducible assumption) | exact cj14 (by with_reducible assumption) | exact cj15 (by with_reducible assumption) | (refine lt_tr (by with_reducible assumption) ?_))); done))))
  (k_with "mem9" => focus ((repeat (first | with_reducible assumption | exact List.mem_append_left _ (by with_reducible assumption) | exact List.mem_append_right _ (by with_reducible assumption) | exact List.Mem.head _ | refine List.Mem.tail _ ?_)); done))
  trivial


theorem words_NE_63 : True := by
  (k_with "execs cons" => (first | (k_here; k_gentoks) | (k_here; k_made; walk_at "execs cons") | (k_here; k_dflt (first | refine lastO ?_ | (refine consO ?_; k_whole; intro qO9 zO9)))))
  (k_with "eval Call" => (((with_reducible show wpAny _ _ (eval (PySem.Expr.Call (PySem.Expr.Name _ _) _ [] _) _) _ _ _); k_dflt (refine Call_ ?_))))
  trivial
inductive MBin : Prop
  | mk
inductive MShl : Prop
  | mk
inductive MShr : Prop
  | mk
inductive MNeg : Prop
  | mk
inductive MFlip : Prop
  | mk
theorem max_is {n : Int} (h : ¬ n < 0) : (if n > 0 then n else 0) = n := by split <;> omega
theorem shl_val {a n lo hi : Int} {v : Value} (h0 : ¬ n < 0) (h1 : n ≤ 300) (h : (kept lo hi (a * 2 ^ (if n > 0 then n else 0).toNat)).Val v) : (shl a n lo hi).Val v := by
  rw [max_is h0] at h; rw [shl_kept h0 h1]; exact h
theorem shr_val {a n lo hi : Int} {t : Tok} (h0 : ¬ n < 0) (h1 : n ≤ 300) (ha : lo ≤ a ∧ a ≤ hi) (hz : lo ≤ 0 ∧ 0 ≤ hi) : (shr a n lo hi).Val (.int (a.fdiv (2 ^ (if n > 0 then n else 0).toNat)) t) := by
  rw [max_is h0]; exact shr_small h0 h1 ha hz
theorem flipv_t {a lo hi : Int} {t : Tok} : (flip true a lo hi).Val (.int (hi - a) t) := ⟨_, rfl⟩
theorem flipv_f {a lo hi : Int} {t : Tok} (h1 : lo ≤ -1 - a) (h2 : -1 - a ≤ hi) : (flip false a lo hi).Val (.int (-1 - a) t) := by
  unfold flip kept
  rw [if_neg (by decide), if_pos ⟨h1, h2⟩]
  exact ⟨_, rfl⟩
theorem pos_in {w : World} {news : List (Addr × Obj)} {kv : Value} {u : Bool} {lo hi a : Int} {ta to : Tok} (hkn : KN kv u lo hi) (h : lo ≤ a ∧ a ≤ hi) : CallsR 8 w 92 [.str (PySem.Str.ofString "+") to, .int a ta, kv] news (fun v n' => (Res.int a).Val v ∧ n' = news) False := by
  have e : kept lo hi a = .int a := by unfold kept; rw [if_pos h]
  refine callsR_sure (pos_c hkn) (by rw [e]; intro z; cases z) fun v n z => ?_
  rw [e] at z
  exact ⟨z.1.1, z.2⟩
theorem lift_le {L : Addr} {k : Nat} (h : k ≤ 5) : @LE.le Nat _ (L + k) (L + 5) := Nat.add_le_add_left h L
theorem flipv_k {kv : Value} {a lo hi : Int} {t : Tok} (h : KN kv false lo hi) (ha : lo ≤ a ∧ a ≤ hi) (hc : -9223372036854775808 ≤ a ∧ a < 18446744073709551616) : (flip false a lo hi).Val (.int (-1 - a) t) := by
  have k : lo ≤ -1 - a ∧ -1 - a ≤ hi := by
    cases h with
    | none =>
      have e : (2 : Int) ^ 100 ≤ 2 ^ 512 := by decide +kernel
      have e2 : (18446744073709551616 : Int) * 2 ≤ 2 ^ 100 := by decide +kernel
      generalize (2 : Int) ^ 512 = z at *
      generalize (2 : Int) ^ 100 = y at *
      omega
    | some h =>
      have := h.bds
      have := this.2.2.2.2.2 rfl
      omega
  exact flipv_f k.1 k.2
theorem kn_zero {kv : Value} {u : Bool} {lo hi : Int} (h : KN kv u lo hi) : lo ≤ 0 ∧ 0 ≤ hi := by
  rcases h with _ | hkv
  rotate_left
  cases hkv
  all_goals decide +kernel
theorem codes_l1 {L : Addr} {led codes codes' : List (Addr × Obj)} (h : ∀ q ∈ led, q.1 < L) (hc : ∀ q ∈ codes', q ∈ codes ∨ @LT.lt Nat _ (L + 5) q.1) : ∀ q ∈ codes', q ∈ codes ∨ ∀ q' ∈ led, @LT.lt Nat _ q'.1 q.1 :=
  fun q hq => (hc q hq).imp id fun z q' hq' => Nat.lt_trans (Nat.lt_of_lt_of_le (h q' hq') (Nat.le_add_right _ _)) z
section
variable {w : World} {news : List (Addr × Obj)} {kv : Value} {u : Bool} {lo hi : Int}
theorem words_NE_64 : True := by
  (k_with "eval Name" => ((k_here; k_dflt (first | (refine nameX_L (by k_asm) (by exact rfl) ?_ (by exact rfl) (rfl) (by decide); k_whole) | (refine nameX_C (by k_asm) (by exact rfl) (by k_mem) (by assumption) ?_ (by exact rfl) (rfl) (by decide); k_whole) | (refine nameX_K (by k_asm) (by k_asm) (by k_asm) (by k_is) ?_ (by exact rfl) (rfl) (by decide); k_whole)))))
  (k_with "storeName" => ((k_here; k_dflt (first | (refine kstL (by k_asm) (by k_asm) ?_ (rfl) (rfl); k_whole; intro h9 F9 N9) | (refine kstC (by k_asm) (by k_asm) (by exact rfl) (by k_updF) (by assumption) ?_ (rfl) (rfl); k_whole; intro h9 o9 F9 N9 d9; (try dsimp only at N9))))))
  (k_with "callWith ref" => ((k_here; k_dflt (refine kwith (by k_asm) (by k_is) ?_; k_whole))))
  (k_with "subscriptTail Name Slice ref ref" => ((k_here; (with_reducible show wpAny _ _ (subscriptTail _ (PySem.Expr.Slice _ _ _ _) (Value.ref _) (Value.ref _)) _ _ _); k_dflt (refine slice9 (by k_asm) (by k_asm) (by k_mem) ?_ (by with_unfolding_all rfl) (by exact fun _ => rfl); k_whole); intro D9 h9 F9 N9 l9; (try k_lt l9))))
  (k_with "exec For Name List cons nil" => ((k_here; k_dflt (refine For_inv ?_ (rfl) (by (intro _; rfl)) (by first | assumption | passes_own); k_whole))))
  (k_with "subscriptTail" => ((k_here; (with_reducible show wpAny _ _ (subscriptTail _ (PySem.Expr.Slice _ _ _ _) (Value.ref _) (Value.ref _)) _ _ _); k_dflt (refine slice9 (by k_asm) (by k_asm) (by k_mem) ?_ (by with_unfolding_all rfl) (by exact fun _ => rfl); k_whole); intro D9 h9 F9 N9 l9; (try k_lt l9))))
  (k_with "eval Lambda" => ((k_here; k_dflt (refine kla_eval (rfl) ?_); (k_dflt (refine lam_env (by k_asm) (by k_asm) (by k_asm) (by kn_code) (by exact rfl) (by exact rfl) (by exact rfl) (by repeat (first | exact LedF.head | (apply LedF.tail; (focus k_ne)))) (by assumption) (by assumption) (by exact rfl) ?_; k_whole)); intro f9 c9 oc9 vs9 t9 ct9 ps9 cs9 h9 tk9 F9 N9 I9 m9 d9 v9 n9 l9; (try dsimp only at N9); (try dsimp only))))
  (k_with "call ref" => (k_here; (with_reducible show wpAny _ _ (call (Value.ref 185) _) _ _ _); k_dflt (refine callsR_v (by k_asm) (by k_asm) (by k_asm) (by k_asm) (by k_asm) ?_; refine RestR.mkF _ _ (number_u (by assumption) (by k_updF) (by assumption)) (by first | exact rfl | assumption) (by ktr_room) (by ktr_units) ?_; k_whole); intro v9 n9 h9 tk9 R9 F9 N9; obtain ⟨o9, ⟨x9, t9, e9, b9, c9, so9⟩, e8⟩ := R9; subst e9 e8; (try dsimp only at N9); (try dsimp only); (try k_fold)))
  (k_with "call ref" => (k_here; (with_reducible show wpAny _ _ (call (Value.ref 213) _) _ _ _); (have mk9 : MBin := by with_reducible assumption); (clear mk9); k_dflt (refine callsS_v (by k_asm) (by k_asm) (by k_asm) (by k_asm) (by k_asm) (by assumption) (by assumption) (by assumption) (by assumption) ?_; refine RestS.led _ _ _ (told_bin (by k_mem) (by k_mem) (by assumption) (by assumption) (by k_mem) (by assumption) (by k_mem) (by assumption) (by k_mem) (by assumption) (by k_mem) (by assumption) (by assumption) (IntMulOk.of_left (intBits_le_64 (by omega) (by omega))) (IntMulOk.of_left (intBits_le_64 (by omega) (by omega))) (log2_small (by omega) (by omega))) (by first | exact rfl | assumption) (by ktr_room) (by ktr_units) ?_; k_whole); intro v9 h9 tk9 g9 R9 T9 F9 N9 B9 X9 P9 D9; (try dsimp only); (try k_fold)))
  (k_with "call ref" => (k_here; (with_reducible show wpAny _ _ (call (Value.ref 213) _) _ _ _); (have mk9 : MShl := by with_reducible assumption); (clear mk9); k_dflt (refine callsS_v (by k_asm) (by k_asm) (by k_asm) (by k_asm) (by k_asm) (by assumption) (by assumption) (by assumption) (by assumption) ?_; refine RestS.led _ _ _ (told_shl (by k_mem) (by k_mem) (by assumption) (by assumption) (by k_mem) (by assumption) (by k_mem) (by assumption) (by k_mem) (by assumption) (by assumption) (by omega) (by omega)) (by first | exact rfl | assumption) (by ktr_room) (by ktr_units) ?_; k_whole); intro v9 h9 tk9 g9 R9 T9 F9 N9 B9 X9 P9 D9; (try dsimp only); (try k_fold)))
  (k_with "call ref" => (k_here; (with_reducible show wpAny _ _ (call (Value.ref 213) _) _ _ _); (have mk9 : MShr := by with_reducible assumption); (clear mk9); k_dflt (refine callsS_v (by k_asm) (by k_asm) (by k_asm) (by k_asm) (by k_asm) (by assumption) (by assumption) (by assumption) (by assumption) ?_; refine RestS.led _ _ _ (told_shr (by k_mem) (by k_mem) (by assumption) (by assumption) (by k_mem) (by assumption) (by k_mem) (by assumption) (by k_mem) (by assumption) (by assumption)) (by first | exact rfl | assumption) (by ktr_room) (by ktr_units) ?_; k_whole); intro v9 h9 tk9 g9 R9 T9 F9 N9 B9 X9 P9 D9; (try dsimp only); (try k_fold)))
  (k_with "call ref" => (k_here; (with_reducible show wpAny _ _ (call (Value.ref 213) _) _ _ _); (have mk9 : MNeg := by with_reducible assumption); (clear mk9); k_dflt (refine callsS_v (by k_asm) (by k_asm) (by k_asm) (by k_asm) (by k_asm) (by assumption) (by assumption) (by assumption) (by assumption) ?_; refine RestS.led _ _ _ (told_neg (by k_mem) (by k_mem) (by assumption) (by assumption) (by k_mem) (by assumption) (by k_mem) (by assumption) (by assumption)) (by first | exact rfl | assumption) (by ktr_room) (by ktr_units) ?_; k_whole); intro v9 h9 tk9 g9 R9 T9 F9 N9 B9 X9 P9 D9; (try dsimp only); (try k_fold)))
  (k_with "call ref" => (k_here; (with_reducible show wpAny _ _ (call (Value.ref 213) _) _ _ _); (have mk9 : MFlip := by with_reducible assumption); (clear mk9); k_dflt (refine callsS_v (by k_asm) (by k_asm) (by k_asm) (by k_asm) (by k_asm) (by assumption) (by assumption) (by assumption) (by assumption) ?_; refine RestS.led _ _ _ (told_flip (by k_mem) (by k_mem) (by assumption) (by assumption) (by k_mem) (by assumption) (by k_mem) (by assumption) (by assumption)) (by first | exact rfl | assumption) (by ktr_room) (by ktr_units) ?_; k_whole); intro v9 h9 tk9 g9 R9 T9 F9 N9 B9 X9 P9 D9; (try dsimp only); (try k_fold)))
  (k_with "call ref" => (k_here; (with_reducible show wpAny _ _ (call (Value.ref 170) _) _ _ _); k_dflt (refine callsR_v (by k_asm) (by k_asm) (by k_asm) (by k_asm) (by k_asm) ?_; refine RestR.mkF _ _ (one_u (by k_updF) (by assumption) (by k_mem) (by k_ne) (by first | exact (by decide : (2 : Int) ≤ 15) | exact (by decide : (2 : Int) ≤ 9)) (by first | exact (by decide : (15 : Int) ≤ 64) | exact (by decide : (9 : Int) ≤ 64))) (by first | exact rfl | assumption) (by ktr_room) (by ktr_units) ?_; k_whole); intro v9 n9 h9 tk9 R9 F9 N9; obtain ⟨o9, ⟨hv9, so9⟩, e8⟩ := R9; subst e8; (first | (obtain ⟨p9, q9, e9⟩ := ops15 hv9; subst e9) | (obtain ⟨p9, q9, e9⟩ := ops9 hv9; subst e9) | (obtain ⟨p9, q9, e9, b9, c9⟩ := many_in hv9; subst e9) | skip); (try dsimp only at N9); (try dsimp only); (try k_fold)))
  (k_with "call ref" => (k_here; (with_reducible show wpAny _ _ (call (Value.ref 206) _) _ _ _); k_dflt (refine callsR_v (by k_asm) (by k_asm) (by k_asm) (by k_asm) (by k_asm) ?_; refine RestR.ledF _ _ _ (due_c (by assumption) (by omega) (by omega) (by omega) (by omega)) (by first | exact rfl | assumption) (by ktr_room) (by ktr_units) ?_; k_whole); intro v9 h9 tk9 R9 F9 N9; (try dsimp only); (try k_fold)))
  (k_with "call ref" => (k_here; (with_reducible show wpAny _ _ (call (Value.ref 220) _) _ _ _); k_dflt (refine callsR_v (by k_asm) (by k_asm) (by k_asm) (by k_asm) (by k_asm) ?_; refine RestR.eqF _ _ _ (same_c (by assumption) (by assumption)) (by first | exact rfl | assumption) (by ktr_room) (by ktr_units) ?_; k_whole); intro h9 tk9 F9 N9; (try dsimp only); (try k_fold)))
  (k_with "call ref" => (k_here; (with_reducible show wpAny _ _ (call (Value.ref 192) _) _ _ _); k_dflt (refine callsR_v (by k_asm) (by k_asm) (by k_asm) (by k_asm) (by k_asm) ?_; refine RestR.ledF _ _ _ (kept_c (by assumption)) (by first | exact rfl | assumption) (by ktr_room) (by ktr_units) ?_; k_whole); intro v9 h9 tk9 R9 F9 N9; (try dsimp only); (try k_fold)))
  (k_with "call ref" => (k_here; (with_reducible show wpAny _ _ (call (Value.ref 92) _) _ _ _); k_dflt (refine callsR_v (by k_asm) (by k_asm) (by k_asm) (by k_asm) (by k_asm) ?_; refine RestR.ledF _ _ _ (pos_in (by assumption) (by assumption)) (by first | exact rfl | assumption) (by ktr_room) (by ktr_units) ?_; k_whole); intro v9 h9 tk9 R9 F9 N9; (try dsimp only); (try k_fold)))
  (k_with "call ref" => (k_here; (with_reducible show wpAny _ _ (call (Value.ref 178) _) _ _ _); k_dflt (refine callsR_v (by k_asm) (by k_asm) (by k_asm) (by k_asm) (by k_asm) ?_; refine RestR.mkF _ _ (bounds_c (by assumption)) (by first | exact rfl | assumption) (by ktr_room) (by ktr_units) ?_; k_whole); intro v9 n9 h9 tk9 R9 F9 N9; obtain ⟨a9, t9, u9, e9, e8, l9⟩ := R9; subst e9 e8; (try dsimp only); (try k_fold)))
  (k_with "compareOp NotEq" => ((k_here; k_dflt (refine ne_res (by assumption) (by first | assumption | exact ⟨_, rfl⟩) ?_; k_whole); (try dsimp only))))
  (k_with "compareOp Eq" => ((k_here; k_dflt (refine eq_res (by assumption) (by first | assumption | exact ⟨_, rfl⟩) ?_; k_whole); (try dsimp only))))
  trivial
set_option maxHeartbeats 8000000 in
theorem numbers_c {src : Addr} {o : Obj} {ps : Array Value} {codes : List (Addr × Obj)} (hkn : KN kv u lo hi) (ho : SrcO o) (hI : TabInv (PySem.Str.ofString "_law_numbers_right.<locals>.<lambda>") 222 ps codes) (hs : ∀ p ∈ codes ++ news, p.1 ≠ src) (hp : ∀ p ∈ news, p.1 ≠ 222) (hlt : (222 : Nat) < src) : CallsB (fun b9 => CodeHd b9 226 222) 20 w 227 [.ref src, kv] ((src, o) :: (222, tabObj ps) :: (codes ++ news)) (fun v n' => v = .bool true ∧ ∃ o' ps' codes', SrcO o' ∧ TabInv (PySem.Str.ofString "_law_numbers_right.<locals>.<lambda>") 222 ps' codes' ∧ (∀ q ∈ codes', q ∈ codes ∨ ∀ q' ∈ ((src, o) :: (222, tabObj ps) :: (codes ++ news)), @LT.lt Nat _ q'.1 q.1) ∧ n' = (src, o') :: (222, tabObj ps') :: (codes' ++ news)) := by
  w_on
  unfold CallsB
  k_fill
  intro p loose mean mg mb dp un gd cn cs fa ccd cl outer A₀ base g₀ h₀ L m hS gS dS tS oS Q E hB hF hX hN hT hXB hTB hD hT0 hCB hk hd hu hret
  refine wpAny_call ?_
  k_dflt (refine' code_defCT (binds := [(PySem.Str.ofString "source", .ref src), (PySem.Str.ofString "kind", kv)]) ?k1 ?k2 ?k3 ?k4 ?k5 ?xb ?tb ?dd ?t0 ?kA ?kF ?kK ?k6 ?k7 ?k8 ?k9 ?kB ?kN ?_ ?c2 ?c3 ?c4; (case kA => exact rfl); (case kF => exact rfl); (case kK => assumption); (case k1 => k_asm); (case k2 => k_asm); (case k3 => k_asm); (case k4 => k_asm); (case k5 => k_asm); (case xb => assumption); (case tb => assumption); (case dd => assumption); (case t0 => assumption); (case k6 => k_is); (case k7 => k_is); (case k8 => ktr_room); (case k9 => exact BindsTo.of_eq (by kernel_rfl)); (case kB => exact rfl); (case kN => decide +kernel); (case c2 => exact rfl); (case c3 => exact rfl); (case c4 => exact rfl); k_whole; intro g' L' h' tk' cells' FG' F' N' Y' B' X' T' l1 D' S')
  have hY := kc_five Y'
  obtain ⟨o5, o4, o3, o2, o1, hE, d5, d4, d3, d2, d1⟩ := hY
  subst hE; clear Y'
  obtain ⟨la9, lb9⟩ : @LT.lt Nat _ src L' ∧ @LT.lt Nat _ 222 L' := ⟨l1 (src, o) (.head _), l1 (222, tabObj ps) (.tail _ (.head _))⟩
  have lc9 : ∀ p ∈ codes ++ news, p.1 < L' := fun p hp => l1 p (.tail _ (.tail _ hp))
  have f1 : ∀ p ∈ codes ++ news, p.1 ≠ L' + 1 := fun p hp => Nat.ne_of_lt (Nat.lt_of_lt_of_le (lc9 p hp) (Nat.le_add_right _ _))
  have f2 : ∀ p ∈ codes ++ news, p.1 ≠ L' + 2 := fun p hp => Nat.ne_of_lt (Nat.lt_of_lt_of_le (lc9 p hp) (Nat.le_add_right _ _))
  have f3 : ∀ p ∈ codes ++ news, p.1 ≠ L' + 3 := fun p hp => Nat.ne_of_lt (Nat.lt_of_lt_of_le (lc9 p hp) (Nat.le_add_right _ _))
  have f4 : ∀ p ∈ codes ++ news, p.1 ≠ L' + 4 := fun p hp => Nat.ne_of_lt (Nat.lt_of_lt_of_le (lc9 p hp) (Nat.le_add_right _ _))
  have f5 : ∀ p ∈ codes ++ news, p.1 ≠ L' + 5 := fun p hp => Nat.ne_of_lt (Nat.lt_of_lt_of_le (lc9 p hp) (Nat.le_add_right _ _))
  replace d1 : o1.data = .cell (some kv) := d1
  replace d2 : o2.data = .cell none := d2
  replace d3 : o3.data = .cell none := d3
  replace d4 : o4.data = .cell none := d4
  replace d5 : o5.data = .cell none := d5
  have F1 : Fr g' L' h' (fun y => if y = PySem.Str.ofString "source" then some (Value.ref src) else none) := F'
  have N1 : News g' L' h' ((L' + 5, o5) :: (L' + 4, o4) :: (L' + 3, o3) :: (L' + 2, o2) :: (L' + 1, o1) :: (src, o) :: (222, tabObj ps) :: (codes ++ news)) := N'
  have l1s := l1
  clear F' N' l1
  have hz := kn_zero hkn
  (try dsimp only); (try k_lift B')
  refine opQE (by passes_own) (fun Q9 E9 z9 y9 p9 => ?_)
  refine segO (fun s' => HeldC (fun G9 => ∀ h tk oa ob o' a ta b tb, s' = ⟨h, gS, dS, tk, oS⟩ → Fr g' L' h (fun y => if y = PySem.Str.ofString "source" then some (Value.ref src) else none) → News g' L' h ((L' + 5, o5) :: (L' + 4, o4) :: (L' + 3, ob) :: (L' + 2, oa) :: (L' + 1, o1) :: (src, o') :: (222, tabObj ps) :: (codes ++ news)) → oa.data = .cell (some (.int a ta)) → ob.data = .cell (some (.int b tb)) → SrcO o' → (lo ≤ a ∧ a ≤ hi) → (-9223372036854775808 ≤ a ∧ a < 18446744073709551616) → (-9223372036854775808 ≤ b ∧ b < 18446744073709551616) → G9)) (fun Q9 z9 => ?_) ?_
  · k_steps
    (try (refine pop_ (by assumption) ?_))
    exact HeldC.mk fun G9 k9 => k9 _ _ _ _ _ _ _ _ _ rfl (by k_asm) (by refine' news_sub ?N ?S; (case N => k_asm); (case S => (repeat (first | with_reducible exact sub_refl | with_reducible exact sub_nil | ((with_reducible apply sub_cons); (focus k_mem)) | with_reducible apply sub_tail)))) (by assumption) (by assumption) (by assumption) (by assumption) (by assumption) (by assumption)
  intro s' h9
  with_reducible refine heldC_ h9 ?_
  clear h9
  intro h tk oa ob o' a ta b tb e91 F2 N2 e1 e2 so ba ca cb
  subst e91
  (try clear F1); (try clear N1); (try clear d2); (try clear d3); (try clear ho)
  (try dsimp only)
  refine seg0 ?_
  k_steps
  refine .mk ?_
  (try dsimp only)
  refine segO (fun s' => HeldC (fun G9 => ∀ h tk h₀ lops oop ov o' ps' codes', s' = ⟨h, gS, dS, tk, oS⟩ → Fr h₀ L' h (fun y => if y = PySem.Str.ofString "ops" then some (Value.ref lops) else if y = PySem.Str.ofString "source" then some (Value.ref src) else none) → News h₀ L' h ((L' + 5, oop) :: (L' + 4, o4) :: (L' + 3, ob) :: (L' + 2, oa) :: (L' + 1, o1) :: (src, o') :: (222, tabObj ps') :: (codes' ++ news)) → oop.data = .cell ov → SrcO o' → TabInv (PySem.Str.ofString "_law_numbers_right.<locals>.<lambda>") 222 ps' codes' → (∀ q ∈ codes', q ∈ codes ∨ @LT.lt Nat _ (L' + 5) q.1) → Below (ktrTop dp un gd cn cs L fa ccd cl outer) base (envX cn cs L fa ccd cl :: outer) h₀ → (Mine.hd.heap_39 w.params).In h₀ → Top p loose mean mg mb h₀ → KtsDicts (frs (envX cn cs L fa ccd cl :: outer)) h₀ → KtsTurn (frs (envX cn cs L fa ccd cl :: outer)) g' h₀ → G9)) (fun Q9 z9 => ?_) ?_
  · k_steps
    refine' forInv_ (J := (fun l vs k h₀ m rest => HeldC (fun G9 => ∀ lops oop ov o' ps' codes', m = (fun y => if y = PySem.Str.ofString "ops" then some (Value.ref lops) else if y = PySem.Str.ofString "source" then some (Value.ref src) else none) → Below (ktrTop dp un gd cn cs L fa ccd cl outer) base (envX cn cs L fa ccd cl :: outer) h₀ → (Mine.hd.heap_39 w.params).In h₀ → Top p loose mean mg mb h₀ → KtsDicts (frs (envX cn cs L fa ccd cl :: outer)) h₀ → KtsTurn (frs (envX cn cs L fa ccd cl :: outer)) g' h₀ → oop.data = .cell ov → SrcO o' → TabInv (PySem.Str.ofString "_law_numbers_right.<locals>.<lambda>") 222 ps' codes' → (∀ q ∈ codes', q ∈ codes ∨ @LT.lt Nat _ l q.1) → @LT.lt Nat _ (L' + 5) l → (∀ v ∈ vs, ∃ o t, v = Value.str (Op.text o) t) → rest = (l, listOf vs.toArray k) :: (L' + 5, oop) :: (L' + 4, o4) :: (L' + 3, ob) :: (L' + 2, oa) :: (L' + 1, o1) :: (src, o') :: (222, tabObj ps') :: (codes' ++ news) → G9))) ?N0 ?hv ?j ?hJ ?F ?N ?turn ?fin
    case F => k_asm
    case N0 => k_asm
    case hv => k_mem
    case j => exact HeldC.mk fun G9 k9 => k9 _ _ _ _ _ _ rfl (by assumption) (by assumption) (by assumption) (by assumption) (by assumption) d5 (by assumption) (by assumption) (fun q hq => .inl hq) (ltN (by omega)) (List.forall_mem_cons.mpr ⟨⟨_, _, rfl⟩, List.forall_mem_cons.mpr ⟨⟨_, _, rfl⟩, List.forall_mem_nil _⟩⟩) rfl
    case N => refine' news_sub ?N ?S; (case N => k_asm); (case S => (repeat (first | with_reducible exact sub_refl | with_reducible exact sub_nil | ((with_reducible apply sub_cons); (focus k_mem)) | with_reducible apply sub_tail)))
    case hJ =>
      intro h₀ m rest h9
      with_reducible refine heldC_ h9 ?_
      clear h9
      intro lops oop ov o' ps' codes' e91 z1 z2 z3 z4 z5 z6 z7 z8 z9 z10 z11 e92
      subst e91 e92
      exact .head _
    case fin =>
      intro h₀ m rest h tk h9
      with_reducible refine heldC_ h9 ?_
      clear h9
      intro lops oop ov o' ps' codes' e91 z1 z2 z3 z4 z5 z6 z7 z8 z9 z10 z11 e92
      subst e91 e92
      intro F N
      (try (refine pop_ (by assumption) ?_))
      exact HeldC.mk fun G9 k9 => k9 _ _ _ _ _ _ _ _ _ rfl F (fun q hq => N q (.tail _ hq)) z6 z7 z8 (fun q hq => (z9 q hq).imp id (Nat.lt_trans z10)) z1 z2 z3 z4 z5
    case turn =>
      intro I h₀ m rest oI v h tk hv hJ F N hoff hlt
      refine opT (fun Q9 z9 => ?_)
      with_reducible refine heldC_ hJ ?_
      clear hJ
      intro lops oop ov o' ps' codes' e91 z1 z2 z3 z4 z5 z6 z7 z8 z9 z10 z11 e92
      subst e91 e92
      obtain ⟨op, top, rfl⟩ := z11 v hv
      have hlI := hlt _ (.head _)
      replace hlI := ltN hlI
      have q5 := codes_off z9 f5 (Nat.le_of_lt z10)
      have qI : ∀ p ∈ codes' ++ news, p.1 ≠ I := fun p hp => hoff p (.tail _ (.tail _ (.tail _ (.tail _ (.tail _ (.tail _ (.tail _ (.tail _ hp))))))))
      (try dsimp only)
      (try dsimp only at hlI)
      have mark := MBin.mk
      k_steps
      exact turnF_mk rfl (HeldC.mk fun G9 k9 => k9 _ _ _ _ _ _ rfl (by assumption) (by assumption) (by assumption) (by assumption) (by assumption) (by assumption) (by assumption) (by assumption) (codes_grow z9 (by assumption) (by k_mem)) z10 z11 rfl) (by k_asm) (by refine' news_sub ?N ?S; (case N => k_asm); (case S => (repeat (first | with_reducible exact sub_refl | with_reducible exact sub_nil | ((with_reducible apply sub_cons); (focus k_mem)) | with_reducible apply sub_tail)))) (List.forall_mem_cons.mpr ⟨by k_ne, List.forall_mem_cons.mpr ⟨by k_ne, List.forall_mem_cons.mpr ⟨by k_ne, List.forall_mem_cons.mpr ⟨by k_ne, List.forall_mem_cons.mpr ⟨by k_ne, List.forall_mem_cons.mpr ⟨by k_ne, List.forall_mem_cons.mpr ⟨by k_ne, List.forall_mem_cons.mpr ⟨by k_ne, off_step (by assumption) (by k_mem) qI⟩⟩⟩⟩⟩⟩⟩⟩)
  intro s' h9
  with_reducible refine heldC_ h9 ?_
  clear h9
  intro h tk h₀ lops oop ov o' ps' codes' e91 F N x1 x2 x3 x4 x5 x6 x7 x8 x9
  subst e91
  (try clear F2); (try clear N2); (try clear so); (try clear hI); (try clear FG'); (try clear B'); (try clear X'); (try clear T'); (try clear D'); (try clear S')
  have y0 := codes_off x4 hs (Nat.le_trans (Nat.le_of_lt la9) (Nat.le_add_right _ _))
  have y1 := codes_off x4 f1 (lift_le (by decide))
  have y2 := codes_off x4 f2 (lift_le (by decide))
  have y3 := codes_off x4 f3 (lift_le (by decide))
  have y4 := codes_off x4 f4 (lift_le (by decide))
  have y5 := codes_off x4 f5 (lift_le (by decide))
  (try dsimp only)
  refine segO (fun s' => HeldC (fun G9 => ∀ h tk h₀ oop ov o' ps' codes' om n tn, s' = ⟨h, gS, dS, tk, oS⟩ → Fr h₀ L' h (fun y => if y = PySem.Str.ofString "ops" then some (Value.ref lops) else if y = PySem.Str.ofString "source" then some (Value.ref src) else none) → News h₀ L' h ((L' + 5, oop) :: (L' + 4, om) :: (L' + 3, ob) :: (L' + 2, oa) :: (L' + 1, o1) :: (src, o') :: (222, tabObj ps') :: (codes' ++ news)) → oop.data = .cell ov → SrcO o' → TabInv (PySem.Str.ofString "_law_numbers_right.<locals>.<lambda>") 222 ps' codes' → (∀ q ∈ codes', q ∈ codes ∨ @LT.lt Nat _ (L' + 5) q.1) → Below (ktrTop dp un gd cn cs L fa ccd cl outer) base (envX cn cs L fa ccd cl :: outer) h₀ → (Mine.hd.heap_39 w.params).In h₀ → Top p loose mean mg mb h₀ → KtsDicts (frs (envX cn cs L fa ccd cl :: outer)) h₀ → KtsTurn (frs (envX cn cs L fa ccd cl :: outer)) g' h₀ → om.data = .cell (some (.int n tn)) → -1 ≤ n → n ≤ 300 → G9)) (fun Q9 z9 => ?_) ?_
  · k_steps
    (try (refine pop_ (by assumption) ?_))
    exact HeldC.mk fun G9 k9 => k9 _ _ _ _ _ _ _ _ _ _ _ rfl (by k_asm) (by refine' news_sub ?N ?S; (case N => k_asm); (case S => (repeat (first | with_reducible exact sub_refl | with_reducible exact sub_nil | ((with_reducible apply sub_cons); (focus k_mem)) | with_reducible apply sub_tail)))) (by assumption) (by assumption) (by assumption) (by assumption) (by assumption) (by assumption) (by assumption) (by assumption) (by assumption) (by assumption) (by assumption) (by assumption)
  clear F N x1 x2 x3 x4 x5 x6 x7 x8 x9 y0 y1 y2 y3 y4 y5
  intro s' h9
  with_reducible refine heldC_ h9 ?_
  clear h9
  intro h tk h₀ oop ov o' ps' codes' om n tn e91 F N x1 x2 x3 x4 x5 x6 x7 x8 x9 dm n1 n2
  subst e91
  have y0 := codes_off x4 hs (Nat.le_trans (Nat.le_of_lt la9) (Nat.le_add_right _ _))
  have y1 := codes_off x4 f1 (lift_le (by decide))
  have y2 := codes_off x4 f2 (lift_le (by decide))
  have y3 := codes_off x4 f3 (lift_le (by decide))
  have y4 := codes_off x4 f4 (lift_le (by decide))
  have y5 := codes_off x4 f5 (lift_le (by decide))
  (try dsimp only)
  refine segO (fun s' => HeldC (fun G9 => ∀ h tk lv, s' = ⟨h, gS, dS, tk, oS⟩ → Fr h₀ L' h (fun y => if y = PySem.Str.ofString "left" then some lv else if y = PySem.Str.ofString "ops" then some (Value.ref lops) else if y = PySem.Str.ofString "source" then some (Value.ref src) else none) → News h₀ L' h ((L' + 5, oop) :: (L' + 4, om) :: (L' + 3, ob) :: (L' + 2, oa) :: (L' + 1, o1) :: (src, o') :: (222, tabObj ps') :: (codes' ++ news)) → (shl a n lo hi).Val lv → G9)) (fun Q9 z9 => ?_) ?_
  · k_steps
    · exact HeldC.mk fun G9 k9 => k9 _ _ _ rfl (by k_asm) (by k_asm) (by rw [shl_neg (by assumption)]; exact ⟨_, rfl⟩)
    · exact HeldC.mk fun G9 k9 => k9 _ _ _ rfl (by k_asm) (by k_asm) (shl_val (by assumption) (by assumption) (by assumption))
  clear F N
  intro s' h9
  with_reducible refine heldC_ h9 ?_
  clear h9
  intro h tk lv e91 F N hl
  subst e91
  (try dsimp only)
  refine segO (fun s' => HeldC (fun G9 => ∀ h tk rv, s' = ⟨h, gS, dS, tk, oS⟩ → Fr h₀ L' h (fun y => if y = PySem.Str.ofString "right" then some rv else if y = PySem.Str.ofString "left" then some lv else if y = PySem.Str.ofString "ops" then some (Value.ref lops) else if y = PySem.Str.ofString "source" then some (Value.ref src) else none) → News h₀ L' h ((L' + 5, oop) :: (L' + 4, om) :: (L' + 3, ob) :: (L' + 2, oa) :: (L' + 1, o1) :: (src, o') :: (222, tabObj ps') :: (codes' ++ news)) → (shr a n lo hi).Val rv → G9)) (fun Q9 z9 => ?_) ?_
  · k_steps
    · exact HeldC.mk fun G9 k9 => k9 _ _ _ rfl (by k_asm) (by k_asm) (by rw [shr_neg (by assumption)]; exact ⟨_, rfl⟩)
    · exact HeldC.mk fun G9 k9 => k9 _ _ _ rfl (by k_asm) (by k_asm) (shr_val (by assumption) (by assumption) (by assumption) hz)
  clear F N
  intro s' h9
  with_reducible refine heldC_ h9 ?_
  clear h9
  intro h tk rv e91 F N hr
  subst e91
  (try dsimp only)
  refine segO (fun s' => HeldC (fun G9 => ∀ h tk h₀ ps' codes', s' = ⟨h, gS, dS, tk, oS⟩ → Fr h₀ L' h (fun y => if y = PySem.Str.ofString "right" then some rv else if y = PySem.Str.ofString "left" then some lv else if y = PySem.Str.ofString "ops" then some (Value.ref lops) else if y = PySem.Str.ofString "source" then some (Value.ref src) else none) → News h₀ L' h ((L' + 5, oop) :: (L' + 4, om) :: (L' + 3, ob) :: (L' + 2, oa) :: (L' + 1, o1) :: (src, o') :: (222, tabObj ps') :: (codes' ++ news)) → TabInv (PySem.Str.ofString "_law_numbers_right.<locals>.<lambda>") 222 ps' codes' → (∀ q ∈ codes', q ∈ codes ∨ @LT.lt Nat _ (L' + 5) q.1) → Below (ktrTop dp un gd cn cs L fa ccd cl outer) base (envX cn cs L fa ccd cl :: outer) h₀ → (Mine.hd.heap_39 w.params).In h₀ → Top p loose mean mg mb h₀ → KtsDicts (frs (envX cn cs L fa ccd cl :: outer)) h₀ → KtsTurn (frs (envX cn cs L fa ccd cl :: outer)) g' h₀ → G9)) (fun Q9 z9 => ?_) ?_
  · have mark := MShl.mk
    k_steps
    (try (refine pop_ (by assumption) ?_))
    exact HeldC.mk fun G9 k9 => k9 _ _ _ _ _ rfl (by k_asm) (by refine' news_sub ?N ?S; (case N => k_asm); (case S => (repeat (first | with_reducible exact sub_refl | with_reducible exact sub_nil | ((with_reducible apply sub_cons); (focus k_mem)) | with_reducible apply sub_tail)))) (by assumption) (codes_grow x4 (by assumption) (by k_mem)) (by assumption) (by assumption) (by assumption) (by assumption) (by assumption)
  clear F N x3 x4 x5 x6 x7 x8 x9
  clear y0 y1 y2 y3 y4 y5
  intro s' h9
  with_reducible refine heldC_ h9 ?_
  clear h9
  intro h tk h₀ ps' codes' e91 F N x3 x4 x5 x6 x7 x8 x9
  subst e91
  have y0 := codes_off x4 hs (Nat.le_trans (Nat.le_of_lt la9) (Nat.le_add_right _ _))
  have y1 := codes_off x4 f1 (lift_le (by decide))
  have y2 := codes_off x4 f2 (lift_le (by decide))
  have y3 := codes_off x4 f3 (lift_le (by decide))
  have y4 := codes_off x4 f4 (lift_le (by decide))
  have y5 := codes_off x4 f5 (lift_le (by decide))
  (try dsimp only)
  refine segO (fun s' => HeldC (fun G9 => ∀ h tk h₀ ps' codes', s' = ⟨h, gS, dS, tk, oS⟩ → Fr h₀ L' h (fun y => if y = PySem.Str.ofString "right" then some rv else if y = PySem.Str.ofString "left" then some lv else if y = PySem.Str.ofString "ops" then some (Value.ref lops) else if y = PySem.Str.ofString "source" then some (Value.ref src) else none) → News h₀ L' h ((L' + 5, oop) :: (L' + 4, om) :: (L' + 3, ob) :: (L' + 2, oa) :: (L' + 1, o1) :: (src, o') :: (222, tabObj ps') :: (codes' ++ news)) → TabInv (PySem.Str.ofString "_law_numbers_right.<locals>.<lambda>") 222 ps' codes' → (∀ q ∈ codes', q ∈ codes ∨ @LT.lt Nat _ (L' + 5) q.1) → Below (ktrTop dp un gd cn cs L fa ccd cl outer) base (envX cn cs L fa ccd cl :: outer) h₀ → (Mine.hd.heap_39 w.params).In h₀ → Top p loose mean mg mb h₀ → KtsDicts (frs (envX cn cs L fa ccd cl :: outer)) h₀ → KtsTurn (frs (envX cn cs L fa ccd cl :: outer)) g' h₀ → G9)) (fun Q9 z9 => ?_) ?_
  · have mark := MShr.mk
    k_steps
    (try (refine pop_ (by assumption) ?_))
    exact HeldC.mk fun G9 k9 => k9 _ _ _ _ _ rfl (by k_asm) (by refine' news_sub ?N ?S; (case N => k_asm); (case S => (repeat (first | with_reducible exact sub_refl | with_reducible exact sub_nil | ((with_reducible apply sub_cons); (focus k_mem)) | with_reducible apply sub_tail)))) (by assumption) (codes_grow x4 (by assumption) (by k_mem)) (by assumption) (by assumption) (by assumption) (by assumption) (by assumption)
  clear F N x3 x4 x5 x6 x7 x8 x9
  clear y0 y1 y2 y3 y4 y5
  intro s' h9
  with_reducible refine heldC_ h9 ?_
  clear h9
  intro h tk h₀ ps' codes' e91 F N x3 x4 x5 x6 x7 x8 x9
  subst e91
  have y0 := codes_off x4 hs (Nat.le_trans (Nat.le_of_lt la9) (Nat.le_add_right _ _))
  have y1 := codes_off x4 f1 (lift_le (by decide))
  have y2 := codes_off x4 f2 (lift_le (by decide))
  have y3 := codes_off x4 f3 (lift_le (by decide))
  have y4 := codes_off x4 f4 (lift_le (by decide))
  have y5 := codes_off x4 f5 (lift_le (by decide))
  (try dsimp only)
  refine segO (fun s' => HeldC (fun G9 => ∀ h tk h₀ ps' codes', s' = ⟨h, gS, dS, tk, oS⟩ → Fr h₀ L' h (fun y => if y = PySem.Str.ofString "right" then some rv else if y = PySem.Str.ofString "left" then some lv else if y = PySem.Str.ofString "ops" then some (Value.ref lops) else if y = PySem.Str.ofString "source" then some (Value.ref src) else none) → News h₀ L' h ((L' + 5, oop) :: (L' + 4, om) :: (L' + 3, ob) :: (L' + 2, oa) :: (L' + 1, o1) :: (src, o') :: (222, tabObj ps') :: (codes' ++ news)) → TabInv (PySem.Str.ofString "_law_numbers_right.<locals>.<lambda>") 222 ps' codes' → (∀ q ∈ codes', q ∈ codes ∨ @LT.lt Nat _ (L' + 5) q.1) → Below (ktrTop dp un gd cn cs L fa ccd cl outer) base (envX cn cs L fa ccd cl :: outer) h₀ → (Mine.hd.heap_39 w.params).In h₀ → Top p loose mean mg mb h₀ → KtsDicts (frs (envX cn cs L fa ccd cl :: outer)) h₀ → KtsTurn (frs (envX cn cs L fa ccd cl :: outer)) g' h₀ → G9)) (fun Q9 z9 => ?_) ?_
  · have mark := MNeg.mk
    k_steps
    (try (refine pop_ (by assumption) ?_))
    exact HeldC.mk fun G9 k9 => k9 _ _ _ _ _ rfl (by k_asm) (by refine' news_sub ?N ?S; (case N => k_asm); (case S => (repeat (first | with_reducible exact sub_refl | with_reducible exact sub_nil | ((with_reducible apply sub_cons); (focus k_mem)) | with_reducible apply sub_tail)))) (by assumption) (codes_grow x4 (by assumption) (by k_mem)) (by assumption) (by assumption) (by assumption) (by assumption) (by assumption)
  clear F N x3 x4 x5 x6 x7 x8 x9
  clear y0 y1 y2 y3 y4 y5
  intro s' h9
  with_reducible refine heldC_ h9 ?_
  clear h9
  intro h tk h₀ ps' codes' e91 F N x3 x4 x5 x6 x7 x8 x9
  subst e91
  have y0 := codes_off x4 hs (Nat.le_trans (Nat.le_of_lt la9) (Nat.le_add_right _ _))
  have y1 := codes_off x4 f1 (lift_le (by decide))
  have y2 := codes_off x4 f2 (lift_le (by decide))
  have y3 := codes_off x4 f3 (lift_le (by decide))
  have y4 := codes_off x4 f4 (lift_le (by decide))
  have y5 := codes_off x4 f5 (lift_le (by decide))
  (try dsimp only)
  refine segO (fun s' => HeldC (fun G9 => ∀ h tk fv, s' = ⟨h, gS, dS, tk, oS⟩ → Fr h₀ L' h (fun y => if y = PySem.Str.ofString "flipped" then some fv else if y = PySem.Str.ofString "right" then some rv else if y = PySem.Str.ofString "left" then some lv else if y = PySem.Str.ofString "ops" then some (Value.ref lops) else if y = PySem.Str.ofString "source" then some (Value.ref src) else none) → News h₀ L' h ((L' + 5, oop) :: (L' + 4, om) :: (L' + 3, ob) :: (L' + 2, oa) :: (L' + 1, o1) :: (src, o') :: (222, tabObj ps') :: (codes' ++ news)) → (flip u a lo hi).Val fv → G9)) (fun Q9 z9 => ?_) ?_
  · rcases hkn with _ | hkv
    rotate_left
    obtain ⟨xk, tkk, rfl⟩ := kv_str hkv
    have hit := kv_item hkv
    have hlen := kv_len hkv
    have hkn0 := KN.some hkv
    cases u
    all_goals k_steps
    all_goals exact HeldC.mk fun G9 k9 => k9 _ _ _ rfl (by k_asm) (by refine' news_sub ?N ?S; (case N => k_asm); (case S => (repeat (first | with_reducible exact sub_refl | with_reducible exact sub_nil | ((with_reducible apply sub_cons); (focus k_mem)) | with_reducible apply sub_tail)))) (by first | exact flipv_t | exact flipv_k (by first | exact hkn0 | exact KN.none) (by assumption) (by assumption))
  clear F N
  intro s' h9
  with_reducible refine heldC_ h9 ?_
  clear h9
  intro h tk fv e91 F N hf
  subst e91
  (try dsimp only)
  have mark := MFlip.mk
  k_steps
  exact leaveT_mk (by assumption) (by k_asm) (by refine' news_sub ?N ?S; (case N => k_asm); (case S => (repeat (first | with_reducible exact sub_refl | with_reducible exact sub_nil | ((with_reducible apply sub_cons); (focus k_mem)) | with_reducible apply sub_tail)))) (fun h₅ T₅ F₅ N₅ B₅ X₅ P₅ D₅ => hret _ _ _ _ _ ⟨rfl, _, _, _, by assumption, by assumption, codes_l1 l1s (codes_grow x4 (by assumption) (by k_mem)), rfl⟩ T₅ F₅ N₅ B₅ X₅ P₅ D₅)

end
end

-- GR
section
theorem start_GR : True := by
  w_top off
  k_with_none
  (k_with "eval Constant str" => refine kstr ?_)
  (k_with "eval Constant int" => refine kint ?_)
  (k_with "eval Constant bytes" => refine kbyt ?_)
  (k_with "binaryOp Add int int" => with_reducible refine kadd ?_)
  (k_with "binaryOp Sub int int" => with_reducible refine ksub ?_)
  (k_with "unaryOp USub int" => with_reducible refine kneg ?_)
  (k_with "storeName" => (k_here; k_dflt (refine kstL (by k_asm) (by k_asm) ?_ (rfl) (rfl); k_whole; intro h9 F9 N9; (try k_sweep))))
  (k_with "newTuple" => (k_here; k_dflt (refine ktuK (by k_asm) (by k_asm) ?_ (by kmk_size)); intro D7 h7 F7 N7 l7; (try k_lt l7); (try k_sweep)))
  (k_with "newList" => (k_here; k_dflt (refine kltK (by k_asm) (by k_asm) ?_ (by size_fits)); intro D7 h7 F7 N7 l7; (try k_lt l7); (try k_sweep)))
  (k_with "steps9" => repeat' (first | (k_unfold; (try dsimp only)) | (k_end; wrow_close) | (walk1 <;> (try dsimp only)) | (dsimp only; walk1) | (leave1; walk_say "STEP leave1"; try dsimp only) | (with_reducible refine popN (by assumption) ?_) | (with_reducible refine popR (by assumption) ?_) | ((refine pop_ (by assumption) ?_); (try dsimp only)) | fail "no step"))
  (k_with "all9" => focus ((repeat (first | exact List.forall_mem_nil _ | with_reducible assumption | (refine List.forall_mem_cons.mpr ⟨by k_ne, ?_⟩))); done))
  (k_with "room9" => first | exact rl1 (by with_reducible assumption) (Nat.le_of_ble_eq_true rfl) | exact rl0 (by with_reducible assumption) (Nat.le_of_ble_eq_true rfl) | exact rl2 (by with_reducible assumption) (Nat.le_of_ble_eq_true rfl) | exact rlz (by assumption))
  (k_with "ne9" => (refine neN ?_; (try dsimp only); first | (refine Nat.ne_of_lt ?_; focus ((repeat (first | with_reducible assumption | exact cj0 (by with_reducible assumption) | exact cj1 (by with_reducible assumption) | exact cj2 (by with_reducible assumption) | exact cj3 (by with_reducible assumption) | exact cj4 (by with_reducible assumption) | exact cj5 (by with_reducible assumption) | exact cj6 (by with_reducible assumption) | exact cj7 (by with_reducible assumption) | exact cj8 (by with_reducible assumption) | exact cj9 (by with_reducible assumption) | exact cj10 (by with_reducible assumption) | exact cj11 (by with_reducible assumption) | exact cj12 (by with_reducible assumption) | exact cj13 (by with_reducible assumption) | exact cj14 (by with_reducible assumption) | exact cj15 (by with_reducible assumption) | (refine lt_tr (by with_reducible assumption) ?_))); done)) | (refine Nat.ne_of_gt ?_; focus ((repeat (first | with_reducible assumption | exact cj0 (by with_reducible assumption) | exact cj1 (by with_reducible assumption) | exact cj2 (by with_reducible assumption) | exact cj3 (by with_reducible assumption) | exact cj4 (by with_reducible assumption) | exact cj5 (by with_reducible assumption) | exact cj6 (by with_reducible assumption) | exact cj7 (by with_reducible assumption) | exact cj8 (by with_reducible assumption) | exact cj9 (by with_reducible assumption) | exact cj10 (by with_reducible assumption) | exact cj11 (by with_reducible assumption) | exact cj12 (by with_reducible assumption) | exact cj13 (by with_reducible assumption) | exact cj14 (by with_reducible assumption) | exact cj15 (by with_reducible assumption) | (refine lt_tr (by with_reducible assumption) ?_))); done))))
  (k_with "mem9" => focus ((repeat (first | with_reducible assumption | exact List.mem_append_left _ (by with_reducible assumption) | exact List.mem_append_right _ (by with_reducible assumption) | exact List.Mem.head _ | refine List.Mem.tail _ ?_)); done))
  trivial


theorem words_GR_65 : True := by
  (k_with "execs cons" => (first | (k_here; k_gentoks) | (k_here; k_made; walk_at "execs cons") | (k_here; k_dflt (first | refine lastO ?_ | (refine consO ?_; k_whole; intro qO9 zO9)))))
  (k_with "eval Call" => (((with_reducible show wpAny _ _ (eval (PySem.Expr.Call (PySem.Expr.Name _ _) _ [] _) _) _ _ _); k_dflt (refine Call_ ?_))))
  trivial
inductive MG1 : Prop
  | mk
inductive MG2 : Prop
  | mk
inductive MG3 : Prop
  | mk
theorem codes_ln {K : Nat} {L : Addr} {led codes codes' : List (Addr × Obj)} (h : ∀ q ∈ led, q.1 < L) (hc : ∀ q ∈ codes', q ∈ codes ∨ @LT.lt Nat _ (L + K) q.1) : ∀ q ∈ codes', q ∈ codes ∨ ∀ q' ∈ led, @LT.lt Nat _ q'.1 q.1 :=
  fun q hq => (hc q hq).imp id fun z q' hq' => Nat.lt_trans (Nat.lt_of_lt_of_le (h q' hq') (Nat.le_add_right _ _)) z

section
variable {w : World} {news : List (Addr × Obj)}
theorem words_GR_66 : True := by
  (k_with "eval Name" => ((k_here; k_dflt (first | (refine nameX_L (by k_asm) (by exact rfl) ?_ (by exact rfl) (rfl) (by decide); k_whole) | (refine nameX_C (by k_asm) (by exact rfl) (by k_mem) (by assumption) ?_ (by exact rfl) (rfl) (by decide); k_whole) | (refine nameX_K (by k_asm) (by k_asm) (by k_asm) (by k_is) ?_ (by exact rfl) (rfl) (by decide); k_whole)))))
  (k_with "storeName" => ((k_here; k_dflt (first | (refine kstL (by k_asm) (by k_asm) ?_ (rfl) (rfl); k_whole; intro h9 F9 N9) | (refine kstC (by k_asm) (by k_asm) (by exact rfl) (by k_updF) (by assumption) ?_ (rfl) (rfl); k_whole; intro h9 o9 F9 N9 d9; (try dsimp only at N9))))))
  (k_with "callWith ref" => ((k_here; k_dflt (refine kwith (by k_asm) (by k_is) ?_; k_whole))))
  (k_with "subscriptTail Name Slice ref ref" => ((k_here; (with_reducible show wpAny _ _ (subscriptTail _ (PySem.Expr.Slice _ _ _ _) (Value.ref _) (Value.ref _)) _ _ _); k_dflt (refine slice9 (by k_asm) (by k_asm) (by k_mem) ?_ (by with_unfolding_all rfl) (by exact fun _ => rfl); k_whole); intro D9 h9 F9 N9 l9; (try k_lt l9))))
  (k_with "exec For Name List cons nil" => ((k_here; k_dflt (refine For_inv ?_ (rfl) (by (intro _; rfl)) (by first | assumption | passes_own); k_whole))))
  (k_with "subscriptTail" => ((k_here; (with_reducible show wpAny _ _ (subscriptTail _ (PySem.Expr.Slice _ _ _ _) (Value.ref _) (Value.ref _)) _ _ _); k_dflt (refine slice9 (by k_asm) (by k_asm) (by k_mem) ?_ (by with_unfolding_all rfl) (by exact fun _ => rfl); k_whole); intro D9 h9 F9 N9 l9; (try k_lt l9))))
  (k_with "eval Lambda" => ((k_here; k_dflt (refine kla_eval (rfl) ?_); (k_dflt (refine lam_env (by k_asm) (by k_asm) (by k_asm) (by kn_code) (by exact rfl) (by exact rfl) (by exact rfl) (by repeat (first | exact LedF.head | (apply LedF.tail; (focus k_ne)))) (by assumption) (by assumption) (by exact rfl) ?_; k_whole)); intro f9 c9 oc9 vs9 t9 ct9 ps9 cs9 h9 tk9 F9 N9 I9 m9 d9 v9 n9 l9; (try dsimp only at N9); (try dsimp only))))
  (k_with "call ref" => (k_here; (with_reducible show wpAny _ _ (call (Value.ref 163) _) _ _ _); k_dflt (refine callsR_v (by k_asm) (by k_asm) (by k_asm) (by k_asm) (by k_asm) ?_; refine RestR.mkF _ _ (take_u (by k_updF) (by assumption) (by decide) (by decide)) (by first | exact rfl | assumption) (by ktr_room) (by ktr_units) ?_; k_whole); intro v9 n9 h9 tk9 R9 F9 N9; obtain ⟨o9, ⟨x9, t9, e9, b9, c9, so9⟩, e8⟩ := R9; subst e9 e8; (try dsimp only at N9); (try dsimp only); (try k_fold)))
  (k_with "call ref" => (k_here; (with_reducible show wpAny _ _ (call (Value.ref 170) _) _ _ _); k_dflt (refine callsR_v (by k_asm) (by k_asm) (by k_asm) (by k_asm) (by k_asm) ?_; refine RestR.mkF _ _ (one_u (by k_updF) (by assumption) (by k_mem) (by k_ne) (by first | exact (by decide : (2 : Int) ≤ 4) | exact (by decide : (2 : Int) ≤ 5)) (by first | exact (by decide : (4 : Int) ≤ 64) | exact (by decide : (5 : Int) ≤ 64))) (by first | exact rfl | assumption) (by ktr_room) (by ktr_units) ?_; k_whole); intro v9 n9 h9 tk9 R9 F9 N9; obtain ⟨o9, ⟨hv9, so9⟩, e8⟩ := R9; subst e8; (first | (obtain ⟨p9, q9, e9, b9, c9⟩ := four_in hv9; subst e9) | (obtain ⟨p9, q9, e9, b9, c9⟩ := five_in hv9; subst e9) | skip); (try dsimp only at N9); (try dsimp only); (try k_fold)))
  (k_with "call ref" => (k_here; (with_reducible show wpAny _ _ (call (Value.ref 213) _) _ _ _); (have mk9 : MG1 := by with_reducible assumption); (clear mk9); k_dflt (refine callsS_v (by k_asm) (by k_asm) (by k_asm) (by k_asm) (by k_asm) (by assumption) (by assumption) (by assumption) (by assumption) ?_; refine RestS.led _ _ _ (told2_gmul (by k_mem) (by k_mem) (by assumption) (by assumption) (by k_mem) (by assumption) (by k_mem) (by assumption) (by assumption) (by assumption)) (by first | exact rfl | assumption) (by ktr_room) (by ktr_units) ?_; k_whole); intro v9 h9 tk9 g9 R9 T9 F9 N9 B9 X9 P9 D9; (try dsimp only); (try k_fold)))
  (k_with "call ref" => (k_here; (with_reducible show wpAny _ _ (call (Value.ref 213) _) _ _ _); (have mk9 : MG2 := by with_reducible assumption); (clear mk9); k_dflt (refine callsS_v (by k_asm) (by k_asm) (by k_asm) (by k_asm) (by k_asm) (by assumption) (by assumption) (by assumption) (by assumption) ?_; refine RestS.led _ _ _ (told2_gdiv (by k_mem) (by k_mem) (by assumption) (by assumption) (by k_mem) (by assumption) (by assumption)) (by first | exact rfl | assumption) (by ktr_room) (by ktr_units) ?_; k_whole); intro v9 h9 tk9 g9 R9 T9 F9 N9 B9 X9 P9 D9; (try dsimp only); (try k_fold)))
  (k_with "call ref" => (k_here; (with_reducible show wpAny _ _ (call (Value.ref 213) _) _ _ _); (have mk9 : MG3 := by with_reducible assumption); (clear mk9); k_dflt (refine callsS_v (by k_asm) (by k_asm) (by k_asm) (by k_asm) (by k_asm) (by assumption) (by assumption) (by assumption) (by assumption) ?_; refine RestS.led _ _ _ (told2_gshl (by k_mem) (by k_mem) (by assumption) (by assumption)) (by first | exact rfl | assumption) (by ktr_room) (by ktr_units) ?_; k_whole); intro v9 h9 tk9 g9 R9 T9 F9 N9 B9 X9 P9 D9; (try dsimp only); (try k_fold)))
  (k_with "call ref" => (k_here; (with_reducible show wpAny _ _ (call (Value.ref 192) _) _ _ _); k_dflt (refine callsR_v (by k_asm) (by k_asm) (by k_asm) (by k_asm) (by k_asm) ?_; refine RestR.ledF _ _ _ (kept_c KN.none) (by first | exact rfl | assumption) (by ktr_room) (by ktr_units) ?_; k_whole); intro v9 h9 tk9 R9 F9 N9; (try dsimp only); (try k_fold)))
  (k_with "compareOp NotEq" => ((k_here; k_dflt (refine ne_res (by assumption) (by first | assumption | exact ⟨_, rfl⟩) ?_; k_whole); (try dsimp only))))
  (k_with "compareOp Eq" => ((k_here; k_dflt (refine eq_res (by assumption) (by first | assumption | exact ⟨_, rfl⟩) ?_; k_whole); (try dsimp only))))
  (k_with "call ref" => (k_here; (with_reducible show wpAny _ _ (call (Value.ref 135) (Value.str (PySem.Str.ofString "%") _ :: _)) _ _ _); k_dflt (refine callsR_v (by k_asm) (by k_asm) (by k_asm) (by k_asm) (by k_asm) ?_; refine RestR.ledF _ _ _ (gmod_c (by assumption) (by assumption)) (by first | exact rfl | assumption) (by ktr_room) (by ktr_units) ?_; k_whole); intro v9 h9 tk9 R9 F9 N9; (try dsimp only); (try k_fold)))
  (k_with "call ref" => (k_here; (with_reducible show wpAny _ _ (call (Value.ref 135) (Value.str (PySem.Str.ofString "<<") _ :: _)) _ _ _); k_dflt (refine callsR_v (by k_asm) (by k_asm) (by k_asm) (by k_asm) (by k_asm) ?_; refine RestR.ledF _ _ _ gzero_c (by first | exact rfl | assumption) (by ktr_room) (by ktr_units) ?_; k_whole); intro v9 h9 tk9 R9 F9 N9; (try dsimp only); (try k_fold)))
  (k_with "call ref" => (k_here; (with_reducible show wpAny _ _ (call (Value.ref 135) (Value.str (PySem.Str.ofString ">>") _ :: _)) _ _ _); k_dflt (refine callsR_v (by k_asm) (by k_asm) (by k_asm) (by k_asm) (by k_asm) ?_; refine RestR.ledF _ _ _ (gfar_c (by assumption)) (by first | exact rfl | assumption) (by ktr_room) (by ktr_units) ?_; k_whole); intro v9 h9 tk9 R9 F9 N9; (try dsimp only); (try k_fold)))
  (k_with "call ref" => (k_here; (with_reducible show wpAny _ _ (call (Value.ref 135) [Value.str (PySem.Str.ofString ">>") _, Value.int (0 - _) _, _]) _ _ _); k_dflt (refine callsR_v (by k_asm) (by k_asm) (by k_asm) (by k_asm) (by k_asm) ?_; refine RestR.ledF _ _ _ (gfarn_c (by assumption)) (by first | exact rfl | assumption) (by ktr_room) (by ktr_units) ?_; k_whole); intro v9 h9 tk9 R9 F9 N9; (try dsimp only); (try k_fold)))
  (k_with "binaryOp FloorDiv int int" => ((refine PyProof.Rows.floordiv_int (by assumption) ?_ (Or.inl (PyProof.noPylong_of_log2 (by assumption))))))
  (k_with "binaryOp Mult int int" => ((k_here; k_dflt (refine mul_0 ?_ (by assumption)))))
  trivial
set_option maxHeartbeats 8000000 in
theorem great_c {src : Addr} {o : Obj} {ps : Array Value} {codes : List (Addr × Obj)} (ho : SrcO o) (hI : TabInv (PySem.Str.ofString "_law_great_right.<locals>.<lambda>") 229 ps codes) (hs : ∀ p ∈ codes ++ news, p.1 ≠ src) (hp : ∀ p ∈ news, p.1 ≠ 229) (hlt : (229 : Nat) < src) : CallsB (fun b9 => CodeHd b9 233 229) 20 w 234 [.ref src] ((src, o) :: (229, tabObj ps) :: (codes ++ news)) (fun v n' => v = .bool true ∧ ∃ o' ps' codes', SrcO o' ∧ TabInv (PySem.Str.ofString "_law_great_right.<locals>.<lambda>") 229 ps' codes' ∧ (∀ q ∈ codes', q ∈ codes ∨ ∀ q' ∈ ((src, o) :: (229, tabObj ps) :: (codes ++ news)), @LT.lt Nat _ q'.1 q.1) ∧ n' = (src, o') :: (229, tabObj ps') :: (codes' ++ news)) := by
  w_on
  unfold CallsB
  k_fill
  intro p loose mean mg mb dp un gd cn cs fa ccd cl outer A₀ base g₀ h₀ L m hS gS dS tS oS Q E hB hF hX hN hT hXB hTB hD hT0 hCB hk hd hu hret
  refine wpAny_call ?_
  k_dflt (refine' code_defCT (binds := [(PySem.Str.ofString "source", .ref src)]) ?k1 ?k2 ?k3 ?k4 ?k5 ?xb ?tb ?dd ?t0 ?kA ?kF ?kK ?k6 ?k7 ?k8 ?k9 ?kB ?kN ?_ ?c2 ?c3 ?c4; (case kA => exact rfl); (case kF => exact rfl); (case kK => assumption); (case k1 => k_asm); (case k2 => k_asm); (case k3 => k_asm); (case k4 => k_asm); (case k5 => k_asm); (case xb => assumption); (case tb => assumption); (case dd => assumption); (case t0 => assumption); (case k6 => k_is); (case k7 => k_is); (case k8 => ktr_room); (case k9 => exact BindsTo.of_eq (by kernel_rfl)); (case kB => exact rfl); (case kN => decide +kernel); (case c2 => exact rfl); (case c3 => exact rfl); (case c4 => exact rfl); k_whole; intro g' L' h' tk' cells' FG' F' N' Y' B' X' T' l1 D' S')
  have hY := PyProof.Rows.CellsAre.two Y'
  obtain ⟨o2, o1, hE, d2, d1⟩ := hY
  subst hE; clear Y'
  obtain ⟨la9, lb9⟩ : @LT.lt Nat _ src L' ∧ @LT.lt Nat _ 229 L' := ⟨l1 (src, o) (.head _), l1 (229, tabObj ps) (.tail _ (.head _))⟩
  have lc9 : ∀ p ∈ codes ++ news, p.1 < L' := fun p hp => l1 p (.tail _ (.tail _ hp))
  have f1 : ∀ p ∈ codes ++ news, p.1 ≠ L' + 1 := fun p hp => Nat.ne_of_lt (Nat.lt_of_lt_of_le (lc9 p hp) (Nat.le_add_right _ _))
  have f2 : ∀ p ∈ codes ++ news, p.1 ≠ L' + 2 := fun p hp => Nat.ne_of_lt (Nat.lt_of_lt_of_le (lc9 p hp) (Nat.le_add_right _ _))
  replace d1 : o1.data = .cell none := d1
  replace d2 : o2.data = .cell none := d2
  have F1 : Fr g' L' h' (fun y => if y = PySem.Str.ofString "source" then some (Value.ref src) else none) := F'
  have N1 : News g' L' h' ((L' + 2, o2) :: (L' + 1, o1) :: (src, o) :: (229, tabObj ps) :: (codes ++ news)) := N'
  have l1s := l1
  clear F' N' l1
  (try dsimp only); (try k_lift B')
  refine opQE (by passes_own) (fun Q9 E9 z9 y9 p9 => ?_)
  refine segO (fun s' => HeldC (fun G9 => ∀ h tk oa o' a ta, s' = ⟨h, gS, dS, tk, oS⟩ → Fr g' L' h (fun y => if y = PySem.Str.ofString "source" then some (Value.ref src) else none) → News g' L' h ((L' + 2, o2) :: (L' + 1, oa) :: (src, o') :: (229, tabObj ps) :: (codes ++ news)) → oa.data = .cell (some (.int a ta)) → SrcO o' → BigA a → G9)) (fun Q9 z9 => ?_) ?_
  · k_steps
    (try (refine pop_ (by assumption) ?_))
    exact HeldC.mk fun G9 k9 => k9 _ _ _ _ _ _ rfl (by k_asm) (by refine' news_sub ?N ?S; (case N => k_asm); (case S => (repeat (first | with_reducible exact sub_refl | with_reducible exact sub_nil | ((with_reducible apply sub_cons); (focus k_mem)) | with_reducible apply sub_tail)))) (by assumption) (by assumption) (bigA_of (by assumption) (by assumption) (by assumption) (by assumption))
  clear F1 N1 d1 ho
  intro s' h9
  with_reducible refine heldC_ h9 ?_
  clear h9
  intro h tk oa o1' a ta e91 F N d1 ho ha
  subst e91
  (try dsimp only)
  refine segO (fun s' => HeldC (fun G9 => ∀ h tk ob o' b tb, s' = ⟨h, gS, dS, tk, oS⟩ → Fr g' L' h (fun y => if y = PySem.Str.ofString "source" then some (Value.ref src) else none) → News g' L' h ((L' + 2, ob) :: (L' + 1, oa) :: (src, o') :: (229, tabObj ps) :: (codes ++ news)) → ob.data = .cell (some (.int b tb)) → SrcO o' → BigB b → G9)) (fun Q9 z9 => ?_) ?_
  · k_steps
    (try (refine pop_ (by assumption) ?_))
    exact HeldC.mk fun G9 k9 => k9 _ _ _ _ _ _ rfl (by k_asm) (by refine' news_sub ?N ?S; (case N => k_asm); (case S => (repeat (first | with_reducible exact sub_refl | with_reducible exact sub_nil | ((with_reducible apply sub_cons); (focus k_mem)) | with_reducible apply sub_tail)))) (by assumption) (by assumption) (bigB_of (by assumption) (by assumption) (by assumption) (by assumption))
  clear F N d2 ho
  intro s' h9
  with_reducible refine heldC_ h9 ?_
  clear h9
  intro h tk ob o' b tb e91 F N d2 ho hb
  subst e91
  have hb0 : b ≠ 0 := by unfold BigB at hb; omega
  have hb9 := log2_big (bigB_303 hb).1 (bigB_303 hb).2
  have hm1 := mulok (bigA_303 ha) (bigB_303 hb)
  have hm2 := mulok (bigB_303 hb) (fdiv_303 (bigA_303 ha) (bigB_303 hb).1)
  (try dsimp only)
  refine segO (fun s' => HeldC (fun G9 => ∀ h tk h₀ ps' codes', s' = ⟨h, gS, dS, tk, oS⟩ → Fr h₀ L' h (fun y => if y = PySem.Str.ofString "source" then some (Value.ref src) else none) → News h₀ L' h ((L' + 2, ob) :: (L' + 1, oa) :: (src, o') :: (229, tabObj ps') :: (codes' ++ news)) → TabInv (PySem.Str.ofString "_law_great_right.<locals>.<lambda>") 229 ps' codes' → (∀ q ∈ codes', q ∈ codes ∨ @LT.lt Nat _ (L' + 2) q.1) → Below (ktrTop dp un gd cn cs L fa ccd cl outer) base (envX cn cs L fa ccd cl :: outer) h₀ → (Mine.hd.heap_39 w.params).In h₀ → Top p loose mean mg mb h₀ → KtsDicts (frs (envX cn cs L fa ccd cl :: outer)) h₀ → KtsTurn (frs (envX cn cs L fa ccd cl :: outer)) g' h₀ → G9)) (fun Q9 z9 => ?_) ?_
  · have mark := MG1.mk
    k_steps
    (try (refine pop_ (by assumption) ?_))
    exact HeldC.mk fun G9 k9 => k9 _ _ _ _ _ rfl (by k_asm) (by refine' news_sub ?N ?S; (case N => k_asm); (case S => (repeat (first | with_reducible exact sub_refl | with_reducible exact sub_nil | ((with_reducible apply sub_cons); (focus k_mem)) | with_reducible apply sub_tail)))) (by assumption) (codes_grow (fun q hq => .inl hq) (by assumption) (by k_mem)) (by assumption) (by assumption) (by assumption) (by assumption) (by assumption)
  clear F N hI FG' B' X' T' D' S'
  intro s' h9
  with_reducible refine heldC_ h9 ?_
  clear h9
  intro h tk h₀ ps' codes' e91 F N x3 x4 x5 x6 x7 x8 x9
  subst e91
  have y0 := codes_off x4 hs (Nat.le_trans (Nat.le_of_lt la9) (Nat.le_add_right _ _))
  have y1 := codes_off x4 f1 (Nat.add_le_add_left (show 1 ≤ 2 by decide) L')
  have y2 := codes_off x4 f2 (Nat.le_refl _)
  (try dsimp only)
  refine segO (fun s' => HeldC (fun G9 => ∀ h tk h₀ ps' codes', s' = ⟨h, gS, dS, tk, oS⟩ → Fr h₀ L' h (fun y => if y = PySem.Str.ofString "source" then some (Value.ref src) else none) → News h₀ L' h ((L' + 2, ob) :: (L' + 1, oa) :: (src, o') :: (229, tabObj ps') :: (codes' ++ news)) → TabInv (PySem.Str.ofString "_law_great_right.<locals>.<lambda>") 229 ps' codes' → (∀ q ∈ codes', q ∈ codes ∨ @LT.lt Nat _ (L' + 2) q.1) → Below (ktrTop dp un gd cn cs L fa ccd cl outer) base (envX cn cs L fa ccd cl :: outer) h₀ → (Mine.hd.heap_39 w.params).In h₀ → Top p loose mean mg mb h₀ → KtsDicts (frs (envX cn cs L fa ccd cl :: outer)) h₀ → KtsTurn (frs (envX cn cs L fa ccd cl :: outer)) g' h₀ → G9)) (fun Q9 z9 => ?_) ?_
  · have mark := MG2.mk
    k_steps
    (try (refine pop_ (by assumption) ?_))
    exact HeldC.mk fun G9 k9 => k9 _ _ _ _ _ rfl (by k_asm) (by refine' news_sub ?N ?S; (case N => k_asm); (case S => (repeat (first | with_reducible exact sub_refl | with_reducible exact sub_nil | ((with_reducible apply sub_cons); (focus k_mem)) | with_reducible apply sub_tail)))) (by assumption) (codes_grow x4 (by assumption) (by k_mem)) (by assumption) (by assumption) (by assumption) (by assumption) (by assumption)
  clear F N x3 x4 x5 x6 x7 x8 x9 y0 y1 y2
  intro s' h9
  with_reducible refine heldC_ h9 ?_
  clear h9
  intro h tk h₀ ps' codes' e91 F N x3 x4 x5 x6 x7 x8 x9
  subst e91
  have y0 := codes_off x4 hs (Nat.le_trans (Nat.le_of_lt la9) (Nat.le_add_right _ _))
  have y1 := codes_off x4 f1 (Nat.add_le_add_left (show 1 ≤ 2 by decide) L')
  have y2 := codes_off x4 f2 (Nat.le_refl _)
  (try dsimp only)
  refine segO (fun s' => HeldC (fun G9 => ∀ h tk h₀ ps' codes', s' = ⟨h, gS, dS, tk, oS⟩ → Fr h₀ L' h (fun y => if y = PySem.Str.ofString "source" then some (Value.ref src) else none) → News h₀ L' h ((L' + 2, ob) :: (L' + 1, oa) :: (src, o') :: (229, tabObj ps') :: (codes' ++ news)) → TabInv (PySem.Str.ofString "_law_great_right.<locals>.<lambda>") 229 ps' codes' → (∀ q ∈ codes', q ∈ codes ∨ @LT.lt Nat _ (L' + 2) q.1) → Below (ktrTop dp un gd cn cs L fa ccd cl outer) base (envX cn cs L fa ccd cl :: outer) h₀ → (Mine.hd.heap_39 w.params).In h₀ → Top p loose mean mg mb h₀ → KtsDicts (frs (envX cn cs L fa ccd cl :: outer)) h₀ → KtsTurn (frs (envX cn cs L fa ccd cl :: outer)) g' h₀ → G9)) (fun Q9 z9 => ?_) ?_
  · have mark := MG3.mk
    k_steps
    (try (refine pop_ (by assumption) ?_))
    exact HeldC.mk fun G9 k9 => k9 _ _ _ _ _ rfl (by k_asm) (by refine' news_sub ?N ?S; (case N => k_asm); (case S => (repeat (first | with_reducible exact sub_refl | with_reducible exact sub_nil | ((with_reducible apply sub_cons); (focus k_mem)) | with_reducible apply sub_tail)))) (by assumption) (codes_grow x4 (by assumption) (by k_mem)) (by assumption) (by assumption) (by assumption) (by assumption) (by assumption)
  clear F N x3 x4 x5 x6 x7 x8 x9 y0 y1 y2
  intro s' h9
  with_reducible refine heldC_ h9 ?_
  clear h9
  intro h tk h₀ ps' codes' e91 F N x3 x4 x5 x6 x7 x8 x9
  subst e91
  have y0 := codes_off x4 hs (Nat.le_trans (Nat.le_of_lt la9) (Nat.le_add_right _ _))
  have y1 := codes_off x4 f1 (Nat.add_le_add_left (show 1 ≤ 2 by decide) L')
  have y2 := codes_off x4 f2 (Nat.le_refl _)
  (try dsimp only)
  k_steps
  exact leaveT_mk (by assumption) (by k_asm) (by refine' news_sub ?N ?S; (case N => k_asm); (case S => (repeat (first | with_reducible exact sub_refl | with_reducible exact sub_nil | ((with_reducible apply sub_cons); (focus k_mem)) | with_reducible apply sub_tail)))) (fun h₅ T₅ F₅ N₅ B₅ X₅ P₅ D₅ => hret _ _ _ _ _ ⟨rfl, _, _, _, by assumption, by assumption, codes_ln l1s x4, rfl⟩ T₅ F₅ N₅ B₅ X₅ P₅ D₅)

end
end

-- SR
section
theorem start_SR : True := by
  w_top off
  k_with_none
  (k_with "eval Constant str" => refine kstr ?_)
  (k_with "eval Constant int" => refine kint ?_)
  (k_with "eval Constant bytes" => refine kbyt ?_)
  (k_with "binaryOp Add int int" => with_reducible refine kadd ?_)
  (k_with "binaryOp Sub int int" => with_reducible refine ksub ?_)
  (k_with "unaryOp USub int" => with_reducible refine kneg ?_)
  (k_with "storeName" => (k_here; k_dflt (refine kstL (by k_asm) (by k_asm) ?_ (rfl) (rfl); k_whole; intro h9 F9 N9; (try k_sweep))))
  (k_with "newTuple" => (k_here; k_dflt (refine ktuK (by k_asm) (by k_asm) ?_ (by kmk_size)); intro D7 h7 F7 N7 l7; (try k_lt l7); (try k_sweep)))
  (k_with "newList" => (k_here; k_dflt (refine kltK (by k_asm) (by k_asm) ?_ (by size_fits)); intro D7 h7 F7 N7 l7; (try k_lt l7); (try k_sweep)))
  (k_with "steps9" => repeat' (first | (k_unfold; (try dsimp only)) | (k_end; wrow_close) | (walk1 <;> (try dsimp only)) | (dsimp only; walk1) | (leave1; walk_say "STEP leave1"; try dsimp only) | (with_reducible refine popN (by assumption) ?_) | (with_reducible refine popR (by assumption) ?_) | ((refine pop_ (by assumption) ?_); (try dsimp only)) | fail "no step"))
  (k_with "all9" => focus ((repeat (first | exact List.forall_mem_nil _ | with_reducible assumption | (refine List.forall_mem_cons.mpr ⟨by k_ne, ?_⟩))); done))
  (k_with "room9" => first | exact rl1 (by with_reducible assumption) (Nat.le_of_ble_eq_true rfl) | exact rl0 (by with_reducible assumption) (Nat.le_of_ble_eq_true rfl) | exact rl2 (by with_reducible assumption) (Nat.le_of_ble_eq_true rfl) | exact rlz (by assumption))
  (k_with "ne9" => (refine neN ?_; (try dsimp only); first | (refine Nat.ne_of_lt ?_; focus ((repeat (first | with_reducible assumption | exact cj0 (by with_reducible assumption) | exact cj1 (by with_reducible assumption) | exact cj2 (by with_reducible assumption) | exact cj3 (by with_reducible assumption) | exact cj4 (by with_reducible assumption) | exact cj5 (by with_reducible assumption) | exact cj6 (by with_reducible assumption) | exact cj7 (by with_reducible assumption) | exact cj8 (by with_reducible assumption) | exact cj9 (by with_reducible assumption) | exact cj10 (by with_reducible assumption) | exact cj11 (by with_reducible assumption) | exact cj12 (by with_reducible assumption) | exact cj13 (by with_reducible assumption) | exact cj14 (by with_reducible assumption) | exact cj15 (by with_reducible assumption) | (refine lt_tr (by with_reducible assumption) ?_))); done)) | (refine Nat.ne_of_gt ?_; focus ((repeat (first | with_reducible assumption | exact cj0 (by with_reducible assumption) | exact cj1 (by with_reducible assumption) | exact cj2 (by with_reducible assumption) | exact cj3 (by with_reducible assumption) | exact cj4 (by with_reducible assumption) | exact cj5 (by with_reducible assumption) | exact cj6 (by with_reducible assumption) | exact cj7 (by with_reducible assumption) | exact cj8 (by with_reducible assumption) | exact cj9 (by with_reducible assumption) | exact cj10 (by with_reducible assumption) | exact cj11 (by with_reducible assumption) | exact cj12 (by with_reducible assumption) | exact cj13 (by with_reducible assumption) | exact cj14 (by with_reducible assumption) | exact cj15 (by with_reducible assumption) | (refine lt_tr (by with_reducible assumption) ?_))); done))))
  (k_with "mem9" => focus ((repeat (first | with_reducible assumption | exact List.mem_append_left _ (by with_reducible assumption) | exact List.mem_append_right _ (by with_reducible assumption) | exact List.Mem.head _ | refine List.Mem.tail _ ?_)); done))
  trivial


theorem words_SR_67 : True := by
  (k_with "execs cons" => (first | (k_here; k_gentoks) | (k_here; k_made; walk_at "execs cons") | (k_here; k_dflt (first | refine lastO ?_ | (refine consO ?_; k_whole; intro qO9 zO9)))))
  (k_with "eval Call" => (((with_reducible show wpAny _ _ (eval (PySem.Expr.Call (PySem.Expr.Name _ _) _ [] _) _) _ _ _); k_dflt (refine Call_ ?_))))
  trivial
inductive MS1 : Prop
  | mk
inductive MS2 : Prop
  | mk
theorem lookup1 (x : PySem.Str) (v : Value) : (fun y => List.lookup y [(x, v)].reverse) = fun y => if y = x then some v else none := by
  funext y
  show List.lookup y [(x, v)] = _
  by_cases h : y = x
  · subst h; simp [List.lookup]
  · rw [if_neg h, List.lookup, beq_false_of_ne h]; rfl
theorem ne_bytes_same {prog : Program} {w : World} {A : Around} {E : Value → Shared → Prop} {s : Shared} {b : Array UInt8} {t u : Tok} {Q : Value → Shared → Prop} (h : Q (.bool false) s) : wpAny (model prog w) A (compareOp .NotEq (.bytes b t) (.bytes b u)) Q E s :=
  ne_bytes (by simpa using h)
theorem isnot_bool_same {M : Model} {A : Around} {E : Value → Shared → Prop} {s : Shared} {c : Bool} {Q : Value → Shared → Prop} (h : Q (.bool false) s) : wpAny M A (compareOp .IsNot (.bool c) (.bool c)) Q E s := isnot_bool (by simpa using h)
theorem fr_twice {h₀ h : Heap} {L : Addr} {x : PySem.Str} {v v' : Option Value} {m : PySem.Str → Option Value} (F : Fr h₀ L h (fun y => if y = x then v else if y = x then v' else m y)) : Fr h₀ L h (fun y => if y = x then v else m y) := by
  have e : (fun y => if y = x then v else if y = x then v' else m y) = (fun y => if y = x then v else m y) := by
    funext y
    by_cases h : y = x
    · rw [if_pos h, if_pos h]
    · rw [if_neg h, if_neg h, if_neg h]
  exact e ▸ F
theorem listComp_l {prog : Program} {w : World} {A : Around} {E : Value → Shared → Prop} {s : Shared} {env : Env} {elt iter ct : PySem.Expr} {x : PySem.Str} {px pos : Pos} {scope : Scope} {cl : List (PySem.Str × Addr)} {Q : Value → Shared → Prop} (hclos : closureFor scope env = pure cl) (hone : OneCell scope x) (hkind : scope.kind = .function)
    (hnames : ∀ y ∈ scope.names, y.2 = .local → scope.names.lookup y.1 = some .local) (hx : (relabel scope env).names.lookup x = some .cell)
    (h : wpAny (model prog w) A (eval iter env) (CompNone prog w A env ct x scope cl env.locals Q) E s)
    (hs : ∀ x, foldedSetIterable iter env x = pure x := by intro _; rfl) :
    wpAny (model prog w) A (eval (.ListComp elt [⟨.Name x px, iter, [ct], 0⟩] scope pos) env) Q E s := listComp_none hclos hone hkind hnames hx h hs
theorem sub_skip {a b c l : List (Addr × Obj)} (h : ∀ q ∈ a ++ (b ++ c), q ∈ l) : ∀ q ∈ a ++ c, q ∈ l := fun q hq => h q ((List.mem_append.mp hq).elim (List.mem_append_left _) fun z => List.mem_append_right _ (List.mem_append_right _ z))
theorem comp_names {scope : Scope} (h : (scope.names.all fun y => y.2 != .local || scope.names.lookup y.1 == some .local) = true) : ∀ y ∈ scope.names, y.2 = .local → scope.names.lookup y.1 = some .local := fun y hy e => by
  have := List.all_eq_true.mp h y hy
  rw [e] at this
  simpa using this
theorem off4_step {I C D c : Addr} {oI oC oD oc : Obj} {cs cs' rest led : List (Addr × Obj)} (hn : ∀ q ∈ cs', q ∈ cs ∨ ∀ q' ∈ led, q'.1 < q.1) (hI : (I, oI) ∈ led) (hC : (C, oC) ∈ led) (hD : (D, oD) ∈ led) (hc : (c, oc) ∈ led) (h : Off4 I C D c (cs ++ rest)) : Off4 I C D c (cs' ++ rest) :=
  fun p hp => ⟨off_step hn hI (fun q hq => (h q hq).1) p hp, off_step hn hC (fun q hq => (h q hq).2.1) p hp, off_step hn hD (fun q hq => (h q hq).2.2.1) p hp, off_step hn hc (fun q hq => (h q hq).2.2.2) p hp⟩
theorem off4_tl {I C D c : Addr} {p : Addr × Obj} {rest : List (Addr × Obj)} (h : Off4 I C D c (p :: rest)) : Off4 I C D c rest := fun q hq => h q (.tail _ hq)
theorem off4_cons {I C D c : Addr} {p : Addr × Obj} {rest : List (Addr × Obj)} (h : p.1 ≠ I ∧ p.1 ≠ C ∧ p.1 ≠ D ∧ p.1 ≠ c) (hr : Off4 I C D c rest) : Off4 I C D c (p :: rest) := fun q hq => by
  rcases List.mem_cons.mp hq with rfl | hq
  · exact h
  · exact hr q hq
def BadAt (l : List (Addr × Obj)) (v : Value) : Prop := ∃ r op to x y, v = .ref r ∧ (r, tupO #[.str op to, x, y]) ∈ l ∧ BadRow op x y
def SignAt (l : List (Addr × Obj)) (v : Value) : Prop := ∃ r op to x, v = .ref r ∧ (r, tupO #[.str op to, x]) ∈ l ∧ BadSign op x
theorem off_filter {P : Addr} {l : List (Addr × Obj)} : ∀ p ∈ l.filter (fun q => q.1 != P), p.1 ≠ P := fun _ hp => by simpa using (List.mem_filter.mp hp).2
theorem sub_filter {P : Addr} {l : List (Addr × Obj)} : ∀ p ∈ l.filter (fun q => q.1 != P), p ∈ l := fun p hp => (List.mem_filter.mp hp).1
theorem bad_at {P r : Addr} {l : List (Addr × Obj)} {op : PySem.Str} {to : Tok} {x y : Value} (hm : (r, tupO #[.str op to, x, y]) ∈ l) (hn : r ≠ P) (h : BadRow op x y) : BadAt (l.filter (fun q => q.1 != P)) (.ref r) :=
  ⟨r, op, to, x, y, rfl, List.mem_filter.mpr ⟨hm, by simpa using hn⟩, h⟩
theorem sign_at {P r : Addr} {l : List (Addr × Obj)} {op : PySem.Str} {to : Tok} {x : Value} (hm : (r, tupO #[.str op to, x]) ∈ l) (hn : r ≠ P) (h : BadSign op x) : SignAt (l.filter (fun q => q.1 != P)) (.ref r) :=
  ⟨r, op, to, x, rfl, List.mem_filter.mpr ⟨hm, by simpa using hn⟩, h⟩
theorem sub_app3 {a b c l : List (Addr × Obj)} (h1 : ∀ q ∈ a, q ∈ l) (h2 : ∀ q ∈ b, q ∈ l) (h3 : ∀ q ∈ c, q ∈ l) : ∀ q ∈ a ++ (b ++ c), q ∈ l := fun q hq => by
  rcases List.mem_append.mp hq with hq | hq
  · exact h1 q hq
  · exact (List.mem_append.mp hq).elim (h2 q) (h3 q)
theorem text_in {v : Value} {t0 t1 t2 : Tok} (h : v ∈ #[Value.bytes #[] t0, .bytes #[97] t1, .bytes #[255] t2].toList) : ∃ x t, v = .bytes x t ∧ x.size ≤ 1 := by
  simp only [List.mem_cons, List.not_mem_nil, or_false] at h
  rcases h with rfl | rfl | rfl <;> exact ⟨_, _, rfl, by decide⟩
theorem more_in {v : Value} {t0 t1 t2 : Tok} (h : v ∈ #[Value.bytes #[98] t0, .bytes #[] t1, .bytes #[254] t2].toList) : ∃ x t, v = .bytes x t ∧ x.size ≤ 1 := by
  simp only [List.mem_cons, List.not_mem_nil, or_false] at h
  rcases h with rfl | rfl | rfl <;> exact ⟨_, _, rfl, by decide⟩
theorem codes_ls {X : Addr} {led codes codes' : List (Addr × Obj)} (h : ∀ q ∈ led, q.1 < X) (hc : ∀ q ∈ codes', q ∈ codes ∨ @LT.lt Nat _ X q.1) : ∀ q ∈ codes', q ∈ codes ∨ ∀ q' ∈ led, @LT.lt Nat _ q'.1 q.1 :=
  fun q hq => (hc q hq).imp id fun z q' hq' => Nat.lt_trans (h q' hq') z

section
variable {w : World} {news : List (Addr × Obj)}
theorem words_SR_68 : True := by
  (k_with "eval Name" => ((k_here; k_dflt (first | (refine nameX_L (by k_asm) (by exact rfl) ?_ (by exact rfl) (rfl) (by decide); k_whole) | (refine nameX_C (by k_asm) (by exact rfl) (by k_mem) (by assumption) ?_ (by exact rfl) (rfl) (by decide); k_whole) | (refine nameX_K (by k_asm) (by k_asm) (by k_asm) (by k_is) ?_ (by exact rfl) (rfl) (by decide); k_whole)))))
  (k_with "storeName" => ((k_here; k_dflt (first | (refine kstL (by k_asm) (by k_asm) ?_ (rfl) (rfl); k_whole; intro h9 F9 N9) | (refine kstC (by k_asm) (by k_asm) (by exact rfl) (by k_updF) (by assumption) ?_ (rfl) (rfl); k_whole; intro h9 o9 F9 N9 d9; (try dsimp only at N9))))))
  (k_with "callWith ref" => ((k_here; k_dflt (refine kwith (by k_asm) (by k_is) ?_; k_whole))))
  (k_with "subscriptTail Name Slice ref ref" => ((k_here; (with_reducible show wpAny _ _ (subscriptTail _ (PySem.Expr.Slice _ _ _ _) (Value.ref _) (Value.ref _)) _ _ _); k_dflt (refine slice9 (by k_asm) (by k_asm) (by k_mem) ?_ (by with_unfolding_all rfl) (by exact fun _ => rfl); k_whole); intro D9 h9 F9 N9 l9; (try k_lt l9))))
  (k_with "exec For Name List cons nil" => ((k_here; k_dflt (refine For_inv ?_ (rfl) (by (intro _; rfl)) (by first | assumption | passes_own); k_whole))))
  (k_with "subscriptTail" => ((k_here; (with_reducible show wpAny _ _ (subscriptTail _ (PySem.Expr.Slice _ _ _ _) (Value.ref _) (Value.ref _)) _ _ _); k_dflt (refine slice9 (by k_asm) (by k_asm) (by k_mem) ?_ (by with_unfolding_all rfl) (by exact fun _ => rfl); k_whole); intro D9 h9 F9 N9 l9; (try k_lt l9))))
  (k_with "eval Lambda" => ((k_here; k_dflt (refine kla_eval (rfl) ?_); (k_dflt (refine lam_env (by k_asm) (by k_asm) (by k_asm) (by kn_code) (by exact rfl) (by exact rfl) (by exact rfl) (by repeat (first | exact LedF.head | (apply LedF.tail; (focus k_ne)))) (by assumption) (by assumption) (by exact rfl) ?_; k_whole)); intro f9 c9 oc9 vs9 t9 ct9 ps9 cs9 h9 tk9 F9 N9 I9 m9 d9 v9 n9 l9; (try dsimp only at N9); (try dsimp only))))
  (k_with "call ref" => (k_here; (with_reducible show wpAny _ _ (call (Value.ref 163) _) _ _ _); k_dflt (refine callsR_v (by k_asm) (by k_asm) (by k_asm) (by k_asm) (by k_asm) ?_; refine RestR.mkF _ _ (take_u (by k_updF) (by assumption) (by decide) (by decide)) (by first | exact rfl | assumption) (by ktr_room) (by ktr_units) ?_; k_whole); intro v9 n9 h9 tk9 R9 F9 N9; obtain ⟨o9, ⟨x9, t9, e9, b9, c9, so9⟩, e8⟩ := R9; subst e9 e8; (try dsimp only at N9); (try dsimp only); (try k_fold)))
  (k_with "call ref" => (k_here; (with_reducible show wpAny _ _ (call (Value.ref 170) _) _ _ _); k_dflt (refine callsR_v (by k_asm) (by k_asm) (by k_asm) (by k_asm) (by k_asm) ?_; refine RestR.mkF _ _ (one_u (by k_updF) (by assumption) (by k_mem) (by k_ne) (by exact (by decide : (2 : Int) ≤ 3)) (by exact (by decide : (3 : Int) ≤ 64))) (by first | exact rfl | assumption) (by ktr_room) (by ktr_units) ?_; k_whole); intro v9 n9 h9 tk9 R9 F9 N9; obtain ⟨o9, ⟨hv9, so9⟩, e8⟩ := R9; subst e8; (first | (obtain ⟨p9, q9, e9, b9⟩ := text_in hv9; subst e9) | (obtain ⟨p9, q9, e9, b9⟩ := more_in hv9; subst e9) | skip); (try dsimp only at N9); (try dsimp only); (try k_fold)))
  (k_with "call ref" => (k_here; (with_reducible show wpAny _ _ (call (Value.ref 213) _) _ _ _); (have mk9 : MS1 := by with_reducible assumption); (clear mk9); k_dflt (refine callsS_v (by k_asm) (by k_asm) (by k_asm) (by k_asm) (by k_asm) (by assumption) (by assumption) (by assumption) (by assumption) ?_; refine RestS.led _ _ _ (told_bad (by k_mem) (by k_mem) (by assumption) (by assumption) (by k_mem) (by assumption) (by k_mem) (by assumption)) (by first | exact rfl | assumption) (by ktr_room) (by ktr_units) ?_; k_whole); intro v9 h9 tk9 g9 R9 T9 F9 N9 B9 X9 P9 D9; (try dsimp only); (try k_fold)))
  (k_with "call ref" => (k_here; (with_reducible show wpAny _ _ (call (Value.ref 213) _) _ _ _); (have mk9 : MS2 := by with_reducible assumption); (clear mk9); k_dflt (refine callsS_v (by k_asm) (by k_asm) (by k_asm) (by k_asm) (by k_asm) (by assumption) (by assumption) (by assumption) (by assumption) ?_; refine RestS.led _ _ _ (told_sign (by k_mem) (by k_mem) (by assumption) (by assumption) (by k_mem) (by assumption) (by k_mem) (by assumption)) (by first | exact rfl | assumption) (by ktr_room) (by ktr_units) ?_; k_whole); intro v9 h9 tk9 g9 R9 T9 F9 N9 B9 X9 P9 D9; (try dsimp only); (try k_fold)))
  (k_with "compareOp NotEq" => ((k_here; k_dflt (refine ne_res (by assumption) (by first | assumption | exact ⟨_, rfl⟩) ?_; k_whole); (try dsimp only))))
  (k_with "compareOp Eq" => ((k_here; k_dflt (refine eq_res (by assumption) (by first | assumption | exact ⟨_, rfl⟩) ?_; k_whole); (try dsimp only))))
  (k_with "call ref" => (k_here; (with_reducible show wpAny _ _ (call (Value.ref 135) [Value.str (PySem.Str.ofString "&&") _, Value.bool true, _]) _ _ _); k_dflt (refine callsR_v (by k_asm) (by k_asm) (by k_asm) (by k_asm) (by k_asm) ?_; refine RestR.eqF _ _ _ and_t_c (by first | exact rfl | assumption) (by ktr_room) (by ktr_units) ?_; k_whole); intro h9 tk9 F9 N9; (try dsimp only); (try k_fold)))
  (k_with "call ref" => (k_here; (with_reducible show wpAny _ _ (call (Value.ref 135) [Value.str (PySem.Str.ofString "&&") _, Value.bool false, _]) _ _ _); k_dflt (refine callsR_v (by k_asm) (by k_asm) (by k_asm) (by k_asm) (by k_asm) ?_; refine RestR.eqF _ _ _ and_f_c (by first | exact rfl | assumption) (by ktr_room) (by ktr_units) ?_; k_whole); intro h9 tk9 F9 N9; (try dsimp only); (try k_fold)))
  (k_with "call ref" => (k_here; (with_reducible show wpAny _ _ (call (Value.ref 135) [Value.str (PySem.Str.ofString "||") _, Value.bool true, _]) _ _ _); k_dflt (refine callsR_v (by k_asm) (by k_asm) (by k_asm) (by k_asm) (by k_asm) ?_; refine RestR.eqF _ _ _ or_t_c (by first | exact rfl | assumption) (by ktr_room) (by ktr_units) ?_; k_whole); intro h9 tk9 F9 N9; (try dsimp only); (try k_fold)))
  (k_with "call ref" => (k_here; (with_reducible show wpAny _ _ (call (Value.ref 135) [Value.str (PySem.Str.ofString "||") _, Value.bool false, _]) _ _ _); k_dflt (refine callsR_v (by k_asm) (by k_asm) (by k_asm) (by k_asm) (by k_asm) ?_; refine RestR.eqF _ _ _ or_f_c (by first | exact rfl | assumption) (by ktr_room) (by ktr_units) ?_; k_whole); intro h9 tk9 F9 N9; (try dsimp only); (try k_fold)))
  (k_with "call ref" => (k_here; (with_reducible show wpAny _ _ (call (Value.ref 135) (Value.str (PySem.Str.ofString "==") _ :: _)) _ _ _); k_dflt (refine callsR_v (by k_asm) (by k_asm) (by k_asm) (by k_asm) (by k_asm) ?_; refine RestR.eqF _ _ _ beq_c (by first | exact rfl | assumption) (by ktr_room) (by ktr_units) ?_; k_whole); intro h9 tk9 F9 N9; (try dsimp only); (try k_fold)))
  (k_with "call ref" => (k_here; (with_reducible show wpAny _ _ (call (Value.ref 135) (Value.str (PySem.Str.ofString "+") _ :: _)) _ _ _); k_dflt (refine callsR_v (by k_asm) (by k_asm) (by k_asm) (by k_asm) (by k_asm) ?_; refine RestR.ledF _ _ _ (tadd_c (by assumption) (by assumption)) (by first | exact rfl | assumption) (by ktr_room) (by ktr_units) ?_; k_whole); intro v9 h9 tk9 R9 F9 N9; obtain ⟨t9, e9⟩ := R9; subst e9; (try dsimp only); (try k_fold)))
  (k_with "call ref" => (k_here; (with_reducible show wpAny _ _ (call (Value.ref 135) (Value.str (PySem.Str.ofString "<") _ :: _)) _ _ _); k_dflt (refine callsR_v (by k_asm) (by k_asm) (by k_asm) (by k_asm) (by k_asm) ?_; refine RestR.eqF _ _ _ (tlt_c (by assumption) (by assumption)) (by first | exact rfl | assumption) (by ktr_room) (by ktr_units) ?_; k_whole); intro h9 tk9 F9 N9; (try dsimp only); (try k_fold)))
  (k_with "call ref" => (k_here; (with_reducible show wpAny _ _ (call (Value.ref 92) (Value.str (PySem.Str.ofString "!") _ :: _)) _ _ _); k_dflt (refine callsR_v (by k_asm) (by k_asm) (by k_asm) (by k_asm) (by k_asm) ?_; refine RestR.eqF _ _ _ not_c (by first | exact rfl | assumption) (by ktr_room) (by ktr_units) ?_; k_whole); intro h9 tk9 F9 N9; (try dsimp only); (try k_fold)))
  (k_with "compareOp Lt bytes bytes" => ((k_here; k_dflt (refine lt_bytes ?_); (try dsimp only))))
  (k_with "binaryOp Add bytes bytes" => ((refine KBy.add_bytes (by omega) ?_; intro t9 k9)))
  (k_with "compareOp NotEq bytes bytes" => ((k_here; k_dflt (refine ne_bytes_same ?_))))
  (k_with "compareOp IsNot bool bool" => ((k_here; with_reducible refine isnot_bool_same ?_)))
  (k_with "eval ListComp" => ((k_here; k_dflt (refine listComp_l (rfl) (fun _ _ _ => ⟨rfl, rfl⟩) (rfl) (comp_names (by decide +kernel)) (rfl) ?_; k_whole))))
  trivial
set_option maxHeartbeats 8000000 in
theorem sorts_c {src : Addr} {o : Obj} {ps : Array Value} {codes : List (Addr × Obj)} (ho : SrcO o) (hI : TabInv (PySem.Str.ofString "_law_sorts_right.<locals>.<lambda>") 236 ps codes) (hs : ∀ p ∈ codes ++ news, p.1 ≠ src) (hp : ∀ p ∈ news, p.1 ≠ 236) (hlt : (236 : Nat) < src) : CallsB (fun b9 => CodeHd b9 238 236) 20 w 239 [.ref src] ((src, o) :: (236, tabObj ps) :: (codes ++ news)) (fun v n' => v = .bool true ∧ ∃ o' ps' codes', SrcO o' ∧ TabInv (PySem.Str.ofString "_law_sorts_right.<locals>.<lambda>") 236 ps' codes' ∧ (∀ q ∈ codes', q ∈ codes ∨ ∀ q' ∈ ((src, o) :: (236, tabObj ps) :: (codes ++ news)), @LT.lt Nat _ q'.1 q.1) ∧ n' = (src, o') :: (236, tabObj ps') :: (codes' ++ news)) := by
  w_on
  unfold CallsB
  k_fill
  intro p loose mean mg mb dp un gd cn cs fa ccd cl outer A₀ base g₀ h₀ L m hS gS dS tS oS Q E hB hF hX hN hT hXB hTB hD hT0 hCB hk hd hu hret
  refine wpAny_call ?_
  k_dflt (refine' code_defT (binds := [(PySem.Str.ofString "source", .ref src)]) ?k1 ?k2 ?k3 ?k4 ?k5 ?xb ?tb ?dd ?t0 ?kA ?kF ?kK ?k6 ?k7 ?k8 ?k9 ?kB ?_ ?c2 ?c3 ?c4 ?c5; (case kA => exact rfl); (case kF => exact rfl); (case kK => assumption); (case k1 => k_asm); (case k2 => k_asm); (case k3 => k_asm); (case k4 => k_asm); (case k5 => k_asm); (case xb => assumption); (case tb => assumption); (case dd => assumption); (case t0 => assumption); (case k6 => k_is); (case k7 => k_is); (case k8 => ktr_room); (case k9 => exact BindsTo.of_eq (by kernel_rfl)); (case c5 => decide); (case kB => exact locs rfl); (case c2 => exact rfl); (case c3 => exact rfl); (case c4 => exact rfl); k_whole; intro g' L' h' FG' F' N' B' X' T' D' S'; (try dsimp only [List.reverse_cons, List.reverse_nil, List.nil_append, List.cons_append, List.length_cons, List.length_nil] at F' ⊢); (try k_lift B'); (refine opQE (by passes_own) (fun Q9 E9 z9 y9 p9 => ?_)))
  have F1 : Fr g' L' h' (fun y => if y = PySem.Str.ofString "source" then some (Value.ref src) else none) := by rw [← lookup1]; exact F'
  clear F'
  refine segO (fun s' => HeldC (fun G9 => ∀ h tk o' one other, s' = ⟨h, gS, dS, tk, oS⟩ → Fr g' L' h (fun y => if y = PySem.Str.ofString "one" then some (Value.bool one) else if y = PySem.Str.ofString "other" then some (Value.bool other) else if y = PySem.Str.ofString "source" then some (Value.ref src) else none) → News g' L' h ((src, o') :: (236, tabObj ps) :: (codes ++ news)) → SrcO o' → G9)) (fun Q9 z9 => ?_) ?_
  · k_steps
    all_goals exact HeldC.mk fun G9 k9 => k9 _ _ _ _ _ rfl (by k_asm) (by refine' news_sub ?N ?S; (case N => k_asm); (case S => (repeat (first | with_reducible exact sub_refl | with_reducible exact sub_nil | ((with_reducible apply sub_cons); (focus k_mem)) | with_reducible apply sub_tail)))) (by assumption)
  clear F1 N' ho
  intro s' h9
  with_reducible refine heldC_ h9 ?_
  clear h9
  intro h tk o' one other e91 F N ho
  subst e91
  (try dsimp only)
  refine segO (fun s' => HeldC (fun G9 => ∀ h tk, s' = ⟨h, gS, dS, tk, oS⟩ → Fr g' L' h (fun y => if y = PySem.Str.ofString "one" then some (Value.bool one) else if y = PySem.Str.ofString "other" then some (Value.bool other) else if y = PySem.Str.ofString "source" then some (Value.ref src) else none) → News g' L' h ((src, o') :: (236, tabObj ps) :: (codes ++ news)) → G9)) (fun Q9 z9 => ?_) ?_
  · cases one <;> cases other
    all_goals k_steps
    all_goals exact HeldC.mk fun G9 k9 => k9 _ _ rfl (by k_asm) (by k_asm)
  clear F N
  intro s' h9
  with_reducible refine heldC_ h9 ?_
  clear h9
  intro h tk e91 F N
  subst e91
  (try dsimp only)
  refine segO (fun s' => HeldC (fun G9 => ∀ h tk, s' = ⟨h, gS, dS, tk, oS⟩ → Fr g' L' h (fun y => if y = PySem.Str.ofString "one" then some (Value.bool one) else if y = PySem.Str.ofString "other" then some (Value.bool other) else if y = PySem.Str.ofString "source" then some (Value.ref src) else none) → News g' L' h ((src, o') :: (236, tabObj ps) :: (codes ++ news)) → G9)) (fun Q9 z9 => ?_) ?_
  · cases one <;> cases other
    all_goals k_steps
    all_goals exact HeldC.mk fun G9 k9 => k9 _ _ rfl (by k_asm) (by k_asm)
  clear F N
  intro s' h9
  with_reducible refine heldC_ h9 ?_
  clear h9
  intro h tk e91 F N
  subst e91
  (try dsimp only)
  refine segO (fun s' => HeldC (fun G9 => ∀ h tk X oX o' x tx z tz, s' = ⟨h, gS, dS, tk, oS⟩ → Fr g' L' h (fun y => if y = PySem.Str.ofString "text" then some (Value.bytes x tx) else if y = PySem.Str.ofString "more" then some (Value.bytes z tz) else if y = PySem.Str.ofString "one" then some (Value.bool one) else if y = PySem.Str.ofString "other" then some (Value.bool other) else if y = PySem.Str.ofString "source" then some (Value.ref src) else none) → News g' L' h ((X, oX) :: (src, o') :: (236, tabObj ps) :: (codes ++ news)) → SrcO o' → x.size ≤ 1 → z.size ≤ 1 → (∀ p ∈ ((src, o) :: (236, tabObj ps) :: (codes ++ news)), p.1 < X) → G9)) (fun Q9 z9 => ?_) ?_
  · k_steps
    (try (refine pop_ (by assumption) ?_))
    exact HeldC.mk fun G9 k9 => k9 _ _ _ _ _ _ _ _ _ rfl (by k_asm) (by refine' news_sub ?N ?S; (case N => k_asm); (case S => (repeat (first | with_reducible exact sub_refl | with_reducible exact sub_nil | ((with_reducible apply sub_cons); (focus k_mem)) | with_reducible apply sub_tail)))) (by assumption) (by assumption) (by assumption) (by first | exact allLt_back (by assumption) | exact allLt_back (And.right (by assumption)) | exact allLt_back (And.right (And.right (by assumption))))
  clear F N ho o'
  intro s' h9
  with_reducible refine heldC_ h9 ?_
  clear h9
  intro h tk X oX o' x tx z tz e91 F N ho hx hz hX
  subst e91
  (try dsimp only)
  have hX1 := ltN (hX (src, o) (.head _))
  (try dsimp only at hX1)
  refine segO (fun s' => HeldC (fun G9 => ∀ h tk, s' = ⟨h, gS, dS, tk, oS⟩ → Fr g' L' h (fun y => if y = PySem.Str.ofString "text" then some (Value.bytes x tx) else if y = PySem.Str.ofString "more" then some (Value.bytes z tz) else if y = PySem.Str.ofString "one" then some (Value.bool one) else if y = PySem.Str.ofString "other" then some (Value.bool other) else if y = PySem.Str.ofString "source" then some (Value.ref src) else none) → News g' L' h ((X, oX) :: (src, o') :: (236, tabObj ps) :: (codes ++ news)) → G9)) (fun Q9 z9 => ?_) ?_
  · k_steps
    all_goals exact HeldC.mk fun G9 k9 => k9 _ _ rfl (by k_asm) (by refine' news_sub ?N ?S; (case N => k_asm); (case S => (repeat (first | with_reducible exact sub_refl | with_reducible exact sub_nil | ((with_reducible apply sub_cons); (focus k_mem)) | with_reducible apply sub_tail))))
  clear F N
  intro s' h9
  with_reducible refine heldC_ h9 ?_
  clear h9
  intro h tk e91 F N
  subst e91
  (try dsimp only)
  refine seg0 ?_
  k_steps
  refine .mk ?_
  (try dsimp only)
  refine segO (fun s' => HeldC (fun G9 => ∀ h tk l, ∀ vs : List Value, ∀ k tups, s' = ⟨h, gS, dS, tk, oS⟩ → Fr g' L' h (fun y => if y = PySem.Str.ofString "bad" then some (Value.ref l) else if y = PySem.Str.ofString "text" then some (Value.bytes x tx) else if y = PySem.Str.ofString "more" then some (Value.bytes z tz) else if y = PySem.Str.ofString "one" then some (Value.bool one) else if y = PySem.Str.ofString "other" then some (Value.bool other) else if y = PySem.Str.ofString "source" then some (Value.ref src) else none) → News g' L' h ((l, listOf vs.toArray k) :: (X, oX) :: (src, o') :: (236, tabObj ps) :: (codes ++ (tups ++ news))) → @LT.lt Nat _ X l → (∀ p ∈ tups, p.1 ≠ 236) → (∀ v ∈ vs, BadAt tups v) → G9)) (fun Q9 z9 => ?_) ?_
  · k_steps
    (try (refine pop_ (by assumption) ?_))
    exact HeldC.mk fun G9 k9 => k9 _ _ _ _ _ _ rfl (fr_twice (by k_asm)) (news_sub (by k_asm) (sub_cons (by k_mem) (sub_cons (by k_mem) (sub_cons (by k_mem) (sub_cons (by k_mem) (sub_app3 (fun q hq => (by (repeat (first | with_reducible exact sub_refl | with_reducible exact sub_nil | ((with_reducible apply sub_cons); (focus k_mem)) | with_reducible apply sub_tail)) : ∀ q ∈ codes ++ news, q ∈ _) q (List.mem_append_left _ hq)) sub_filter (fun q hq => (by (repeat (first | with_reducible exact sub_refl | with_reducible exact sub_nil | ((with_reducible apply sub_cons); (focus k_mem)) | with_reducible apply sub_tail)) : ∀ q ∈ codes ++ news, q ∈ _) q (List.mem_append_right _ hq)))))))) (ltN (by omega)) off_filter (List.forall_mem_cons.mpr ⟨bad_at (by k_mem) (by k_ne) (by constructor), List.forall_mem_cons.mpr ⟨bad_at (by k_mem) (by k_ne) (by constructor), List.forall_mem_cons.mpr ⟨bad_at (by k_mem) (by k_ne) (by constructor), List.forall_mem_cons.mpr ⟨bad_at (by k_mem) (by k_ne) (by constructor), List.forall_mem_cons.mpr ⟨bad_at (by k_mem) (by k_ne) (by constructor), List.forall_mem_cons.mpr ⟨bad_at (by k_mem) (by k_ne) (by constructor), List.forall_mem_cons.mpr ⟨bad_at (by k_mem) (by k_ne) (by constructor), List.forall_mem_cons.mpr ⟨bad_at (by k_mem) (by k_ne) (by constructor), List.forall_mem_cons.mpr ⟨bad_at (by k_mem) (by k_ne) (by constructor), List.forall_mem_cons.mpr ⟨bad_at (by k_mem) (by k_ne) (by constructor), List.forall_mem_cons.mpr ⟨bad_at (by k_mem) (by k_ne) (by constructor), List.forall_mem_nil _⟩⟩⟩⟩⟩⟩⟩⟩⟩⟩⟩)
  (try clear F); (try clear N)
  intro s' h9
  with_reducible refine heldC_ h9 ?_
  clear h9
  intro h tk l vs k tups e91 F N hl htup hrow
  subst e91
  (try dsimp only)
  have hp2 : ∀ p ∈ tups ++ news, p.1 ≠ 236 := fun p hq => (List.mem_append.mp hq).elim (htup p) (hp p)
  refine segO (fun s' => HeldC (fun G9 => ∀ h tk h₀ ps' codes', s' = ⟨h, gS, dS, tk, oS⟩ → Fr h₀ L' h (fun y => if y = PySem.Str.ofString "bad" then some (Value.ref l) else if y = PySem.Str.ofString "text" then some (Value.bytes x tx) else if y = PySem.Str.ofString "more" then some (Value.bytes z tz) else if y = PySem.Str.ofString "one" then some (Value.bool one) else if y = PySem.Str.ofString "other" then some (Value.bool other) else if y = PySem.Str.ofString "source" then some (Value.ref src) else none) → News h₀ L' h ((X, oX) :: (src, o') :: (236, tabObj ps') :: (codes' ++ news)) → Below (ktrTop dp un gd cn cs L fa ccd cl outer) base (envX cn cs L fa ccd cl :: outer) h₀ → (Mine.hd.heap_39 w.params).In h₀ → Top p loose mean mg mb h₀ → KtsDicts (frs (envX cn cs L fa ccd cl :: outer)) h₀ → KtsTurn (frs (envX cn cs L fa ccd cl :: outer)) g' h₀ → TabInv (PySem.Str.ofString "_law_sorts_right.<locals>.<lambda>") 236 ps' codes' → (∀ q ∈ codes', q ∈ codes ∨ @LT.lt Nat _ X q.1) → G9)) (fun Q9 z9 => ?_) ?_
  · have mark := MS1.mk
    k_steps
    refine ⟨l, vs, k, _, _, _, (fun h₀ m rest => HeldC (fun G9 => ∀ ps' codes', m = (fun y => if y = PySem.Str.ofString "bad" then some (Value.ref l) else if y = PySem.Str.ofString "text" then some (Value.bytes x tx) else if y = PySem.Str.ofString "more" then some (Value.bytes z tz) else if y = PySem.Str.ofString "one" then some (Value.bool one) else if y = PySem.Str.ofString "other" then some (Value.bool other) else if y = PySem.Str.ofString "source" then some (Value.ref src) else none) → Below (ktrTop dp un gd cn cs L fa ccd cl outer) base (envX cn cs L fa ccd cl :: outer) h₀ → (Mine.hd.heap_39 w.params).In h₀ → Top p loose mean mg mb h₀ → KtsDicts (frs (envX cn cs L fa ccd cl :: outer)) h₀ → KtsTurn (frs (envX cn cs L fa ccd cl :: outer)) g' h₀ → TabInv (PySem.Str.ofString "_law_sorts_right.<locals>.<lambda>") 236 ps' codes' → (∀ q ∈ codes', q ∈ codes ∨ @LT.lt Nat _ X q.1) → rest = ((l, listOf vs.toArray k) :: (X, oX) :: (src, o') :: (236, tabObj ps') :: (codes' ++ (tups ++ news))) → G9)), rfl, rfl, by k_asm, (by refine' news_sub ?N ?S; (case N => k_asm); (case S => (repeat (first | with_reducible exact sub_refl | with_reducible exact sub_nil | ((with_reducible apply sub_cons); (focus k_mem)) | with_reducible apply sub_tail)))), ?hJ9, ?cj9, ?turn9, ?fin9⟩
    case hJ9 =>
      intro h₀ m rest h9
      with_reducible refine heldC_ h9 ?_
      clear h9
      intro ps' codes' e91 z1 z2 z3 z4 z5 z6 z7 e92
      subst e91 e92
      exact .head _
    case cj9 => exact HeldC.mk fun G9 k9 => k9 _ _ rfl (by assumption) (by assumption) (by assumption) (by assumption) (by assumption) (by assumption) (fun _ hq => .inl hq) rfl
    case turn9 =>
      intro I C D c h₀ m rest oI oc v h tk E' hv hJ F N hoff hlt a1 a2 a3 hc
      refine opQ (fun Q9 z9 => ?_)
      with_reducible refine heldC_ hJ ?_
      clear hJ
      intro ps' codes' e91 z1 z2 z3 z4 z5 z6 z7 e92
      subst e91 e92
      obtain ⟨r, op, to, x1, y1, rfl, hr, hbad⟩ := hrow v hv
      have hr2 : (r, _) ∈ tups ++ news := List.mem_append_left _ hr
      have a0 := ltN (hlt (l, listOf vs.toArray k) (.head _))
      replace a1 := ltN a1
      replace a2 := ltN a2
      replace a3 := ltN a3
      have hoff4 := off4_tl (off4_tl (off4_tl (off4_tl hoff)))
      (try dsimp only at a0)
      (try dsimp only)
      k_steps
      exact turnEnd_mk rfl (HeldC.mk fun G9 k9 => k9 _ _ rfl (by assumption) (by assumption) (by assumption) (by assumption) (by assumption) (by assumption) (codes_grow z7 (by assumption) (by k_mem)) rfl) (by k_asm) (by refine' news_sub ?N ?S; (case N => k_asm); (case S => (repeat (first | with_reducible exact sub_refl | with_reducible exact sub_nil | ((with_reducible apply sub_cons); (focus k_mem)) | with_reducible apply sub_tail)))) (off4_cons ⟨by k_ne, by k_ne, by k_ne, by k_ne⟩ (off4_cons ⟨by k_ne, by k_ne, by k_ne, by k_ne⟩ (off4_cons ⟨by k_ne, by k_ne, by k_ne, by k_ne⟩ (off4_cons ⟨by k_ne, by k_ne, by k_ne, by k_ne⟩ (off4_step (by assumption) (by k_mem) (by k_mem) (by k_mem) (by k_mem) hoff4)))))
    case fin9 =>
      intro I C D c h₀ m rest h tk hJ F N hoff hlt
      with_reducible refine heldC_ hJ ?_
      clear hJ
      intro ps' codes' e91 z1 z2 z3 z4 z5 z6 z7 e92
      subst e91 e92
      (try dsimp only)
      k_steps
      (try (refine pop_ (by assumption) ?_))
      exact HeldC.mk fun G9 k9 => k9 _ _ _ ps' codes' rfl (by k_asm) (by refine' news_sub ?N ?S; (case N => k_asm); (case S => refine sub_cons (by k_mem) (sub_cons (by k_mem) (sub_cons (by k_mem) (sub_skip (b := tups) ?_))); (repeat (first | with_reducible exact sub_refl | with_reducible exact sub_nil | ((with_reducible apply sub_cons); (focus k_mem)) | with_reducible apply sub_tail)))) (by assumption) (by assumption) (by assumption) (by assumption) (by assumption) (by assumption) (by assumption)
  clear F N hrow hp2 htup hl
  intro s' h9
  with_reducible refine heldC_ h9 ?_
  clear h9
  intro h tk h₀ ps' codes' e91 F N x1 x2 x3 x4 x5 x6 x7
  subst e91
  (try dsimp only)
  refine segO (fun s' => HeldC (fun G9 => ∀ h tk l2, ∀ vs : List Value, ∀ k tups, s' = ⟨h, gS, dS, tk, oS⟩ → Fr h₀ L' h (fun y => if y = PySem.Str.ofString "signs" then some (Value.ref l2) else if y = PySem.Str.ofString "bad" then some (Value.ref l) else if y = PySem.Str.ofString "text" then some (Value.bytes x tx) else if y = PySem.Str.ofString "more" then some (Value.bytes z tz) else if y = PySem.Str.ofString "one" then some (Value.bool one) else if y = PySem.Str.ofString "other" then some (Value.bool other) else if y = PySem.Str.ofString "source" then some (Value.ref src) else none) → News h₀ L' h ((l2, listOf vs.toArray k) :: (X, oX) :: (src, o') :: (236, tabObj ps') :: (codes' ++ (tups ++ news))) → @LT.lt Nat _ X l2 → (∀ p ∈ tups, p.1 ≠ 236) → (∀ v ∈ vs, SignAt tups v) → G9)) (fun Q9 z9 => ?_) ?_
  · k_steps
    (try (refine pop_ (by assumption) ?_))
    exact HeldC.mk fun G9 k9 => k9 _ _ _ _ _ _ rfl (by k_asm) (news_sub (by k_asm) (sub_cons (by k_mem) (sub_cons (by k_mem) (sub_cons (by k_mem) (sub_cons (by k_mem) (sub_app3 (fun q hq => (by (repeat (first | with_reducible exact sub_refl | with_reducible exact sub_nil | ((with_reducible apply sub_cons); (focus k_mem)) | with_reducible apply sub_tail)) : ∀ q ∈ codes' ++ news, q ∈ _) q (List.mem_append_left _ hq)) sub_filter (fun q hq => (by (repeat (first | with_reducible exact sub_refl | with_reducible exact sub_nil | ((with_reducible apply sub_cons); (focus k_mem)) | with_reducible apply sub_tail)) : ∀ q ∈ codes' ++ news, q ∈ _) q (List.mem_append_right _ hq)))))))) (ltN (by omega)) off_filter (List.forall_mem_cons.mpr ⟨sign_at (by k_mem) (by k_ne) (by constructor), List.forall_mem_cons.mpr ⟨sign_at (by k_mem) (by k_ne) (by constructor), List.forall_mem_cons.mpr ⟨sign_at (by k_mem) (by k_ne) (by constructor), List.forall_mem_cons.mpr ⟨sign_at (by k_mem) (by k_ne) (by constructor), List.forall_mem_cons.mpr ⟨sign_at (by k_mem) (by k_ne) (by constructor), List.forall_mem_nil _⟩⟩⟩⟩⟩)
  clear F N
  intro s' h9
  with_reducible refine heldC_ h9 ?_
  clear h9
  intro h tk l2 vs k tups e91 F N hl2 htup hrow
  subst e91
  (try dsimp only)
  have hp2 : ∀ p ∈ tups ++ news, p.1 ≠ 236 := fun p hq => (List.mem_append.mp hq).elim (htup p) (hp p)
  have mark := MS2.mk
  k_steps
  refine ⟨l2, vs, k, _, _, _, (fun h₀ m rest => HeldC (fun G9 => ∀ ps' codes', m = (fun y => if y = PySem.Str.ofString "signs" then some (Value.ref l2) else if y = PySem.Str.ofString "bad" then some (Value.ref l) else if y = PySem.Str.ofString "text" then some (Value.bytes x tx) else if y = PySem.Str.ofString "more" then some (Value.bytes z tz) else if y = PySem.Str.ofString "one" then some (Value.bool one) else if y = PySem.Str.ofString "other" then some (Value.bool other) else if y = PySem.Str.ofString "source" then some (Value.ref src) else none) → Below (ktrTop dp un gd cn cs L fa ccd cl outer) base (envX cn cs L fa ccd cl :: outer) h₀ → (Mine.hd.heap_39 w.params).In h₀ → Top p loose mean mg mb h₀ → KtsDicts (frs (envX cn cs L fa ccd cl :: outer)) h₀ → KtsTurn (frs (envX cn cs L fa ccd cl :: outer)) g' h₀ → TabInv (PySem.Str.ofString "_law_sorts_right.<locals>.<lambda>") 236 ps' codes' → (∀ q ∈ codes', q ∈ codes ∨ @LT.lt Nat _ X q.1) → rest = ((l2, listOf vs.toArray k) :: (X, oX) :: (src, o') :: (236, tabObj ps') :: (codes' ++ (tups ++ news))) → G9)), rfl, rfl, by k_asm, (by refine' news_sub ?N ?S; (case N => k_asm); (case S => (repeat (first | with_reducible exact sub_refl | with_reducible exact sub_nil | ((with_reducible apply sub_cons); (focus k_mem)) | with_reducible apply sub_tail)))), ?hJ9, ?cj9, ?turn9, ?fin9⟩
  case hJ9 =>
    intro h₀ m rest h9
    with_reducible refine heldC_ h9 ?_
    clear h9
    intro ps' codes' e91 z1 z2 z3 z4 z5 z6 z7 e92
    subst e91 e92
    exact .head _
  case cj9 => exact HeldC.mk fun G9 k9 => k9 _ _ rfl (by assumption) (by assumption) (by assumption) (by assumption) (by assumption) (by assumption) (by assumption) rfl
  case turn9 =>
    intro I C D c h₀ m rest oI oc v h tk E' hv hJ F N hoff hlt a1 a2 a3 hc
    refine opQ (fun Q9 z9 => ?_)
    with_reducible refine heldC_ hJ ?_
    clear hJ
    intro ps' codes' e91 z1 z2 z3 z4 z5 z6 z7 e92
    subst e91 e92
    obtain ⟨r, op, to, x1, rfl, hr, hbad⟩ := hrow v hv
    have hr2 : (r, _) ∈ tups ++ news := List.mem_append_left _ hr
    have a0 := ltN (hlt (l2, listOf vs.toArray k) (.head _))
    replace a1 := ltN a1
    replace a2 := ltN a2
    replace a3 := ltN a3
    have hoff4 := off4_tl (off4_tl (off4_tl (off4_tl hoff)))
    (try dsimp only at a0)
    (try dsimp only)
    k_steps
    exact turnEnd_mk rfl (HeldC.mk fun G9 k9 => k9 _ _ rfl (by assumption) (by assumption) (by assumption) (by assumption) (by assumption) (by assumption) (codes_grow z7 (by assumption) (by k_mem)) rfl) (by k_asm) (by refine' news_sub ?N ?S; (case N => k_asm); (case S => (repeat (first | with_reducible exact sub_refl | with_reducible exact sub_nil | ((with_reducible apply sub_cons); (focus k_mem)) | with_reducible apply sub_tail)))) (off4_cons ⟨by k_ne, by k_ne, by k_ne, by k_ne⟩ (off4_cons ⟨by k_ne, by k_ne, by k_ne, by k_ne⟩ (off4_cons ⟨by k_ne, by k_ne, by k_ne, by k_ne⟩ (off4_cons ⟨by k_ne, by k_ne, by k_ne, by k_ne⟩ (off4_step (by assumption) (by k_mem) (by k_mem) (by k_mem) (by k_mem) hoff4)))))
  case fin9 =>
    intro I C D c h₀ m rest h tk hJ F N hoff hlt
    with_reducible refine heldC_ hJ ?_
    clear hJ
    intro ps' codes' e91 z1 z2 z3 z4 z5 z6 z7 e92
    subst e91 e92
    (try dsimp only)
    k_steps
    exact leaveT_mk (by assumption) (by k_asm) (by refine' news_sub ?N ?S; (case N => k_asm); (case S => refine sub_cons (by k_mem) (sub_cons (by k_mem) (sub_skip (b := tups) ?_)); (repeat (first | with_reducible exact sub_refl | with_reducible exact sub_nil | ((with_reducible apply sub_cons); (focus k_mem)) | with_reducible apply sub_tail)))) (fun h₅ T₅ F₅ N₅ B₅ X₅ P₅ D₅ => hret _ _ _ _ _ ⟨rfl, _, ps', codes', by assumption, by assumption, codes_ls hX (by assumption), rfl⟩ T₅ F₅ N₅ B₅ X₅ P₅ D₅)

end
end

-- TY
section
theorem start_TY : True := by
  w_top off
  k_with_none
  (k_with "eval Constant str" => refine kstr ?_)
  (k_with "eval Constant int" => refine kint ?_)
  (k_with "eval Constant bytes" => refine kbyt ?_)
  (k_with "binaryOp Add int int" => with_reducible refine kadd ?_)
  (k_with "binaryOp Sub int int" => with_reducible refine ksub ?_)
  (k_with "unaryOp USub int" => with_reducible refine kneg ?_)
  (k_with "storeName" => (k_here; k_dflt (refine kstL (by k_asm) (by k_asm) ?_ (rfl) (rfl); k_whole; intro h9 F9 N9; (try k_sweep))))
  (k_with "newTuple" => (k_here; k_dflt (refine ktuK (by k_asm) (by k_asm) ?_ (by kmk_size)); intro D7 h7 F7 N7 l7; (try k_lt l7); (try k_sweep)))
  (k_with "newList" => (k_here; k_dflt (refine kltK (by k_asm) (by k_asm) ?_ (by size_fits)); intro D7 h7 F7 N7 l7; (try k_lt l7); (try k_sweep)))
  (k_with "steps9" => repeat' (first | (k_unfold; (try dsimp only)) | (k_end; wrow_close) | (walk1 <;> (try dsimp only)) | (dsimp only; walk1) | (leave1; walk_say "STEP leave1"; try dsimp only) | (with_reducible refine popN (by assumption) ?_) | (with_reducible refine popR (by assumption) ?_) | ((refine pop_ (by assumption) ?_); (try dsimp only)) | fail "no step"))
  (k_with "all9" => focus ((repeat (first | exact List.forall_mem_nil _ | with_reducible assumption | (refine List.forall_mem_cons.mpr ⟨by k_ne, ?_⟩))); done))
  (k_with "room9" => first | exact rl1 (by with_reducible assumption) (Nat.le_of_ble_eq_true rfl) | exact rl0 (by with_reducible assumption) (Nat.le_of_ble_eq_true rfl) | exact rl2 (by with_reducible assumption) (Nat.le_of_ble_eq_true rfl) | exact rlz (by assumption))
  (k_with "ne9" => (refine neN ?_; (try dsimp only); first | (refine Nat.ne_of_lt ?_; focus ((repeat (first | with_reducible assumption | exact cj0 (by with_reducible assumption) | exact cj1 (by with_reducible assumption) | exact cj2 (by with_reducible assumption) | exact cj3 (by with_reducible assumption) | exact cj4 (by with_reducible assumption) | exact cj5 (by with_reducible assumption) | exact cj6 (by with_reducible assumption) | exact cj7 (by with_reducible assumption) | exact cj8 (by with_reducible assumption) | exact cj9 (by with_reducible assumption) | exact cj10 (by with_reducible assumption) | exact cj11 (by with_reducible assumption) | exact cj12 (by with_reducible assumption) | exact cj13 (by with_reducible assumption) | exact cj14 (by with_reducible assumption) | exact cj15 (by with_reducible assumption) | (refine lt_tr (by with_reducible assumption) ?_))); done)) | (refine Nat.ne_of_gt ?_; focus ((repeat (first | with_reducible assumption | exact cj0 (by with_reducible assumption) | exact cj1 (by with_reducible assumption) | exact cj2 (by with_reducible assumption) | exact cj3 (by with_reducible assumption) | exact cj4 (by with_reducible assumption) | exact cj5 (by with_reducible assumption) | exact cj6 (by with_reducible assumption) | exact cj7 (by with_reducible assumption) | exact cj8 (by with_reducible assumption) | exact cj9 (by with_reducible assumption) | exact cj10 (by with_reducible assumption) | exact cj11 (by with_reducible assumption) | exact cj12 (by with_reducible assumption) | exact cj13 (by with_reducible assumption) | exact cj14 (by with_reducible assumption) | exact cj15 (by with_reducible assumption) | (refine lt_tr (by with_reducible assumption) ?_))); done))))
  (k_with "mem9" => focus ((repeat (first | with_reducible assumption | exact List.mem_append_left _ (by with_reducible assumption) | exact List.mem_append_right _ (by with_reducible assumption) | exact List.Mem.head _ | refine List.Mem.tail _ ?_)); done))
  trivial


theorem words_TY_69 : True := by
  (k_with "execs cons" => (first | (k_here; k_gentoks) | (k_here; k_made; walk_at "execs cons") | (k_here; k_dflt (first | refine lastO ?_ | (refine consO ?_; k_whole; intro qO9 zO9)))))
  (k_with "eval Call" => (((with_reducible show wpAny _ _ (eval (PySem.Expr.Call (PySem.Expr.Name _ _) _ [] _) _) _ _ _); k_dflt (refine Call_ ?_))))
  trivial
inductive MT : Prop
  | mk
theorem fr_none {h₀ h : Heap} {L : Addr} {m : PySem.Str → Option Value} (x : PySem.Str) (F : Fr h₀ L h m) : Fr h₀ L h (fun y => if y = x then m x else m y) := by
  have e : (fun y => if y = x then m x else m y) = m := by
    funext y
    by_cases h : y = x
    · rw [if_pos h, h]
    · rw [if_neg h]
  rw [e]; exact F
theorem le_sure {prog : Program} {w : World} {A : Around} {E : Value → Shared → Prop} {s : Shared} {a b : Int} {t u : Tok} {Q : Value → Shared → Prop} (hh : a ≤ b) (h : Q (.bool true) s) : wpAny (model prog w) A (compareOp .LtE (.int a t) (.int b u)) Q E s := PyProof.Rows.le_int (by rw [decide_eq_true hh]; exact h)
theorem le_not {prog : Program} {w : World} {A : Around} {E : Value → Shared → Prop} {s : Shared} {a b : Int} {t u : Tok} {Q : Value → Shared → Prop} (hh : ¬ a ≤ b) (h : Q (.bool false) s) : wpAny (model prog w) A (compareOp .LtE (.int a t) (.int b u)) Q E s := PyProof.Rows.le_int (by rw [decide_eq_false hh]; exact h)
theorem mem_hd {a : Addr × Obj} {l : List (Addr × Obj)} : a ∈ a :: l := .head _
theorem rune_sure {n : Int} (h : -9223372036854775809 ≤ n ∧ n ≤ 18446744073709551616) : (1 - 2 ^ 512 : Int) ≤ n ∧ n ≤ (2 ^ 512 - 1 : Int) := by
  have e : (18446744073709551617 : Int) ≤ 2 ^ 512 := by decide +kernel
  generalize (2 : Int) ^ 512 = z at *
  omega
inductive RowKind : Value → PySem.Str → Prop
  | t : RowKind (.bool true) (PySem.Str.ofString "bool")
  | i (t1 : Tok) : RowKind (.int 7 t1) (PySem.Str.ofString "int")
  | b (t1 : Tok) : RowKind (.bytes #[120] t1) (PySem.Str.ofString "string")
inductive ToldOf : PySem.Str → Prop
  | b : ToldOf (PySem.Str.ofString "bool")
  | s : ToldOf (PySem.Str.ofString "string")
inductive SortOf (x : PySem.Str) : Array Value → Prop
  | one (t2 : Tok) : SortOf x #[.str x t2]
  | two (t2 t3 : Tok) : SortOf x #[.str (PySem.Str.ofString "untyped") t2, .str x t3]
def RowAt (R : List (Addr × Obj)) (v : Value) : Prop := ∃ r val word t, v = .ref r ∧ (r, tupO #[val, .str word t]) ∈ R ∧ RowKind val word
def ToldAt (v : Value) : Prop := ∃ x t, v = .str x t ∧ ToldOf x
def SortAt (R : List (Addr × Obj)) (x : PySem.Str) (v : Value) : Prop := ∃ r xs, v = .ref r ∧ (r, tupO xs) ∈ R ∧ SortOf x xs
theorem row_cast {x : Value} {xs : Array Value} {r r' : Bool} (h : TypeRow x xs r) (e : r' = r) : TypeRow x xs r' := e ▸ h
theorem type_row {val : Value} {word x : PySem.Str} {xs : Array Value} (h1 : RowKind val word) (h2 : ToldOf x) (h3 : SortOf x xs) : TypeRow val xs (x == word) := by
  cases h1 with
  | t =>
    cases h2 with
    | b =>
      cases h3 with
      | one t2 => exact row_cast (.tb1 t2) (by decide +kernel)
      | two t2 t3 => exact row_cast (.tb2 t2 t3) (by decide +kernel)
    | s =>
      cases h3 with
      | one t2 => exact row_cast (.ts1 t2) (by decide +kernel)
      | two t2 t3 => exact row_cast (.ts2 t2 t3) (by decide +kernel)
  | i t1 =>
    cases h2 with
    | b =>
      cases h3 with
      | one t2 => exact row_cast (.ib1 t1 t2) (by decide +kernel)
      | two t2 t3 => exact row_cast (.ib2 t1 t2 t3) (by decide +kernel)
    | s =>
      cases h3 with
      | one t2 => exact row_cast (.is1 t1 t2) (by decide +kernel)
      | two t2 t3 => exact row_cast (.is2 t1 t2 t3) (by decide +kernel)
  | b t1 =>
    cases h2 with
    | b =>
      cases h3 with
      | one t2 => exact row_cast (.bb1 t1 t2) (by decide +kernel)
      | two t2 t3 => exact row_cast (.bb2 t1 t2 t3) (by decide +kernel)
    | s =>
      cases h3 with
      | one t2 => exact row_cast (.bs1 t1 t2) (by decide +kernel)
      | two t2 t3 => exact row_cast (.bs2 t1 t2 t3) (by decide +kernel)
theorem type_int8 {val : Value} {word : PySem.Str} {t2 t3 : Tok} (h1 : RowKind val word) : TypeRow val #[.str (PySem.Str.ofString "int") t2, .str (PySem.Str.ofString "int8") t3] (word == PySem.Str.ofString "int") := by
  cases h1 with
  | t => exact row_cast (.ti8 t2 t3) (by decide +kernel)
  | i t1 => exact row_cast (.ii8 t1 t2 t3) (by decide +kernel)
  | b t1 => exact row_cast (.bi8 t1 t2 t3) (by decide +kernel)
theorem repr_slice_k {w : World} {news : List (Addr × Obj)} {val : Value} {word : PySem.Str} {l r : Addr} {t2 : Tok} {xs : Array Value} (h1 : RowKind val word) (hl : (l, tupO #[.str (PySem.Str.ofString "slice") t2, .ref r]) ∈ news) (hx : (r, tupO xs) ∈ news) :
    CallsR 4 w 84 [val, .ref l] news (fun v n' => v = .bool false ∧ n' = news) False := by
  cases h1 with
  | t => exact repr_slice_t_c (t1 := 0) hl hx
  | i t1 => exact repr_slice_i_c hl hx
  | b t1 => exact repr_slice_b_c hl hx
theorem fr_norm2 {h₀ h : Heap} {L : Addr} {x y : PySem.Str} {a b c d : Option Value} {m : PySem.Str → Option Value} (F : Fr h₀ L h (fun z => if z = x then a else if z = y then b else if z = x then c else if z = y then d else m z)) : Fr h₀ L h (fun z => if z = x then a else if z = y then b else m z) := by
  have e : (fun z => if z = x then a else if z = y then b else if z = x then c else if z = y then d else m z) = (fun z => if z = x then a else if z = y then b else m z) := by
    funext z
    by_cases h : z = x
    · simp only [if_pos h]
    · by_cases h' : z = y
      · simp only [if_neg h, if_pos h']
      · simp only [if_neg h, if_neg h']
  exact e ▸ F
theorem fr_norm4 {h₀ h : Heap} {L : Addr} {x y p q : PySem.Str} {a b c d a' b' c' d' : Option Value} {m : PySem.Str → Option Value}
    (F : Fr h₀ L h (fun z => if z = x then a else if z = y then b else if z = p then c else if z = q then d else if z = x then a' else if z = y then b' else if z = p then c' else if z = q then d' else m z)) :
    Fr h₀ L h (fun z => if z = x then a else if z = y then b else if z = p then c else if z = q then d else m z) := by
  have e : (fun z => if z = x then a else if z = y then b else if z = p then c else if z = q then d else if z = x then a' else if z = y then b' else if z = p then c' else if z = q then d' else m z) = (fun z => if z = x then a else if z = y then b else if z = p then c else if z = q then d else m z) := by
    funext z
    by_cases h1 : z = x
    · simp only [if_pos h1]
    · by_cases h2 : z = y
      · simp only [if_neg h1, if_pos h2]
      · by_cases h3 : z = p
        · simp only [if_neg h1, if_neg h2, if_pos h3]
        · by_cases h4 : z = q
          · simp only [if_neg h1, if_neg h2, if_neg h3, if_pos h4]
          · simp only [if_neg h1, if_neg h2, if_neg h3, if_neg h4]
  exact e ▸ F
section
variable {prog : Program} {w : World} {A : Around} {E : Value → Shared → Prop} {env : Env} {target : PySem.Expr} {body : List Stmt} {Q : Flow → Shared → Prop}
def TurnL (L : Addr) (s₁ : Shared) (h₀ : Heap) (I : Addr) (oI : Obj) (R : List (Addr × Obj)) (J : (PySem.Str → Option Value) → Prop) (s' : Shared) : Prop :=
  ∃ h' tk' m, s' = { s₁ with heap := h', toks := tk' } ∧ J m ∧ Fr h₀ L h' m ∧ News h₀ L h' ((I, oI) :: R)
theorem forInvL_ {J : Addr → List Value → Nat → List (Addr × Obj) → (PySem.Str → Option Value) → Prop} {s₁ : Shared} {l : Addr} {vs : List Value} {k : Nat} {h₀ : Heap} {m : PySem.Str → Option Value} {led : List (Addr × Obj)}
    (N : News h₀ env.locals s₁.heap led) (hv : (l, listOf vs.toArray k) ∈ led) (F : Fr h₀ env.locals s₁.heap m) (j : J l vs k led m)
    (turn : ∀ R I m oI v h tk, v ∈ vs → J l vs k R m → Fr h₀ env.locals h m → News h₀ env.locals h ((I, oI) :: R) → (∀ p ∈ R, p.1 ≠ I) →
      wpAny (model prog w) A (assign target env v) (fun _ s₂ => wpAny (model prog w) A (execs body env) (fun f s₃ => match f with
        | .next => TurnL env.locals s₁ h₀ I oI R (J l vs k R) s₃
        | .cont => TurnL env.locals s₁ h₀ I oI R (J l vs k R) s₃
        | .brk => Q .next s₃
        | .ret v => Q (.ret v) s₃) E s₂) E { s₁ with heap := h, toks := tk })
    (fin : ∀ R m h tk, J l vs k R m → Fr h₀ env.locals h m → News h₀ env.locals h R → Q .next { s₁ with heap := h, toks := tk }) :
    ForInv prog w A env target body Q E (.ref l) s₁ := by
  refine ⟨l, vs, k, h₀, m, led, fun h₀' m rest => h₀' = h₀ ∧ rest = led ∧ J l vs k led m, rfl, F, N, fun h₀' m rest hj => hj.2.1 ▸ hv, ⟨rfl, rfl, j⟩, fun I h₀' m' rest oI v h tk hv' hj F' N' off _ => ?_, fun h₀' m' rest h tk hj F' N' => ?_⟩
  · obtain ⟨e1, e2, hj⟩ := hj
    subst e1
    subst e2
    have turnf : ∀ s₃, TurnL env.locals s₁ h₀' I oI rest (J l vs k rest) s₃ → TurnF env.locals s₁ I oI (fun h₀'' m rest' => h₀'' = h₀' ∧ rest' = rest ∧ J l vs k rest m) s₃ := fun s₃ ⟨h', tk', m, e, hj, F, N⟩ => ⟨h', tk', h₀', m, rest, e, ⟨rfl, rfl, hj⟩, F, N, off⟩
    refine wpAny_mono (turn rest I m' oI v h tk hv' hj F' N' off) (fun _ s₂ h₂ => wpAny_mono h₂ (fun f s₃ h₃ => ?_) fun _ _ e => e) fun _ _ e => e
    cases f with
    | next => exact turnf s₃ h₃
    | cont => exact turnf s₃ h₃
    | brk => exact h₃
    | ret v => exact h₃
  · obtain ⟨e1, e2, hj⟩ := hj
    subst e1
    subst e2
    exact fin rest m' h tk hj F' N'
end
theorem eq_bytes_same {prog : Program} {w : World} {A : Around} {E : Value → Shared → Prop} {s : Shared} {b : Array UInt8} {t u : Tok} {Q : Value → Shared → Prop} (h : Q (.bool true) s) : wpAny (model prog w) A (compareOp .Eq (.bytes b t) (.bytes b u)) Q E s :=
  eq_bytes (by simpa using h)
theorem rune_in {v : Value} {t0 t1 t2 t3 t4 t5 t6 t7 t8 t9 t10 t11 t12 t13 t14 : Tok} (h : v ∈ #[Value.int 0 t0, Value.int 65 t1, Value.int 127 t2, Value.int 128 t3, Value.int 2047 t4, Value.int 2048 t5, Value.int 55295 t6, Value.int 55296 t7, Value.int 57343 t8, Value.int 57344 t9, Value.int 65535 t10, Value.int 65536 t11, Value.int 1114111 t12, Value.int 1114112 t13, Value.int (-1) t14].toList) : ∃ r t b, v = .int r t ∧ RuneOf r b := by
  simp only [List.mem_cons, List.not_mem_nil, or_false] at h
  rcases h with rfl | rfl | rfl | rfl | rfl | rfl | rfl | rfl | rfl | rfl | rfl | rfl | rfl | rfl | rfl
  · exact ⟨_, _, _, rfl, .r0⟩
  · exact ⟨_, _, _, rfl, .r1⟩
  · exact ⟨_, _, _, rfl, .r2⟩
  · exact ⟨_, _, _, rfl, .r3⟩
  · exact ⟨_, _, _, rfl, .r4⟩
  · exact ⟨_, _, _, rfl, .r5⟩
  · exact ⟨_, _, _, rfl, .r6⟩
  · exact ⟨_, _, _, rfl, .r7⟩
  · exact ⟨_, _, _, rfl, .r8⟩
  · exact ⟨_, _, _, rfl, .r9⟩
  · exact ⟨_, _, _, rfl, .r10⟩
  · exact ⟨_, _, _, rfl, .r11⟩
  · exact ⟨_, _, _, rfl, .r12⟩
  · exact ⟨_, _, _, rfl, .r13⟩
  · exact ⟨_, _, _, rfl, .r14⟩
theorem codes_lt {K : Nat} {L : Addr} {led codes codes' : List (Addr × Obj)} (h : ∀ q ∈ led, q.1 < L) (hc : ∀ q ∈ codes', q ∈ codes ∨ @LT.lt Nat _ (L + K) q.1) : ∀ q ∈ codes', q ∈ codes ∨ ∀ q' ∈ led, @LT.lt Nat _ q'.1 q.1 :=
  fun q hq => (hc q hq).imp id fun z q' hq' => Nat.lt_trans (Nat.lt_of_lt_of_le (h q' hq') (Nat.le_add_right _ _)) z

section
variable {w : World} {news : List (Addr × Obj)} {u : Bool} {lo hi : Int}
theorem words_TY_70 : True := by
  (k_with "eval Name" => ((k_here; k_dflt (first | (refine nameX_L (by k_asm) (by exact rfl) ?_ (by exact rfl) (rfl) (by decide); k_whole) | (refine nameX_C (by k_asm) (by exact rfl) (by k_mem) (by assumption) ?_ (by exact rfl) (rfl) (by decide); k_whole) | (refine nameX_K (by k_asm) (by k_asm) (by k_asm) (by k_is) ?_ (by exact rfl) (rfl) (by decide); k_whole)))))
  (k_with "storeName" => ((k_here; k_dflt (first | (refine kstL (by k_asm) (by k_asm) ?_ (rfl) (rfl); k_whole; intro h9 F9 N9) | (refine kstC (by k_asm) (by k_asm) (by exact rfl) (by k_updF) (by assumption) ?_ (rfl) (rfl); k_whole; intro h9 o9 F9 N9 d9; (try dsimp only at N9))))))
  (k_with "callWith ref" => ((k_here; k_dflt (refine kwith (by k_asm) (by k_is) ?_; k_whole))))
  (k_with "subscriptTail Name Slice ref ref" => ((k_here; (with_reducible show wpAny _ _ (subscriptTail _ (PySem.Expr.Slice _ _ _ _) (Value.ref _) (Value.ref _)) _ _ _); k_dflt (refine slice9 (by k_asm) (by k_asm) (by k_mem) ?_ (by with_unfolding_all rfl) (by exact fun _ => rfl); k_whole); intro D9 h9 F9 N9 l9; (try k_lt l9))))
  (k_with "exec For Name List cons nil" => ((k_here; k_dflt (refine For_inv ?_ (rfl) (by (intro _; rfl)) (by first | assumption | passes_own); k_whole))))
  (k_with "subscriptTail" => ((k_here; (with_reducible show wpAny _ _ (subscriptTail _ (PySem.Expr.Slice _ _ _ _) (Value.ref _) (Value.ref _)) _ _ _); k_dflt (refine slice9 (by k_asm) (by k_asm) (by k_mem) ?_ (by with_unfolding_all rfl) (by exact fun _ => rfl); k_whole); intro D9 h9 F9 N9 l9; (try k_lt l9))))
  (k_with "eval Lambda" => ((k_here; k_dflt (refine kla_eval (rfl) ?_); (k_dflt (refine lam_env (by k_asm) (by k_asm) (by k_asm) (by kn_code) (by exact rfl) (by exact rfl) (by exact rfl) (by repeat (first | exact LedF.head | (apply LedF.tail; (focus k_ne)))) (by assumption) (by assumption) (by exact rfl) ?_; k_whole)); intro f9 c9 oc9 vs9 t9 ct9 ps9 cs9 h9 tk9 F9 N9 I9 m9 d9 v9 n9 l9; (try dsimp only at N9); (try dsimp only))))
  (k_with "call ref" => (k_here; (with_reducible show wpAny _ _ (call (Value.ref 178) _) _ _ _); k_dflt (refine callsR_v (by k_asm) (by k_asm) (by k_asm) (by k_asm) (by k_asm) ?_; refine RestR.mkF _ _ (bounds_c (by assumption)) (by first | exact rfl | assumption) (by ktr_room) (by ktr_units) ?_; k_whole); intro v9 n9 h9 tk9 R9 F9 N9; obtain ⟨a9, t9, u9, e9, e8, l9⟩ := R9; subst e9 e8; (try dsimp only); (try k_fold)))
  (k_with "call ref" => (k_here; (with_reducible show wpAny _ _ (call (Value.ref 213) _) _ _ _); k_dflt (refine callsS_v (by k_asm) (by k_asm) (by k_asm) (by k_asm) (by k_asm) (by assumption) (by assumption) (by assumption) (by assumption) ?_; refine RestS.led _ _ _ ((by first | exact told_conv_in (by k_mem) (by k_mem) (by assumption) (by assumption) (by k_mem) (by assumption) (by k_mem) (by assumption) (by assumption) (by assumption) | exact told_conv_out (by k_mem) (by k_mem) (by assumption) (by assumption) (by k_mem) (by assumption) (by k_mem) (by assumption) (by assumption) (by assumption))) (by first | exact rfl | assumption) (by ktr_room) (by ktr_units) ?_; k_whole); intro v9 h9 tk9 g9 R9 T9 F9 N9 B9 X9 P9 D9; (try dsimp only); (try k_fold)))
  (k_with "call ref" => (k_here; (with_reducible show wpAny _ _ (call (Value.ref 84) _) _ _ _); k_dflt (refine callsR_v (by k_asm) (by k_asm) (by k_asm) (by k_asm) (by k_asm) ?_; refine RestR.eqF _ _ _ (repr_rune_c (by with_reducible exact mem_hd)) (by first | exact rfl | assumption) (by ktr_room) (by ktr_units) ?_; k_whole); intro h9 tk9 F9 N9; rw [decide_eq_true (rune_sure (by assumption))]; (try dsimp only); (try k_fold)))
  (k_with "call ref" => (k_here; (with_reducible show wpAny _ _ (call (Value.ref 84) _) _ _ _); k_dflt (refine callsR_v (by k_asm) (by k_asm) (by k_asm) (by k_asm) (by k_asm) ?_; refine RestR.eqF _ _ _ (repr_int_c (by assumption) (by with_reducible exact mem_hd)) (by first | exact rfl | assumption) (by ktr_room) (by ktr_units) ?_; k_whole); intro h9 tk9 F9 N9; (first | rw [decide_eq_true (by assumption)] | rw [decide_eq_false (by assumption)]); (try dsimp only); (try k_fold)))
  (k_with "compareOp NotEq" => ((k_here; k_dflt (refine ne_res (by first | assumption | exact ⟨_, rfl⟩) (by first | assumption | exact ⟨_, rfl⟩) ?_; k_whole); (try dsimp only))))
  (k_with "compareOp Eq" => ((k_here; k_dflt (refine eq_res (by first | assumption | exact ⟨_, rfl⟩) (by first | assumption | exact ⟨_, rfl⟩) ?_; k_whole); (try dsimp only))))
  (k_with "binaryOp Add bytes bytes" => ((refine KBy.add_bytes (by omega) ?_; intro t9 k9)))
  (k_with "compareOp NotEq bytes bytes" => ((k_here; k_dflt (refine ne_bytes_same ?_))))
  (k_with "compareOp IsNot bool bool" => ((k_here; with_reducible refine isnot_bool_same ?_)))
  (k_with "compareOp LtE int int" => ((k_here; first | (refine le_sure (by first | assumption | omega) ?_) | (refine le_not (by first | assumption | omega) ?_))))
  (k_with "exec For Tuple Name cons nil" => ((k_here; k_dflt (refine For_inv ?_ (rfl) (by (intro _; rfl)) (by first | assumption | passes_own); k_whole))))
  (k_with "call ref" => (k_here; (with_reducible show wpAny _ _ (call (Value.ref 84) _) _ _ _); k_dflt (refine callsR_v (by k_asm) (by k_asm) (by k_asm) (by k_asm) (by k_asm) ?_; refine RestR.eqF _ _ _ (repr_slice_k (by assumption) (by with_reducible exact mem_hd) (by k_mem)) (by first | exact rfl | assumption) (by ktr_room) (by ktr_units) ?_; k_whole); intro h9 tk9 F9 N9; (try dsimp only); (try k_fold)))
  (k_with "call ref" => (k_here; (with_reducible show wpAny _ _ (call (Value.ref 84) _) _ _ _); k_dflt (refine callsR_v (by k_asm) (by k_asm) (by k_asm) (by k_asm) (by k_asm) ?_; refine RestR.eqF _ _ _ (repr_row_c (type_int8 (by assumption)) (by with_reducible exact mem_hd)) (by first | exact rfl | assumption) (by ktr_room) (by ktr_units) ?_; k_whole); intro h9 tk9 F9 N9; (try dsimp only); (try k_fold)))
  (k_with "call ref" => (k_here; (with_reducible show wpAny _ _ (call (Value.ref 84) _) _ _ _); k_dflt (refine callsR_v (by k_asm) (by k_asm) (by k_asm) (by k_asm) (by k_asm) ?_; refine RestR.eqF _ _ _ (repr_row_c (type_row (by assumption) (by assumption) (by assumption)) (by k_mem)) (by first | exact rfl | assumption) (by ktr_room) (by ktr_units) ?_; k_whole); intro h9 tk9 F9 N9; (try dsimp only); (try k_fold)))
  (k_with "call ref" => (k_here; (with_reducible show wpAny _ _ (call (Value.ref 170) _) _ _ _); k_dflt (refine callsR_v (by k_asm) (by k_asm) (by k_asm) (by k_asm) (by k_asm) ?_; refine RestR.mkF _ _ (one_u (by k_updF) (by assumption) (by k_mem) (by k_ne) (by exact (by decide : (2 : Int) ≤ 15)) (by exact (by decide : (15 : Int) ≤ 64))) (by first | exact rfl | assumption) (by ktr_room) (by ktr_units) ?_; k_whole); intro v9 n9 h9 tk9 R9 F9 N9; obtain ⟨o9, ⟨hv9, so9⟩, e8⟩ := R9; subst e8; (obtain ⟨p9, q9, b9, e9, hb9⟩ := rune_in hv9; subst e9); (try dsimp only at N9); (try dsimp only); (try k_fold)))
  (k_with "call ref" => (k_here; (with_reducible show wpAny _ _ (call (Value.ref 149) _) _ _ _); k_dflt (refine callsR_v (by k_asm) (by k_asm) (by k_asm) (by k_asm) (by k_asm) ?_; refine RestR.ledF _ _ _ (conv_rune_c (by assumption) (by with_reducible exact mem_hd)) (by first | exact rfl | assumption) (by ktr_room) (by ktr_units) ?_; k_whole); intro v9 h9 tk9 R9 F9 N9; obtain ⟨t9, e9⟩ := R9; subst e9; (try dsimp only); (try k_fold)))
  (k_with "call ref" => (k_here; (with_reducible show wpAny _ _ (call (Value.ref 251) _) _ _ _); k_dflt (refine callsR_v (by k_asm) (by k_asm) (by k_asm) (by k_asm) (by k_asm) ?_; refine RestR.ledF _ _ _ (octets_c (by assumption)) (by first | exact rfl | assumption) (by ktr_room) (by ktr_units) ?_; k_whole); intro v9 h9 tk9 R9 F9 N9; obtain ⟨t9, e9⟩ := R9; subst e9; (try dsimp only); (try k_fold)))
  (k_with "compareOp Eq bytes bytes" => ((k_here; k_dflt (refine eq_bytes_same ?_))))
  trivial
set_option maxHeartbeats 8000000 in
theorem types_c {src : Addr} {o : Obj} {ps : Array Value} {codes : List (Addr × Obj)} {xk : PySem.Str} {tkk : Tok} (hkv : KV (.str xk tkk) u lo hi) (ho : SrcO o) (hI : TabInv (PySem.Str.ofString "_law_types_right.<locals>.<lambda>") 241 ps codes) (hs : ∀ p ∈ codes ++ news, p.1 ≠ src) (hp : ∀ p ∈ news, p.1 ≠ 241) (hlt : (241 : Nat) < src) : CallsB (fun b9 => CodeHd b9 245 241) 20 w 246 [.ref src, .str xk tkk] ((src, o) :: (241, tabObj ps) :: (codes ++ news)) (fun v n' => v = .bool true ∧ ∃ o' ps' codes', SrcO o' ∧ TabInv (PySem.Str.ofString "_law_types_right.<locals>.<lambda>") 241 ps' codes' ∧ (∀ q ∈ codes', q ∈ codes ∨ ∀ q' ∈ ((src, o) :: (241, tabObj ps) :: (codes ++ news)), @LT.lt Nat _ q'.1 q.1) ∧ n' = (src, o') :: (241, tabObj ps') :: (codes' ++ news)) := by
  w_on
  unfold CallsB
  k_fill
  intro p loose mean mg mb dp un gd cn cs fa ccd cl outer A₀ base g₀ h₀ L m hS gS dS tS oS Q E hB hF hX hN hT hXB hTB hD hT0 hCB hk hd hu hret
  refine wpAny_call ?_
  k_dflt (refine' code_defCT (binds := [(PySem.Str.ofString "source", .ref src), (PySem.Str.ofString "kind", .str xk tkk)]) ?k1 ?k2 ?k3 ?k4 ?k5 ?xb ?tb ?dd ?t0 ?kA ?kF ?kK ?k6 ?k7 ?k8 ?k9 ?kB ?kN ?_ ?c2 ?c3 ?c4; (case kA => exact rfl); (case kF => exact rfl); (case kK => assumption); (case k1 => k_asm); (case k2 => k_asm); (case k3 => k_asm); (case k4 => k_asm); (case k5 => k_asm); (case xb => assumption); (case tb => assumption); (case dd => assumption); (case t0 => assumption); (case k6 => k_is); (case k7 => k_is); (case k8 => ktr_room); (case k9 => exact BindsTo.of_eq (by kernel_rfl)); (case kB => exact rfl); (case kN => decide +kernel); (case c2 => exact rfl); (case c3 => exact rfl); (case c4 => exact rfl); k_whole; intro g' L' h' tk' cells' FG' F' N' Y' B' X' T' l1 D' S')
  have hY := PyProof.Rows.CellsAre.two Y'
  obtain ⟨o2, o1, hE, d2, d1⟩ := hY
  subst hE; clear Y'
  obtain ⟨la9, lb9⟩ : @LT.lt Nat _ src L' ∧ @LT.lt Nat _ 241 L' := ⟨l1 (src, o) (.head _), l1 (241, tabObj ps) (.tail _ (.head _))⟩
  have lc9 : ∀ p ∈ codes ++ news, p.1 < L' := fun p hp => l1 p (.tail _ (.tail _ hp))
  have f1 : ∀ p ∈ codes ++ news, p.1 ≠ L' + 1 := fun p hp => Nat.ne_of_lt (Nat.lt_of_lt_of_le (lc9 p hp) (Nat.le_add_right _ _))
  have f2 : ∀ p ∈ codes ++ news, p.1 ≠ L' + 2 := fun p hp => Nat.ne_of_lt (Nat.lt_of_lt_of_le (lc9 p hp) (Nat.le_add_right _ _))
  replace d1 : o1.data = .cell (some (.str xk tkk)) := d1
  replace d2 : o2.data = .cell none := d2
  have F1 : Fr g' L' h' (fun y => if y = PySem.Str.ofString "source" then some (Value.ref src) else none) := F'
  have N1 : News g' L' h' ((L' + 2, o2) :: (L' + 1, o1) :: (src, o) :: (241, tabObj ps) :: (codes ++ news)) := N'
  have l1s := l1
  clear F' N' l1
  have hkn := KN.some hkv
  have hbd := hkv.bds
  (try dsimp only); (try k_lift B')
  refine opQE (by passes_own) (fun Q9 E9 z9 y9 p9 => ?_)
  refine segO (fun s' => HeldC (fun G9 => ∀ h tk tl th, s' = ⟨h, gS, dS, tk, oS⟩ → Fr g' L' h (fun y => if y = PySem.Str.ofString "high" then some (Value.int hi th) else if y = PySem.Str.ofString "low" then some (Value.int lo tl) else if y = PySem.Str.ofString "source" then some (Value.ref src) else none) → News g' L' h ((L' + 2, o2) :: (L' + 1, o1) :: (src, o) :: (241, tabObj ps) :: (codes ++ news)) → G9)) (fun Q9 z9 => ?_) ?_
  · k_steps
    (try (refine pop_ (by assumption) ?_))
    exact HeldC.mk fun G9 k9 => k9 _ _ _ _ rfl (by k_asm) (by refine' news_sub ?N ?S; (case N => k_asm); (case S => (repeat (first | with_reducible exact sub_refl | with_reducible exact sub_nil | ((with_reducible apply sub_cons); (focus k_mem)) | with_reducible apply sub_tail))))
  clear F1 N1
  intro s' h9
  with_reducible refine heldC_ h9 ?_
  clear h9
  intro h tk tl th e91 F N
  subst e91
  (try dsimp only)
  refine segO (fun s' => HeldC (fun G9 => ∀ h tk h₀ mi on ps' codes', s' = ⟨h, gS, dS, tk, oS⟩ → Fr h₀ L' h (fun y => if y = PySem.Str.ofString "is_in" then mi else if y = PySem.Str.ofString "high" then some (Value.int hi th) else if y = PySem.Str.ofString "low" then some (Value.int lo tl) else if y = PySem.Str.ofString "source" then some (Value.ref src) else none) → News h₀ L' h ((L' + 2, on) :: (L' + 1, o1) :: (src, o) :: (241, tabObj ps') :: (codes' ++ news)) → TabInv (PySem.Str.ofString "_law_types_right.<locals>.<lambda>") 241 ps' codes' → (∀ q ∈ codes', q ∈ codes ∨ @LT.lt Nat _ (L' + 2) q.1) → Below (ktrTop dp un gd cn cs L fa ccd cl outer) base (envX cn cs L fa ccd cl :: outer) h₀ → (Mine.hd.heap_39 w.params).In h₀ → Top p loose mean mg mb h₀ → KtsDicts (frs (envX cn cs L fa ccd cl :: outer)) h₀ → KtsTurn (frs (envX cn cs L fa ccd cl :: outer)) g' h₀ → G9)) (fun Q9 z9 => ?_) ?_
  · k_steps
    refine' forInv_ (J := (fun l vs k h₀ m rest => HeldC (fun G9 => ∀ mi on ov ps' codes', m = (fun y => if y = PySem.Str.ofString "is_in" then mi else if y = PySem.Str.ofString "high" then some (Value.int hi th) else if y = PySem.Str.ofString "low" then some (Value.int lo tl) else if y = PySem.Str.ofString "source" then some (Value.ref src) else none) → Below (ktrTop dp un gd cn cs L fa ccd cl outer) base (envX cn cs L fa ccd cl :: outer) h₀ → (Mine.hd.heap_39 w.params).In h₀ → Top p loose mean mg mb h₀ → KtsDicts (frs (envX cn cs L fa ccd cl :: outer)) h₀ → KtsTurn (frs (envX cn cs L fa ccd cl :: outer)) g' h₀ → on.data = .cell ov → TabInv (PySem.Str.ofString "_law_types_right.<locals>.<lambda>") 241 ps' codes' → (∀ q ∈ codes', q ∈ codes ∨ @LT.lt Nat _ l q.1) → @LT.lt Nat _ (L' + 2) l → (∀ v ∈ vs, ∃ n t, v = Value.int n t ∧ (-9223372036854775809 ≤ n ∧ n ≤ 18446744073709551616)) → rest = (l, listOf vs.toArray k) :: ((L' + 2, on) :: (L' + 1, o1) :: (src, o) :: (241, tabObj ps') :: (codes' ++ news)) → G9))) ?N0 ?hv ?cj9 ?hJ9 ?F ?N ?turn9 ?fin9
    case F => exact fr_none (PySem.Str.ofString "is_in") (by k_asm)
    case N0 => k_asm
    case hv => k_mem
    case cj9 => exact HeldC.mk fun G9 k9 => k9 _ _ _ _ _ rfl (by assumption) (by assumption) (by assumption) (by assumption) (by assumption) d2 (by assumption) (fun q hq => .inl hq) (ltN (by omega)) (List.forall_mem_cons.mpr ⟨⟨_, _, rfl, by omega, by omega⟩, List.forall_mem_cons.mpr ⟨⟨_, _, rfl, by omega, by omega⟩, List.forall_mem_cons.mpr ⟨⟨_, _, rfl, by omega, by omega⟩, List.forall_mem_cons.mpr ⟨⟨_, _, rfl, by omega, by omega⟩, List.forall_mem_nil _⟩⟩⟩⟩) rfl
    case N => refine' news_sub ?N ?S; (case N => k_asm); (case S => (repeat (first | with_reducible exact sub_refl | with_reducible exact sub_nil | ((with_reducible apply sub_cons); (focus k_mem)) | with_reducible apply sub_tail)))
    case hJ9 =>
      intro h₀ m rest h9
      with_reducible refine heldC_ h9 ?_
      clear h9
      intro mi on ov ps' codes' e91 z1 z2 z3 z4 z5 z6 z7 z8 z9 z10 e92
      subst e91 e92
      exact .head _
    case fin9 =>
      intro h₀ m rest h tk h9
      with_reducible refine heldC_ h9 ?_
      clear h9
      intro mi on ov ps' codes' e91 z1 z2 z3 z4 z5 z6 z7 z8 z9 z10 e92
      subst e91 e92
      intro F N
      (try (refine pop_ (by assumption) ?_))
      exact HeldC.mk fun G9 k9 => k9 _ _ _ _ _ _ _ rfl F (fun q hq => N q (.tail _ hq)) z7 (fun q hq => (z8 q hq).imp id (Nat.lt_trans z9)) z1 z2 z3 z4 z5
    case turn9 =>
      intro I h₀ m rest oI v h tk hv hJ F N hoff hlt
      refine opT (fun Q9 z9 => ?_)
      with_reducible refine heldC_ hJ ?_
      clear hJ
      intro mi on ov ps' codes' e91 z1 z2 z3 z4 z5 z6 z7 z8 z9 z10 e92
      subst e91 e92
      obtain ⟨n, tn, rfl, hn⟩ := z10 v hv
      have hlI := hlt _ (.head _)
      replace hlI := ltN hlI
      have q2 := codes_off z8 f2 (Nat.le_of_lt z9)
      have qI : ∀ p ∈ codes' ++ news, p.1 ≠ I := fun p hp => hoff p (.tail _ (.tail _ (.tail _ (.tail _ (.tail _ hp)))))
      have hp' := hp
      (try dsimp only)
      (try dsimp only at hlI)
      have mark := MT.mk
      by_cases hb : lo ≤ n ∧ n ≤ hi
      rotate_left
      by_cases hb1 : lo ≤ n
      have hb2 : ¬ n ≤ hi := by omega
      all_goals k_steps
      all_goals exact turnF_mk rfl (HeldC.mk fun G9 k9 => k9 _ _ _ _ _ rfl (by assumption) (by assumption) (by assumption) (by assumption) (by assumption) (by assumption) (by assumption) (codes_grow z8 (by assumption) (by k_mem)) z9 z10 rfl) (fr_twice (by k_asm)) (by refine' news_sub ?N ?S; (case N => k_asm); (case S => (repeat (first | with_reducible exact sub_refl | with_reducible exact sub_nil | ((with_reducible apply sub_cons); (focus k_mem)) | with_reducible apply sub_tail)))) (List.forall_mem_cons.mpr ⟨by k_ne, List.forall_mem_cons.mpr ⟨by k_ne, List.forall_mem_cons.mpr ⟨by k_ne, List.forall_mem_cons.mpr ⟨by k_ne, List.forall_mem_cons.mpr ⟨by k_ne, off_step (by assumption) (by k_mem) qI⟩⟩⟩⟩⟩)
  clear F N d2 hI FG' B' X' T' D' S'
  intro s' h9
  with_reducible refine heldC_ h9 ?_
  clear h9
  intro h tk h₀ mi on ps' codes' e91 F N x3 x4 x5 x6 x7 x8 x9
  subst e91
  (try dsimp only)
  have y0 := codes_off x4 hs (Nat.le_trans (Nat.le_of_lt la9) (Nat.le_add_right _ _))
  refine seg0 ?_
  k_steps
  refine .mk ?_
  (try dsimp only)
  refine segO (fun s' => HeldC (fun G9 => ∀ h tk ms mt ma mb mr, s' = ⟨h, gS, dS, tk, oS⟩ → Fr h₀ L' h (fun y => if y = PySem.Str.ofString "sort" then ms else if y = PySem.Str.ofString "told" then mt else if y = PySem.Str.ofString "word" then ma else if y = PySem.Str.ofString "value" then mb else if y = PySem.Str.ofString "rows" then mr else if y = PySem.Str.ofString "is_in" then mi else if y = PySem.Str.ofString "high" then some (Value.int hi th) else if y = PySem.Str.ofString "low" then some (Value.int lo tl) else if y = PySem.Str.ofString "source" then some (Value.ref src) else none) → News h₀ L' h ((src, o) :: (241, tabObj ps') :: (codes' ++ news)) → G9)) (fun Q9 z9 => ?_) ?_
  · k_steps
    refine' forInvL_ (J := (fun l vs k R m => (∃ ms mt ma mb mr, m = (fun y => if y = PySem.Str.ofString "sort" then ms else if y = PySem.Str.ofString "told" then mt else if y = PySem.Str.ofString "word" then ma else if y = PySem.Str.ofString "value" then mb else if y = PySem.Str.ofString "rows" then mr else if y = PySem.Str.ofString "is_in" then mi else if y = PySem.Str.ofString "high" then some (Value.int hi th) else if y = PySem.Str.ofString "low" then some (Value.int lo tl) else if y = PySem.Str.ofString "source" then some (Value.ref src) else none)) ∧ (∀ q ∈ ((src, o) :: (241, tabObj ps') :: (codes' ++ news)), q ∈ R) ∧ (∀ v ∈ vs, RowAt R v))) ?N9 ?hv9 ?F9 ?cj9 ?turn9 ?fin9
    case N9 => k_asm
    case hv9 => k_mem
    case F9 => exact fr_none (PySem.Str.ofString "sort") (fr_none (PySem.Str.ofString "told") (fr_none (PySem.Str.ofString "word") (fr_none (PySem.Str.ofString "value") (by k_asm))))
    case cj9 => exact ⟨⟨_, _, _, _, _, rfl⟩, (by (repeat (first | with_reducible exact sub_refl | with_reducible exact sub_nil | ((with_reducible apply sub_cons); (focus k_mem)) | with_reducible apply sub_tail))), List.forall_mem_cons.mpr ⟨⟨_, _, _, _, rfl, by k_mem, .t⟩, List.forall_mem_cons.mpr ⟨⟨_, _, _, _, rfl, by k_mem, .i _⟩, List.forall_mem_cons.mpr ⟨⟨_, _, _, _, rfl, by k_mem, .b _⟩, List.forall_mem_nil _⟩⟩⟩⟩
    case fin9 =>
      rintro R m h tk ⟨⟨ms, mt, ma, mb, mr, rfl⟩, hR, hrow⟩ F N
      (try (refine pop_ (by assumption) ?_))
      exact HeldC.mk fun G9 k9 => k9 _ _ _ _ _ _ _ rfl F (fun q hq => N q (hR q hq))
    case turn9 =>
      intro R I m oI v h tk hv hJ9 F N hoff
      refine opT (fun Q9 z9 => ?_)
      obtain ⟨⟨ms, mt, ma, mb, mr, rfl⟩, hR, hrow⟩ := hJ9
      obtain ⟨r, val, word, tw, rfl, hr, hk9⟩ := hrow v hv
      have hr2 : (r, _) ∈ (I, oI) :: R := .tail _ hr
      (try dsimp only)
      k_steps
      refine' forInvL_ (J := (fun l2 vs2 k2 R2 m => (∃ ms2 mt2, m = (fun y => if y = PySem.Str.ofString "sort" then ms2 else if y = PySem.Str.ofString "told" then mt2 else if y = PySem.Str.ofString "word" then some (Value.str word tw) else if y = PySem.Str.ofString "value" then some val else if y = PySem.Str.ofString "sort" then ms else if y = PySem.Str.ofString "told" then mt else if y = PySem.Str.ofString "word" then ma else if y = PySem.Str.ofString "value" then mb else if y = PySem.Str.ofString "rows" then mr else if y = PySem.Str.ofString "is_in" then mi else if y = PySem.Str.ofString "high" then some (Value.int hi th) else if y = PySem.Str.ofString "low" then some (Value.int lo tl) else if y = PySem.Str.ofString "source" then some (Value.ref src) else none)) ∧ (∀ q ∈ (I, oI) :: R, q ∈ R2) ∧ (∀ v ∈ vs2, ToldAt v))) ?N8 ?hv8 ?F8 ?cj8 ?turn8 ?fin8
      case N8 => k_asm
      case hv8 => k_mem
      case F8 => exact fr_none (PySem.Str.ofString "sort") (fr_none (PySem.Str.ofString "told") (by k_asm))
      case cj8 => exact ⟨⟨_, _, rfl⟩, (by (repeat (first | with_reducible exact sub_refl | with_reducible exact sub_nil | ((with_reducible apply sub_cons); (focus k_mem)) | with_reducible apply sub_tail))), List.forall_mem_cons.mpr ⟨⟨_, _, rfl, .b⟩, List.forall_mem_cons.mpr ⟨⟨_, _, rfl, .s⟩, List.forall_mem_nil _⟩⟩⟩
      case fin8 =>
        rintro R2 m h tk ⟨⟨ms2, mt2, rfl⟩, hR2, htold⟩ F N
        (try dsimp only)
        k_steps
        exact ⟨_, _, _, rfl, ⟨⟨_, _, _, _, _, rfl⟩, hR, hrow⟩, fr_norm4 (by k_asm), news_sub (by k_asm) (by repeat (first | with_reducible assumption | with_reducible apply sub_tail))⟩
      case turn8 =>
        intro R2 I2 m oI2 v h tk hv hJ9 F N hoff
        refine opT (fun Q9 z9 => ?_)
        obtain ⟨⟨ms2, mt2, rfl⟩, hR2, htold⟩ := hJ9
        obtain ⟨xt, tt, rfl, hto⟩ := htold v hv
        (try dsimp only)
        k_steps
        refine' forInvL_ (J := (fun l1 vs1 k1 R1 m => (∃ ms1, m = (fun y => if y = PySem.Str.ofString "sort" then ms1 else if y = PySem.Str.ofString "told" then some (Value.str xt tt) else if y = PySem.Str.ofString "sort" then ms2 else if y = PySem.Str.ofString "told" then mt2 else if y = PySem.Str.ofString "word" then some (Value.str word tw) else if y = PySem.Str.ofString "value" then some val else if y = PySem.Str.ofString "sort" then ms else if y = PySem.Str.ofString "told" then mt else if y = PySem.Str.ofString "word" then ma else if y = PySem.Str.ofString "value" then mb else if y = PySem.Str.ofString "rows" then mr else if y = PySem.Str.ofString "is_in" then mi else if y = PySem.Str.ofString "high" then some (Value.int hi th) else if y = PySem.Str.ofString "low" then some (Value.int lo tl) else if y = PySem.Str.ofString "source" then some (Value.ref src) else none)) ∧ (∀ q ∈ (I2, oI2) :: R2, q ∈ R1) ∧ (∀ v ∈ vs1, SortAt R1 xt v))) ?N7 ?hv7 ?F7 ?cj7 ?turn7 ?fin7
        case N7 => k_asm
        case hv7 => k_mem
        case F7 => exact fr_none (PySem.Str.ofString "sort") (by k_asm)
        case cj7 => exact ⟨⟨_, rfl⟩, (by (repeat (first | with_reducible exact sub_refl | with_reducible exact sub_nil | ((with_reducible apply sub_cons); (focus k_mem)) | with_reducible apply sub_tail))), List.forall_mem_cons.mpr ⟨⟨_, _, rfl, by k_mem, .one _⟩, List.forall_mem_cons.mpr ⟨⟨_, _, rfl, by k_mem, .two _ _⟩, List.forall_mem_nil _⟩⟩⟩
        case fin7 =>
          rintro R1 m h tk ⟨⟨ms1, rfl⟩, hR1, hsort⟩ F N
          (try dsimp only)
          k_steps
          exact ⟨_, _, _, rfl, ⟨⟨_, _, rfl⟩, hR2, htold⟩, fr_norm2 (by k_asm), news_sub (by k_asm) hR1⟩
        case turn7 =>
          intro R1 I1 m oI1 v h tk hv hJ9 F N hoff
          refine opT (fun Q9 z9 => ?_)
          obtain ⟨⟨ms1, rfl⟩, hR1, hsort⟩ := hJ9
          obtain ⟨rs, xs, rfl, hrs, hso⟩ := hsort v hv
          have hrs2 : (rs, _) ∈ (I1, oI1) :: R1 := .tail _ hrs
          (try dsimp only)
          k_steps
          exact ⟨_, _, _, rfl, ⟨⟨_, rfl⟩, hR1, hsort⟩, fr_twice (by k_asm), by k_asm⟩
  (try clear F); (try clear N)
  intro s' h9
  with_reducible refine heldC_ h9 ?_
  clear h9
  intro h tk ms mt ma mb mr e91 F N
  subst e91
  (try dsimp only)
  refine seg0 ?_
  k_steps
  refine .mk ?_
  (try dsimp only)
  refine segO (fun s' => HeldC (fun G9 => ∀ h tk, ∀ m5 : PySem.Str → Option Value, ∀ o' r t b, s' = ⟨h, gS, dS, tk, oS⟩ → Fr h₀ L' h (fun y => if y = PySem.Str.ofString "rune" then some (Value.int r t) else m5 y) → News h₀ L' h ((src, o') :: (241, tabObj ps') :: (codes' ++ news)) → SrcO o' → RuneOf r b → G9)) (fun Q9 z9 => ?_) ?_
  · k_steps
    (try (refine pop_ (by assumption) ?_))
    exact HeldC.mk fun G9 k9 => k9 _ _ _ _ _ _ _ rfl (by k_asm) (by refine' news_sub ?N ?S; (case N => k_asm); (case S => (repeat (first | with_reducible exact sub_refl | with_reducible exact sub_nil | ((with_reducible apply sub_cons); (focus k_mem)) | with_reducible apply sub_tail)))) (by assumption) (by assumption)
  (try clear F); (try clear N)
  intro s' h9
  with_reducible refine heldC_ h9 ?_
  clear h9
  intro h tk m5 o' r t b e91 F N ho' hr
  subst e91
  (try dsimp only)
  k_steps
  exact leaveT_mk (by assumption) (by k_asm) (by refine' news_sub ?N ?S; (case N => k_asm); (case S => (repeat (first | with_reducible exact sub_refl | with_reducible exact sub_nil | ((with_reducible apply sub_cons); (focus k_mem)) | with_reducible apply sub_tail)))) (fun h₅ T₅ F₅ N₅ B₅ X₅ P₅ D₅ => hret _ _ _ _ _ ⟨rfl, o', ps', codes', by assumption, by assumption, codes_lt l1s x4, rfl⟩ T₅ F₅ N₅ B₅ X₅ P₅ D₅)

end
end

end

-- group 9
section

-- LR
section
theorem start_LR : True := by
  w_top off
  k_with_none
  (k_with "eval Constant str" => refine kstr ?_)
  (k_with "eval Constant int" => refine kint ?_)
  (k_with "eval Constant bytes" => refine kbyt ?_)
  (k_with "binaryOp Add int int" => with_reducible refine kadd ?_)
  (k_with "binaryOp Sub int int" => with_reducible refine ksub ?_)
  (k_with "unaryOp USub int" => with_reducible refine kneg ?_)
  (k_with "storeName" => (k_here; k_dflt (refine kstL (by k_asm) (by k_asm) ?_ (rfl) (rfl); k_whole; intro h9 F9 N9; (try k_sweep))))
  (k_with "newTuple" => (k_here; k_dflt (refine ktuK (by k_asm) (by k_asm) ?_ (by kmk_size)); intro D7 h7 F7 N7 l7; (try k_lt l7); (try k_sweep)))
  (k_with "newList" => (k_here; k_dflt (refine kltK (by k_asm) (by k_asm) ?_ (by size_fits)); intro D7 h7 F7 N7 l7; (try k_lt l7); (try k_sweep)))
  (k_with "steps9" => repeat' (first | (k_unfold; (try dsimp only)) | (k_end; wrow_close) | (walk1 <;> (try dsimp only)) | (dsimp only; walk1) | (leave1; walk_say "STEP leave1"; try dsimp only) | (with_reducible refine popN (by assumption) ?_) | (with_reducible refine popR (by assumption) ?_) | ((refine pop_ (by assumption) ?_); (try dsimp only)) | fail "no step"))
  (k_with "all9" => focus ((repeat (first | exact List.forall_mem_nil _ | with_reducible assumption | (refine List.forall_mem_cons.mpr ⟨by k_ne, ?_⟩))); done))
  (k_with "room9" => first | exact rl1 (by with_reducible assumption) (Nat.le_of_ble_eq_true rfl) | exact rl0 (by with_reducible assumption) (Nat.le_of_ble_eq_true rfl) | exact rl2 (by with_reducible assumption) (Nat.le_of_ble_eq_true rfl) | exact rlz (by assumption))
  (k_with "ne9" => (refine neN ?_; (try dsimp only); first | (refine Nat.ne_of_lt ?_; focus ((repeat (first | with_reducible assumption | exact cj0 (by with_reducible assumption) | exact cj1 (by with_reducible assumption) | exact cj2 (by with_reducible assumption) | exact cj3 (by with_reducible assumption) | exact cj4 (by with_reducible assumption) | exact cj5 (by with_reducible assumption) | exact cj6 (by with_reducible assumption) | exact cj7 (by with_reducible assumption) | exact cj8 (by with_reducible assumption) | exact cj9 (by with_reducible assumption) | exact cj10 (by with_reducible assumption) | exact cj11 (by with_reducible assumption) | exact cj12 (by with_reducible assumption) | exact cj13 (by with_reducible assumption) | exact cj14 (by with_reducible assumption) | exact cj15 (by with_reducible assumption) | (refine lt_tr (by with_reducible assumption) ?_))); done)) | (refine Nat.ne_of_gt ?_; focus ((repeat (first | with_reducible assumption | exact cj0 (by with_reducible assumption) | exact cj1 (by with_reducible assumption) | exact cj2 (by with_reducible assumption) | exact cj3 (by with_reducible assumption) | exact cj4 (by with_reducible assumption) | exact cj5 (by with_reducible assumption) | exact cj6 (by with_reducible assumption) | exact cj7 (by with_reducible assumption) | exact cj8 (by with_reducible assumption) | exact cj9 (by with_reducible assumption) | exact cj10 (by with_reducible assumption) | exact cj11 (by with_reducible assumption) | exact cj12 (by with_reducible assumption) | exact cj13 (by with_reducible assumption) | exact cj14 (by with_reducible assumption) | exact cj15 (by with_reducible assumption) | (refine lt_tr (by with_reducible assumption) ?_))); done))))
  (k_with "mem9" => focus ((repeat (first | with_reducible assumption | exact List.mem_append_left _ (by with_reducible assumption) | exact List.mem_append_right _ (by with_reducible assumption) | exact List.Mem.head _ | refine List.Mem.tail _ ?_)); done))
  trivial

section
variable {prog : Program} {w : World} {A : Around} {E : Value → Shared → Prop} {s : Shared} {env : Env} {x : PySem.Str} {px : Pos} {body : List Stmt} {Q : Flow → Shared → Prop}

/-- a for over a range of a few, by what holds between the turns; the ground may turn -/
def ForRan (prog : Program) (w : World) (A : Around) (env : Env) (target : PySem.Expr) (body : List Stmt) (Q : Flow → Shared → Prop) (E : Value → Shared → Prop) (xv : Value) (s₁ : Shared) : Prop :=
  ∃ (r : Addr) (b : Int) (t u v : Tok) (h₀ : Heap) (m : PySem.Str → Option Value) (news : List (Addr × Obj)) (J : Heap → (PySem.Str → Option Value) → List (Addr × Obj) → Prop), xv = .ref r ∧ IsRange s₁.heap r 0 b 1 t u v ∧ 0 ≤ b ∧ b ≤ 10 ∧ Fr h₀ env.locals s₁.heap m ∧ News h₀ env.locals s₁.heap news ∧ J h₀ m news ∧
    (∀ I h₀ m rest oI k tkk h tk, 0 ≤ k → k < b → J h₀ m rest → Fr h₀ env.locals h m → News h₀ env.locals h ((I, oI) :: rest) → (∀ p ∈ rest, p.1 ≠ I) → (∀ p ∈ news, p.1 < I) →
      wpAny (model prog w) A (assign target env (.int k tkk)) (fun _ s₂ => wpAny (model prog w) A (execs body env) (fun f s₃ => match f with
        | .next => TurnF env.locals s₁ I oI J s₃
        | .cont => TurnF env.locals s₁ I oI J s₃
        | .brk => Q .next s₃
        | .ret v => Q (.ret v) s₃) E s₂) E { s₁ with heap := h, toks := tk }) ∧
    (∀ h₀ m rest h tk, J h₀ m rest → Fr h₀ env.locals h m → News h₀ env.locals h rest → Q .next { s₁ with heap := h, toks := tk })

theorem ran_size {b : Int} (h0 : 0 ≤ b) : Builtin.Range.rangeSize 0 b 1 = b := by
  unfold Builtin.Range.rangeSize
  split <;> split <;> omega
theorem ran_small : ∀ n : Fin 11, Builtin.Range.small 0 (n.val : Int) 1 = true := by decide +kernel
abbrev ranIt (x left : Int) : Obj := { cls := .type "range_iterator", dict := none, data := .fields #[rawInt x, rawInt left, rawInt 1], slots := #[] }

def RanAt (L : Addr) (s₁ : Shared) (I : Addr) (b : Int) (J : Heap → (PySem.Str → Option Value) → List (Addr × Obj) → Prop) (n : Nat) (s' : Shared) : Prop :=
  HeldC (fun G => ∀ (i : Nat) (h : Heap) (tk : Tok) (h₀ : Heap) (m : PySem.Str → Option Value) (rest : List (Addr × Obj)), n = b.toNat + 1 - i → i ≤ b.toNat → s' = { s₁ with heap := h, toks := tk } → J h₀ m rest → Fr h₀ L h m → News h₀ L h ((I, ranIt (i : Int) (b - i)) :: rest) → (∀ p ∈ rest, p.1 ≠ I) → G)
theorem For_ran {iter : PySem.Expr} {pos : Pos} (h : wpAny (model prog w) A (eval iter env) (fun xv s₁ => ForRan prog w A env (.Name x px) body Q E xv s₁) E s) (hh : A.handled = none)
    (hs : ∀ x, foldedSetIterable iter env x = pure x := by intro _; rfl) (hE : PassesOwn (model prog w) A env E := by passes_own) :
    wpAny (model prog w) A (exec (.For (.Name x px) iter body [] pos) env) Q E s := by
  refine wpAny_For (wpAny_mono h (fun xv s₁ h₁ => ?_) fun _ _ e => e) hs
  obtain ⟨r, b, t, u, v, h₀, m, news, J, rfl, hr, hb0, hb10, F, N, j, turn, fin⟩ := h₁
  have nI : ∀ q ∈ news, q.1 < s₁.heap.objs.size := fun q hq => Heap.lt_size (N q hq).1
  have hsm : Builtin.Range.small 0 b 1 = true := by
    have := ran_small ⟨b.toNat, by omega⟩
    rwa [show ((b.toNat : Nat) : Int) = b by omega] at this
  refine wpAny_pyIter_range hr hsm ?_
  rw [ran_size hb0]
  have F0 := F.push (ranIt 0 b)
  have N0 := News.push F N (ranIt 0 b)
  change codeAny _ _ _ _ { s₁ with heap := s₁.heap.push (ranIt 0 b) }
  generalize s₁.heap.push (ranIt 0 b) = hp at *
  generalize s₁.heap.objs.size = I at *
  refine codeAny_forLoop_any (fun n s' => RanAt env.locals s₁ I b J n s') ?_ (b.toNat + 1)
    (HeldC.mk fun G k9 => k9 0 hp s₁.toks h₀ m news rfl (Nat.zero_le _) rfl j F0 (by simpa using N0) (fun p hp => Nat.ne_of_lt (nI p hp)))
  clear F0 N0 j F N
  intro n s' h9
  unfold RanAt at h9
  with_reducible refine heldC_ h9 ?_
  clear h9
  intro i h tk h₀ m rest e91 hi e92 j F N off
  subst e91 e92
  have nIo := N (I, ranIt (i : Int) (b - i)) (.head _)
  by_cases hlt : i < b.toNat
  · refine wpAny_pyNext_range_item (x := (i : Int)) (left := b - i) (step := 1) nIo.1 (by omega) fun h' hit hs' => ?_
    refine wpAny_pure ?_
    have hit' : h'.get? I = some (ranIt ((i + 1 : Nat) : Int) (b - (i + 1 : Nat))) := by
      have e2 : b - ((i + 1 : Nat) : Int) = b - (i : Int) - 1 := by omega
      have e1 : ((i + 1 : Nat) : Int) = (i : Int) + 1 := by omega
      rw [e1] at e2 ⊢
      rw [e2]
      exact hit
    refine wpAny_mono (turn I h₀ m rest _ (i : Int) _ h' _ (by omega) (by omega) j (fr_ext F hs'.extBut nIo.2.1 nIo.2.2) (news_ext N off hs'.extBut hit') off nI) (fun _ s₂ h₂ => wpAny_mono h₂ (fun f s₃ h₃ => ?_) fun _ _ e => hE _ _ e) fun _ _ e => hE _ _ e
    have again : TurnF env.locals s₁ I (ranIt ((i + 1 : Nat) : Int) (b - (i + 1 : Nat))) J s₃ → ∃ n', n' < b.toNat + 1 - i ∧ RanAt env.locals s₁ I b J n' s₃ := by
      rintro ⟨h3, tk3, g3, m3, rest3, rfl, j3, F3, N3, off3⟩
      exact ⟨b.toNat + 1 - (i + 1), by omega, HeldC.mk fun G k9 => k9 (i + 1) h3 tk3 g3 m3 rest3 rfl hlt rfl j3 F3 N3 off3⟩
    cases f with
    | next => exact again h₃
    | cont => exact again h₃
    | brk => exact h₃
    | ret v => exact h₃
  · refine wpAny_pyNext_range_end hh (x := (i : Int)) (left := b - i) (step := 1) nIo.1 (by omega) fun h' hx => ?_
    exact wpAny_execs_nil (fin h₀ m rest h' tk j (fr_ext F hx nIo.2.1 nIo.2.2) fun q hq => ⟨hx _ _ (off q hq) (N q (.tail _ hq)).1, (N q (.tail _ hq)).2⟩)
theorem forRan_ {target : PySem.Expr} {J : Heap → (PySem.Str → Option Value) → List (Addr × Obj) → Prop} {s₁ : Shared} {r : Addr} {b : Int} {t u v : Tok} {h₀ : Heap} {m : PySem.Str → Option Value} {news : List (Addr × Obj)}
    (hr : IsRange s₁.heap r 0 b 1 t u v) (hb : 0 ≤ b) (hb2 : b ≤ 10) (F : Fr h₀ env.locals s₁.heap m) (N : News h₀ env.locals s₁.heap news) (j : J h₀ m news)
    (turn : ∀ I h₀ m rest oI k tkk h tk, 0 ≤ k → k < b → J h₀ m rest → Fr h₀ env.locals h m → News h₀ env.locals h ((I, oI) :: rest) → (∀ p ∈ rest, p.1 ≠ I) → (∀ p ∈ news, p.1 < I) →
      wpAny (model prog w) A (assign target env (.int k tkk)) (fun _ s₂ => wpAny (model prog w) A (execs body env) (fun f s₃ => match f with
        | .next => TurnF env.locals s₁ I oI J s₃
        | .cont => TurnF env.locals s₁ I oI J s₃
        | .brk => Q .next s₃
        | .ret v => Q (.ret v) s₃) E s₂) E { s₁ with heap := h, toks := tk })
    (fin : ∀ h₀ m rest h tk, J h₀ m rest → Fr h₀ env.locals h m → News h₀ env.locals h rest → Q .next { s₁ with heap := h, toks := tk }) :
    ForRan prog w A env target body Q E (.ref r) s₁ := ⟨r, b, t, u, v, h₀, m, news, J, rfl, hr, hb, hb2, F, N, j, turn, fin⟩
end
end

-- LW
section
theorem start_LW : True := by
  w_top off
  k_with_none
  (k_with "eval Constant str" => refine kstr ?_)
  (k_with "eval Constant int" => refine kint ?_)
  (k_with "eval Constant bytes" => refine kbyt ?_)
  (k_with "binaryOp Add int int" => with_reducible refine kadd ?_)
  (k_with "binaryOp Sub int int" => with_reducible refine ksub ?_)
  (k_with "unaryOp USub int" => with_reducible refine kneg ?_)
  (k_with "storeName" => (k_here; k_dflt (refine kstL (by k_asm) (by k_asm) ?_ (rfl) (rfl); k_whole; intro h9 F9 N9; (try k_sweep))))
  (k_with "newTuple" => (k_here; k_dflt (refine ktuK (by k_asm) (by k_asm) ?_ (by kmk_size)); intro D7 h7 F7 N7 l7; (try k_lt l7); (try k_sweep)))
  (k_with "newList" => (k_here; k_dflt (refine kltK (by k_asm) (by k_asm) ?_ (by size_fits)); intro D7 h7 F7 N7 l7; (try k_lt l7); (try k_sweep)))
  (k_with "steps9" => repeat' (first | (k_unfold; (try dsimp only)) | (k_end; wrow_close) | (walk1 <;> (try dsimp only)) | (dsimp only; walk1) | (leave1; walk_say "STEP leave1"; try dsimp only) | (with_reducible refine popN (by assumption) ?_) | (with_reducible refine popR (by assumption) ?_) | ((refine pop_ (by assumption) ?_); (try dsimp only)) | fail "no step"))
  (k_with "all9" => focus ((repeat (first | exact List.forall_mem_nil _ | with_reducible assumption | (refine List.forall_mem_cons.mpr ⟨by k_ne, ?_⟩))); done))
  (k_with "room9" => first | exact rl1 (by with_reducible assumption) (Nat.le_of_ble_eq_true rfl) | exact rl0 (by with_reducible assumption) (Nat.le_of_ble_eq_true rfl) | exact rl2 (by with_reducible assumption) (Nat.le_of_ble_eq_true rfl) | exact rlz (by assumption))
  (k_with "ne9" => (refine neN ?_; (try dsimp only); first | (refine Nat.ne_of_lt ?_; focus ((repeat (first | with_reducible assumption | exact cj0 (by with_reducible assumption) | exact cj1 (by with_reducible assumption) | exact cj2 (by with_reducible assumption) | exact cj3 (by with_reducible assumption) | exact cj4 (by with_reducible assumption) | exact cj5 (by with_reducible assumption) | exact cj6 (by with_reducible assumption) | exact cj7 (by with_reducible assumption) | exact cj8 (by with_reducible assumption) | exact cj9 (by with_reducible assumption) | exact cj10 (by with_reducible assumption) | exact cj11 (by with_reducible assumption) | exact cj12 (by with_reducible assumption) | exact cj13 (by with_reducible assumption) | exact cj14 (by with_reducible assumption) | exact cj15 (by with_reducible assumption) | (refine lt_tr (by with_reducible assumption) ?_))); done)) | (refine Nat.ne_of_gt ?_; focus ((repeat (first | with_reducible assumption | exact cj0 (by with_reducible assumption) | exact cj1 (by with_reducible assumption) | exact cj2 (by with_reducible assumption) | exact cj3 (by with_reducible assumption) | exact cj4 (by with_reducible assumption) | exact cj5 (by with_reducible assumption) | exact cj6 (by with_reducible assumption) | exact cj7 (by with_reducible assumption) | exact cj8 (by with_reducible assumption) | exact cj9 (by with_reducible assumption) | exact cj10 (by with_reducible assumption) | exact cj11 (by with_reducible assumption) | exact cj12 (by with_reducible assumption) | exact cj13 (by with_reducible assumption) | exact cj14 (by with_reducible assumption) | exact cj15 (by with_reducible assumption) | (refine lt_tr (by with_reducible assumption) ?_))); done))))
  (k_with "mem9" => focus ((repeat (first | with_reducible assumption | exact List.mem_append_left _ (by with_reducible assumption) | exact List.mem_append_right _ (by with_reducible assumption) | exact List.Mem.head _ | refine List.Mem.tail _ ?_)); done))
  trivial


theorem words_LW_71 : True := by
  (k_with "execs cons" => (first | (k_here; k_gentoks) | (k_here; k_made; walk_at "execs cons") | (k_here; k_dflt (first | refine lastO ?_ | (refine consO ?_; k_whole; intro qO9 zO9)))))
  (k_with "eval Call" => (((with_reducible show wpAny _ _ (eval (PySem.Expr.Call (PySem.Expr.Name _ _) _ [] _) _) _ _ _); k_dflt (refine Call_ ?_))))
  trivial
theorem callsB_use {Bs : Heap → Prop} {k : Nat} {w : World} {f : Addr} {vs : List Value} {news : List (Addr × Obj)} {Ret : Value → List (Addr × Obj) → Prop} {p : Program} {loose : List PySem.Str} {mean : ExcName → Option Value} {mg mb : PySem.Str → Option Value} {dp un : Nat} {gd : Option (List Code)} {cn : PySem.Str} {cs : Scope} {a : Addr} {ccd : Value} {cl : List (PySem.Str × Addr)} {outer : List Env} {A₀ : Around} {base g₀ h₀ : Heap} {L : Addr} {m : PySem.Str → Option Value} {hS : Heap} {gS : Array GenState} {dS : Drawn} {tS : Nat} {oS : OsState} {Q E : Value → Shared → Prop}
    (C : CallsB Bs k w f vs news Ret) (B : Below A₀ base outer h₀) (F : Fr h₀ L hS m) (X : (Mine.hd.heap_39 w.params).In h₀) (N : News h₀ L hS news) (T : Top p loose mean mg mb h₀) (XB : (Mine.hd.heap_39 w.params).In base) (TB : Top p loose mean mg mb base) (D : KtsDicts (frs outer) h₀) (T0 : KtsTurn (frs outer) g₀ h₀) (hB : Bs base) (hk : cs.kind = .function)
    (hd : dp + k < recursionLimit) (hu : un + 20 * k < cLine)
    (hret : ∀ v news' h' tk' h₀', Ret v news' → KtsTurn (frs outer) g₀ h₀' → Fr h₀' L h' m → News h₀' L h' news' → Below A₀ base outer h₀' → (Mine.hd.heap_39 w.params).In h₀' → Top p loose mean mg mb h₀' → KtsDicts (frs outer) h₀' → Q v ⟨h', gS, dS, tk', oS⟩) :
    wpAny (model Challenge.rw_on0013_01.row.prog w) (ktrTop dp un gd cn cs L a ccd cl outer) (call (.ref f) vs) Q E ⟨hS, gS, dS, tS, oS⟩ :=
  C _ _ _ _ _ _ _ _ _ _ _ _ _ _ _ _ _ _ _ _ _ _ _ _ _ _ _ B F X N T XB TB D T0 hB hk hd hu hret
theorem callsL_use {k : Nat} {w : World} {f l : Addr} {vs items : List Value} {news : List (Addr × Obj)} {Ret : Value → List (Addr × Obj) → Prop} {p : Program} {loose : List PySem.Str} {mean : ExcName → Option Value} {mg mb : PySem.Str → Option Value} {dp un : Nat} {gd : Option (List Code)} {cn : PySem.Str} {cs : Scope} {a : Addr} {ccd : Value} {cl : List (PySem.Str × Addr)} {outer : List Env} {A₀ : Around} {base h₀ : Heap} {L : Addr} {m : PySem.Str → Option Value} {hS : Heap} {gS : Array GenState} {dS : Drawn} {tS : Nat} {oS : OsState} {Q E : Value → Shared → Prop}
    (C : CallsL k w f vs news Ret l items) (B : Below A₀ base outer h₀) (F : Fr h₀ L hS m) (X : (Mine.hd.heap_39 w.params).In h₀) (N : News h₀ L hS news) (T : Top p loose mean mg mb h₀) (hk : cs.kind = .function)
    (hd : dp + k < recursionLimit) (hu : un + 20 * k < cLine) (hl : base.IsList l items.toArray)
    (hret : ∀ v news' h' tk', Ret v news' → Fr h₀ L h' m → News h₀ L h' news' → Q v ⟨h', gS, dS, tk', oS⟩) :
    wpAny (model Challenge.rw_on0013_01.row.prog w) (ktrTop dp un gd cn cs L a ccd cl outer) (call (.ref f) vs) Q E ⟨hS, gS, dS, tS, oS⟩ :=
  C _ _ _ _ _ _ _ _ _ _ _ _ _ _ _ _ _ _ _ _ _ _ _ _ _ _ B F X N T hk hd hu hl hret
theorem callsB_conv {Bs : Heap → Prop} {k : Nat} {w : World} {f : Addr} {vs : List Value} {n1 n2 : List (Addr × Obj)} {R R' : Value → List (Addr × Obj) → Prop} (C : CallsB Bs k w f vs n1 R) (S : ∀ q ∈ n1, q ∈ n2) (h : ∀ v n, R v n → ∃ n', (∀ q ∈ n', q ∈ n) ∧ R' v n') : CallsB Bs k w f vs n2 R' :=
  fun p loose mean mg mb dp un gd cn cs fa ccd cl outer A₀ base g₀ h₀ L m hS gS dS tS oS Q E hB hF hX hN hT hXB hTB hD hT0 hCB hk hd hu hret =>
    C p loose mean mg mb dp un gd cn cs fa ccd cl outer A₀ base g₀ h₀ L m hS gS dS tS oS Q E hB hF hX (fun q hq => hN q (S q hq)) hT hXB hTB hD hT0 hCB hk hd hu (fun v n' h' tk' h₀' r a1 a2 a3 a4 a5 a6 a7 => by
      obtain ⟨n2', s2, r2⟩ := h v n' r
      exact hret v n2' h' tk' h₀' r2 a1 a2 (fun q hq => a3 q (s2 q hq)) a4 a5 a6 a7)
theorem one_top_u {w : World} {news : List (Addr × Obj)} {src : Addr} {o : Obj} {g : Obj → List (Addr × Obj)} (U : UpdF src o news g) (ho : SrcO o) :
    CallsR 2 w 170 [.ref src, .ref 171] news (fun v n' => ∃ o', ((∃ u lo hi, KV v u lo hi) ∧ SrcO o') ∧ n' = g o') False :=
  callsR_upd U fun rest hne _ => callsR_ret (one_top_c hne ho) fun v n ⟨o', a, b, c⟩ => ⟨o', ⟨a, c⟩, b⟩
theorem all_app {a b : List (Addr × Obj)} {P : Addr × Obj → Prop} (h1 : ∀ p ∈ a, P p) (h2 : ∀ p ∈ b, P p) : ∀ p ∈ a ++ b, P p := fun p hp => (List.mem_append.mp hp).elim (h1 p) (h2 p)
theorem app_l {a b : List (Addr × Obj)} {P : Addr × Obj → Prop} (h : ∀ p ∈ a ++ b, P p) : ∀ p ∈ a, P p := fun p hp => h p (List.mem_append_left _ hp)
theorem app_r {a b : List (Addr × Obj)} {P : Addr × Obj → Prop} (h : ∀ p ∈ a ++ b, P p) : ∀ p ∈ b, P p := fun p hp => h p (List.mem_append_right _ hp)

theorem ok_grow {P : Addr × Obj → Prop} {c c' led : List (Addr × Obj)} (hc : ∀ q ∈ c, P q) (n : ∀ q ∈ c', q ∈ c ∨ ∀ q' ∈ led, @LT.lt Nat _ q'.1 q.1) (hP : ∀ q, (∀ q' ∈ led, @LT.lt Nat _ q'.1 q.1) → P q) : ∀ q ∈ c', P q := fun q hq => (n q hq).elim (hc q) (hP q)
theorem ok_weak {src I2 I : Addr} {c : List (Addr × Obj)} (h : ∀ q ∈ c, (fun q : Addr × Obj => @LT.lt Nat _ 241 q.1 ∧ q.1 ≠ src ∧ q.1 ≠ I2 ∧ q.1 ≠ I) q) : ∀ q ∈ c, (fun q : Addr × Obj => @LT.lt Nat _ 241 q.1 ∧ q.1 ≠ src ∧ q.1 ≠ I) q := fun q hq => ⟨(h q hq).1, (h q hq).2.1, (h q hq).2.2.2⟩
theorem ok_I2 {src I2 I : Addr} {c : List (Addr × Obj)} (h : ∀ q ∈ c, (fun q : Addr × Obj => @LT.lt Nat _ 241 q.1 ∧ q.1 ≠ src ∧ q.1 ≠ I2 ∧ q.1 ≠ I) q) : ∀ q ∈ c, q.1 ≠ I2 := fun q hq => (h q hq).2.2.1
theorem ok_big {src I : Addr} {c : List (Addr × Obj)} (h : ∀ q ∈ c, (fun q : Addr × Obj => @LT.lt Nat _ 241 q.1 ∧ q.1 ≠ src ∧ q.1 ≠ I) q) : ∀ q ∈ c, @LT.lt Nat _ 241 q.1 := fun q hq => (h q hq).1
theorem ok_I {src I : Addr} {c : List (Addr × Obj)} (h : ∀ q ∈ c, (fun q : Addr × Obj => @LT.lt Nat _ 241 q.1 ∧ q.1 ≠ src ∧ q.1 ≠ I) q) : ∀ q ∈ c, q.1 ≠ I := fun q hq => (h q hq).2.2
theorem permf1 {α : Type} {x s i t1 t2 t3 t4 : α} {c1 c2 c3 c4 : List α} : ∀ q ∈ s :: t1 :: (c1 ++ (x :: i :: t2 :: t3 :: t4 :: (c2 ++ (c3 ++ c4)))), q ∈ x :: s :: i :: t1 :: t2 :: t3 :: t4 :: (c1 ++ (c2 ++ (c3 ++ c4))) := by
  intro q hq; simp only [List.mem_cons, List.mem_append] at hq ⊢; grind
theorem permb1 {α : Type} {x s i t1 t2 t3 t4 : α} {c1 c2 c3 c4 : List α} : ∀ q ∈ x :: s :: i :: t1 :: t2 :: t3 :: t4 :: (c1 ++ (c2 ++ (c3 ++ c4))), q ∈ s :: t1 :: (c1 ++ (x :: i :: t2 :: t3 :: t4 :: (c2 ++ (c3 ++ c4)))) := by
  intro q hq; simp only [List.mem_cons, List.mem_append] at hq ⊢; grind
theorem permf2 {α : Type} { s i t1 t2 t3 t4 : α} {c1 c2 c3 c4 : List α} : ∀ q ∈ s :: t2 :: (c2 ++ (i :: t1 :: t3 :: t4 :: (c1 ++ (c3 ++ c4)))), q ∈ s :: i :: t1 :: t2 :: t3 :: t4 :: (c1 ++ (c2 ++ (c3 ++ c4))) := by
  intro q hq; simp only [List.mem_cons, List.mem_append] at hq ⊢; grind
theorem permb2 {α : Type} { s i t1 t2 t3 t4 : α} {c1 c2 c3 c4 : List α} : ∀ q ∈ s :: i :: t1 :: t2 :: t3 :: t4 :: (c1 ++ (c2 ++ (c3 ++ c4))), q ∈ s :: t2 :: (c2 ++ (i :: t1 :: t3 :: t4 :: (c1 ++ (c3 ++ c4)))) := by
  intro q hq; simp only [List.mem_cons, List.mem_append] at hq ⊢; grind
theorem permf3 {α : Type} { s i t1 t2 t3 t4 : α} {c1 c2 c3 c4 : List α} : ∀ q ∈ s :: t3 :: (c3 ++ (i :: t1 :: t2 :: t4 :: (c1 ++ (c2 ++ c4)))), q ∈ s :: i :: t1 :: t2 :: t3 :: t4 :: (c1 ++ (c2 ++ (c3 ++ c4))) := by
  intro q hq; simp only [List.mem_cons, List.mem_append] at hq ⊢; grind
theorem permb3 {α : Type} { s i t1 t2 t3 t4 : α} {c1 c2 c3 c4 : List α} : ∀ q ∈ s :: i :: t1 :: t2 :: t3 :: t4 :: (c1 ++ (c2 ++ (c3 ++ c4))), q ∈ s :: t3 :: (c3 ++ (i :: t1 :: t2 :: t4 :: (c1 ++ (c2 ++ c4)))) := by
  intro q hq; simp only [List.mem_cons, List.mem_append] at hq ⊢; grind
theorem permf4 {α : Type} { s i t1 t2 t3 t4 : α} {c1 c2 c3 c4 : List α} : ∀ q ∈ s :: t4 :: (c4 ++ (i :: t1 :: t2 :: t3 :: (c1 ++ (c2 ++ c3)))), q ∈ s :: i :: t1 :: t2 :: t3 :: t4 :: (c1 ++ (c2 ++ (c3 ++ c4))) := by
  intro q hq; simp only [List.mem_cons, List.mem_append] at hq ⊢; grind
theorem permb4 {α : Type} { s i t1 t2 t3 t4 : α} {c1 c2 c3 c4 : List α} : ∀ q ∈ s :: i :: t1 :: t2 :: t3 :: t4 :: (c1 ++ (c2 ++ (c3 ++ c4))), q ∈ s :: t4 :: (c4 ++ (i :: t1 :: t2 :: t3 :: (c1 ++ (c2 ++ c3)))) := by
  intro q hq; simp only [List.mem_cons, List.mem_append] at hq ⊢; grind
theorem add_kinds {prog : Program} {w : World} {A : Around} {E : Value → Shared → Prop} {s : Shared} {P : Params} {h₀ : Heap} {L b : Addr} {m : PySem.Str → Option Value} {news : List (Addr × Obj)} {c : Nat} {Q : Value → Shared → Prop} (X : (Mine.hd.heap_39 P).In h₀) (F : Fr h₀ L s.heap m) (N : News h₀ L s.heap news) (hb : (b, listOf #[.none] c) ∈ news)
    (h : ∀ D h', Fr h₀ L h' m → News h₀ L h' ((D, listOf #[.str (PySem.Str.ofString "int") 431, .str (PySem.Str.ofString "int8") 432, .str (PySem.Str.ofString "int16") 433, .str (PySem.Str.ofString "int32") 434, .str (PySem.Str.ofString "int64") 435, .str (PySem.Str.ofString "uint") 436, .str (PySem.Str.ofString "uint8") 437, .str (PySem.Str.ofString "uint16") 438, .str (PySem.Str.ofString "uint32") 439, .str (PySem.Str.ofString "uint64") 440, .none] 0) :: news) → (∀ p ∈ news, p.1 < D) → Q (.ref D) { s with heap := h' }) : wpAny (model prog w) A (binaryOp .Add (.ref 171) (.ref b)) Q E s :=
  kmk_add_lit F N (top_list X F) ⟨_, (N _ hb).1, rfl, _, rfl⟩ rfl h (by rw [sizeLine_eq]; decide)
theorem fin_div_is : spec .div (-7) 2 (-128) 127 = .int (-3) := by
  show (if (2 : Int) = 0 then Res.fault else kept (-128) 127 ((-7 : Int).tdiv 2)) = _
  rw [if_neg (by decide)]
  exact kept_is (by decide +kernel)
theorem fin_mod_is : spec .mod (-7) 2 (1 - 2 ^ 512) (2 ^ 512 - 1) = .int (-1) := by
  show (if (2 : Int) = 0 then Res.fault else kept (1 - 2 ^ 512) (2 ^ 512 - 1) (-7 - 2 * (-7 : Int).tdiv 2)) = _
  rw [if_neg (by decide)]
  exact kept_is (by decide +kernel)
theorem fr_back {g0 h₀ h : Heap} {L : Addr} {m : PySem.Str → Option Value} (T : KtsTurn (frs []) g0 h₀) (F : Fr h₀ L h m) : Fr g0 L h m :=
  ⟨F.ns, fun b o e => F.keep b o (T.other b o e (by intro z; cases z)), Nat.le_trans (Nat.le_of_eq T.size.symm) F.above⟩
theorem news_back {g0 h₀ h : Heap} {L : Addr} {news : List (Addr × Obj)} (T : KtsTurn (frs []) g0 h₀) (N : News h₀ L h news) : News g0 L h news := fun q hq => ⟨(N q hq).1, (N q hq).2.1, by
  cases z : g0.get? q.1 with
  | none => rfl
  | some o => have := T.other _ _ z (by intro z; cases z); rw [(N q hq).2.2] at this; cases this⟩
theorem fin_div {w : World} {news : List (Addr × Obj)} {to ta tb tk : Tok} : CallsR 9 w 135 [.str (PySem.Str.ofString "/") to, .int (-7) ta, .int 2 tb, .str (PySem.Str.ofString "int8") tk] news (fun v n' => (Res.int (-3)).Val v ∧ n' = news) False :=
  sure_res (binary_c (o := .div) (.some (.int8 _)) (IntMulOk.of_left (intBits_le_64 (by omega) (by omega))) (IntMulOk.of_left (intBits_le_64 (by omega) (by omega))) (by decide)) fin_div_is (by intro z; cases z)
theorem fin_mod {w : World} {news : List (Addr × Obj)} {to ta tb : Tok} : CallsR 9 w 135 [.str (PySem.Str.ofString "%") to, .int (-7) ta, .int 2 tb] news (fun v n' => (Res.int (-1)).Val v ∧ n' = news) False :=
  sure_res (mod3_c (IntMulOk.of_left (intBits_le_64 (by omega) (by omega))) (IntMulOk.of_left (intBits_le_64 (by omega) (by omega))) (by decide)) fin_mod_is (by intro z; cases z)
theorem kinds11_kn {v : Value} {t0 t1 t2 t3 t4 t5 t6 t7 t8 t9 : Tok} (h : v ∈ #[Value.str (PySem.Str.ofString "int") t0, Value.str (PySem.Str.ofString "int8") t1, Value.str (PySem.Str.ofString "int16") t2, Value.str (PySem.Str.ofString "int32") t3, Value.str (PySem.Str.ofString "int64") t4, Value.str (PySem.Str.ofString "uint") t5, Value.str (PySem.Str.ofString "uint8") t6, Value.str (PySem.Str.ofString "uint16") t7, Value.str (PySem.Str.ofString "uint32") t8, Value.str (PySem.Str.ofString "uint64") t9, .none].toList) : ∃ u lo hi, KN v u lo hi := by
  simp only [List.mem_cons, List.not_mem_nil, or_false] at h
  rcases h with rfl | rfl | rfl | rfl | rfl | rfl | rfl | rfl | rfl | rfl | rfl
  · exact ⟨_, _, _, .some (.int _)⟩
  · exact ⟨_, _, _, .some (.int8 _)⟩
  · exact ⟨_, _, _, .some (.int16 _)⟩
  · exact ⟨_, _, _, .some (.int32 _)⟩
  · exact ⟨_, _, _, .some (.int64 _)⟩
  · exact ⟨_, _, _, .some (.uint _)⟩
  · exact ⟨_, _, _, .some (.uint8 _)⟩
  · exact ⟨_, _, _, .some (.uint16 _)⟩
  · exact ⟨_, _, _, .some (.uint32 _)⟩
  · exact ⟨_, _, _, .some (.uint64 _)⟩
  · exact ⟨_, _, _, .none⟩

inductive RestB (w : World) (f : Addr) (vs : List Value) (news : List (Addr × Obj)) (p : Program) (loose : List PySem.Str) (mean : ExcName → Option Value) (mg mb : PySem.Str → Option Value) (dp un : Nat) (gd : Option (List Code)) (cn : PySem.Str) (cs : Scope) (a : Addr) (ccd : Value) (cl : List (PySem.Str × Addr)) (outer : List Env) (A₀ : Around) (base g₀ h₀ : Heap) (L : Addr) (m : PySem.Str → Option Value) (hp : Heap) (gn : Array GenState) (dr : Drawn) (tk9 : Nat) (os9 : OsState) (Q E : Value → Shared → Prop) : Prop
  | mk (Bs : Heap → Prop) (k : Nat) (Ret : Value → List (Addr × Obj) → Prop) (r0 : CallsB Bs k w f vs news Ret) (r1 : cs.kind = .function) (r2 : dp + k < recursionLimit) (r3 : un + 20 * k < cLine) (r4 : Bs base) (r5 : (∀ v news' h' tk' h₀', Ret v news' → KtsTurn (frs outer) g₀ h₀' → Fr h₀' L h' m → News h₀' L h' news' → Below A₀ base outer h₀' → (Mine.hd.heap_39 w.params).In h₀' → Top p loose mean mg mb h₀' → KtsDicts (frs outer) h₀' → Q v ⟨h', gn, dr, tk', os9⟩)) : RestB w f vs news p loose mean mg mb dp un gd cn cs a ccd cl outer A₀ base g₀ h₀ L m hp gn dr tk9 os9 Q E
theorem callsB_v {w : World} {f : Addr} {vs : List Value} {news : List (Addr × Obj)} {p : Program} {loose : List PySem.Str} {mean : ExcName → Option Value} {mg mb : PySem.Str → Option Value} {dp un : Nat} {gd : Option (List Code)} {cn : PySem.Str} {cs : Scope} {a : Addr} {ccd : Value} {cl : List (PySem.Str × Addr)} {outer : List Env} {A₀ : Around} {base g₀ h₀ : Heap} {L : Addr} {m : PySem.Str → Option Value} {hp : Heap} {gn : Array GenState} {dr : Drawn} {tk9 : Nat} {os9 : OsState} {Q E : Value → Shared → Prop}
    (B : Below A₀ base outer h₀) (F : Fr h₀ L hp m) (X : (Mine.hd.heap_39 w.params).In h₀) (N : News h₀ L hp news) (T : Top p loose mean mg mb h₀) (XB : (Mine.hd.heap_39 w.params).In base) (TB : Top p loose mean mg mb base) (D : KtsDicts (frs outer) h₀) (T0 : KtsTurn (frs outer) g₀ h₀) (H : RestB w f vs news p loose mean mg mb dp un gd cn cs a ccd cl outer A₀ base g₀ h₀ L m hp gn dr tk9 os9 Q E) : wpAny (model Challenge.rw_on0013_01.row.prog w) (ktrTop dp un gd cn cs L a ccd cl outer) (call (.ref f) vs) Q E ⟨hp, gn, dr, tk9, os9⟩ := by
  obtain ⟨Bs, k, Ret, C, hk, hd, hu, hB, h1⟩ := H
  exact callsB_use C B F X N T XB TB D T0 hB hk hd hu h1
inductive RestL (w : World) (f : Addr) (vs : List Value) (news : List (Addr × Obj)) (p : Program) (loose : List PySem.Str) (mean : ExcName → Option Value) (mg mb : PySem.Str → Option Value) (dp un : Nat) (gd : Option (List Code)) (cn : PySem.Str) (cs : Scope) (a : Addr) (ccd : Value) (cl : List (PySem.Str × Addr)) (outer : List Env) (A₀ : Around) (base h₀ : Heap) (L : Addr) (m : PySem.Str → Option Value) (hp : Heap) (gn : Array GenState) (dr : Drawn) (tk9 : Nat) (os9 : OsState) (Q E : Value → Shared → Prop) : Prop
  | mk (l : Addr) (items : List Value) (k : Nat) (Ret : Value → List (Addr × Obj) → Prop) (r0 : CallsL k w f vs news Ret l items) (r1 : cs.kind = .function) (r2 : dp + k < recursionLimit) (r3 : un + 20 * k < cLine) (r4 : base.IsList l items.toArray) (r5 : (∀ v news' h' tk', Ret v news' → Fr h₀ L h' m → News h₀ L h' news' → Q v ⟨h', gn, dr, tk', os9⟩)) : RestL w f vs news p loose mean mg mb dp un gd cn cs a ccd cl outer A₀ base h₀ L m hp gn dr tk9 os9 Q E
theorem callsL_v {w : World} {f : Addr} {vs : List Value} {news : List (Addr × Obj)} {p : Program} {loose : List PySem.Str} {mean : ExcName → Option Value} {mg mb : PySem.Str → Option Value} {dp un : Nat} {gd : Option (List Code)} {cn : PySem.Str} {cs : Scope} {a : Addr} {ccd : Value} {cl : List (PySem.Str × Addr)} {outer : List Env} {A₀ : Around} {base h₀ : Heap} {L : Addr} {m : PySem.Str → Option Value} {hp : Heap} {gn : Array GenState} {dr : Drawn} {tk9 : Nat} {os9 : OsState} {Q E : Value → Shared → Prop}
    (B : Below A₀ base outer h₀) (F : Fr h₀ L hp m) (X : (Mine.hd.heap_39 w.params).In h₀) (N : News h₀ L hp news) (T : Top p loose mean mg mb h₀) (H : RestL w f vs news p loose mean mg mb dp un gd cn cs a ccd cl outer A₀ base h₀ L m hp gn dr tk9 os9 Q E) : wpAny (model Challenge.rw_on0013_01.row.prog w) (ktrTop dp un gd cn cs L a ccd cl outer) (call (.ref f) vs) Q E ⟨hp, gn, dr, tk9, os9⟩ := by
  obtain ⟨l, items, k, Ret, C, hk, hd, hu, hl, h1⟩ := H
  exact callsL_use C B F X N T hk hd hu hl h1
section
theorem words_LW_72 : True := by
  (k_with "exec For Name Call cons nil" => ((k_here; k_dflt (refine For_ran ?_ (rfl); k_whole))))
  (k_with "callWith ref" => ((k_here; k_dflt (refine kwith (by k_asm) (by k_is) ?_; k_whole))))
  (k_with "binaryOp Add ref ref" => ((k_here; (with_reducible show wpAny _ _ (binaryOp _ (Value.ref 171) (Value.ref _)) _ _ _); k_dflt (refine add_kinds (by k_asm) (by k_asm) (by k_asm) (by k_mem) ?_; k_whole); intro D9 h9 F9 N9 l9; (try k_lt l9))))
  (k_with "call ref" => (k_here; (with_reducible show wpAny _ _ (call (Value.ref 135) (Value.str (PySem.Str.ofString "/") _ :: _)) _ _ _); k_dflt (refine callsR_v (by k_asm) (by k_asm) (by k_asm) (by k_asm) (by k_asm) ?_; refine RestR.ledF _ _ _ fin_div (by first | exact rfl | assumption) (by ktr_room) (by ktr_units) ?_; k_whole); intro v9 h9 tk9 R9 F9 N9; (try dsimp only); (try k_fold)))
  (k_with "call ref" => (k_here; (with_reducible show wpAny _ _ (call (Value.ref 135) (Value.str (PySem.Str.ofString "%") _ :: _)) _ _ _); k_dflt (refine callsR_v (by k_asm) (by k_asm) (by k_asm) (by k_asm) (by k_asm) ?_; refine RestR.ledF _ _ _ fin_mod (by first | exact rfl | assumption) (by ktr_room) (by ktr_units) ?_; k_whole); intro v9 h9 tk9 R9 F9 N9; (try dsimp only); (try k_fold)))
  (k_with "compareOp NotEq" => ((k_here; k_dflt (refine ne_res (by first | assumption | exact ⟨_, rfl⟩) (by first | assumption | exact ⟨_, rfl⟩) ?_; k_whole); (try dsimp only))))
  (k_with "compareOp Eq" => ((k_here; k_dflt (refine eq_res (by first | assumption | exact ⟨_, rfl⟩) (by first | assumption | exact ⟨_, rfl⟩) ?_; k_whole); (try dsimp only))))
  (k_with "call ref" => (k_here; (with_reducible show wpAny _ _ (call (Value.ref 156) _) _ _ _); k_dflt (refine callsL_v (by k_asm) (by k_asm) (by k_asm) (by k_asm) (by k_asm) ?_; refine RestL.mk _ _ _ _ (pool_c (by assumption) (by assumption) (by assumption) (by assumption)) (by first | exact rfl | assumption) (by ktr_room) (by ktr_units) (by assumption) ?_; k_whole); intro v9 n9 h9 tk9 R9 F9 N9; obtain ⟨a9, o9, e9, e8, so9, lt9⟩ := R9; subst e9 e8; (try dsimp only); (try k_fold)))
  (k_with "call ref" => (k_here; (with_reducible show wpAny _ _ (call (Value.ref 170) _) _ _ _); k_dflt (refine callsR_v (by k_asm) (by k_asm) (by k_asm) (by k_asm) (by k_asm) ?_; refine RestR.mkF _ _ (one_u (by k_updF) (by assumption) (by k_mem) (by k_ne) (by exact (by decide : (2 : Int) ≤ 11)) (by exact (by decide : (11 : Int) ≤ 64))) (by first | exact rfl | assumption) (by ktr_room) (by ktr_units) ?_; k_whole); intro v9 n9 h9 tk9 R9 F9 N9; obtain ⟨o9, ⟨hv9, so9⟩, e8⟩ := R9; subst e8; (obtain ⟨u9, lo9, hi9, hkn9⟩ := kinds11_kn hv9); (try dsimp only at N9); (try dsimp only); (try k_fold)))
  (k_with "call ref" => (k_here; (with_reducible show wpAny _ _ (call (Value.ref 170) [_, Value.ref 171]) _ _ _); k_dflt (refine callsR_v (by k_asm) (by k_asm) (by k_asm) (by k_asm) (by k_asm) ?_; refine RestR.mkF _ _ (one_top_u (by k_updF) (by assumption)) (by first | exact rfl | assumption) (by ktr_room) (by ktr_units) ?_; k_whole); intro v9 n9 h9 tk9 R9 F9 N9; obtain ⟨o9, ⟨⟨u9, lo9, hi9, hkv9⟩, so9⟩, e8⟩ := R9; subst e8; (obtain ⟨x9, t9, e9⟩ := kv_str hkv9); subst e9; (try dsimp only at N9); (try dsimp only); (try k_fold)))
  (k_with "call ref" => (k_here; (with_reducible show wpAny _ _ (call (Value.ref 227) _) _ _ _); k_dflt (refine callsB_v (by k_asm) (by k_asm) (by k_asm) (by k_asm) (by k_asm) (by assumption) (by assumption) (by assumption) (by assumption) ?_; refine RestB.mk _ _ _ C9 (by first | exact rfl | assumption) (by ktr_room) (by ktr_units) (by assumption) ?_; k_whole); intro v9 n9 h9 tk9 g9 R9 T9 F9 N9 B9 X9 P9 D9; (replace F9 := fr_back T9 F9); (replace N9 := news_back T9 N9); clear T9 B9 X9 P9 D9; obtain ⟨e9, o9, ps9, cs9, so9, ti9, ok9, e8⟩ := R9; subst e9 e8; (try dsimp only); (try k_fold)))
  (k_with "call ref" => (k_here; (with_reducible show wpAny _ _ (call (Value.ref 234) _) _ _ _); k_dflt (refine callsB_v (by k_asm) (by k_asm) (by k_asm) (by k_asm) (by k_asm) (by assumption) (by assumption) (by assumption) (by assumption) ?_; refine RestB.mk _ _ _ C9 (by first | exact rfl | assumption) (by ktr_room) (by ktr_units) (by assumption) ?_; k_whole); intro v9 n9 h9 tk9 g9 R9 T9 F9 N9 B9 X9 P9 D9; (replace F9 := fr_back T9 F9); (replace N9 := news_back T9 N9); clear T9 B9 X9 P9 D9; obtain ⟨e9, o9, ps9, cs9, so9, ti9, ok9, e8⟩ := R9; subst e9 e8; (try dsimp only); (try k_fold)))
  (k_with "call ref" => (k_here; (with_reducible show wpAny _ _ (call (Value.ref 239) _) _ _ _); k_dflt (refine callsB_v (by k_asm) (by k_asm) (by k_asm) (by k_asm) (by k_asm) (by assumption) (by assumption) (by assumption) (by assumption) ?_; refine RestB.mk _ _ _ (C8 _ _ _ (by assumption) (by assumption) (by assumption)) (by first | exact rfl | assumption) (by ktr_room) (by ktr_units) (by assumption) ?_; k_whole); intro v9 n9 h9 tk9 g9 R9 T9 F9 N9 B9 X9 P9 D9; (replace F9 := fr_back T9 F9); (replace N9 := news_back T9 N9); clear T9 B9 X9 P9 D9; obtain ⟨e9, o9, ps9, cs9, so9, ti9, ok9, e8⟩ := R9; subst e9 e8; (try dsimp only); (try k_fold)))
  (k_with "call ref" => (k_here; (with_reducible show wpAny _ _ (call (Value.ref 246) _) _ _ _); k_dflt (refine callsB_v (by k_asm) (by k_asm) (by k_asm) (by k_asm) (by k_asm) (by assumption) (by assumption) (by assumption) (by assumption) ?_; refine RestB.mk _ _ _ (C7 _ _ _ _ _ _ (by assumption) (by assumption)) (by first | exact rfl | assumption) (by ktr_room) (by ktr_units) (by assumption) ?_; k_whole); intro v9 n9 h9 tk9 g9 R9 T9 F9 N9 B9 X9 P9 D9; (replace F9 := fr_back T9 F9); (replace N9 := news_back T9 N9); clear T9 B9 X9 P9 D9; obtain ⟨e9, o9, ps9, cs9, so9, ti9, ok9, e8⟩ := R9; subst e9 e8; (try dsimp only); (try k_fold)))
  trivial
set_option maxHeartbeats 8000000 in
theorem law_holds : PySem.Challenge.rw_on0013_01.Holds := by
  refine Mine.hd (by
    k_go0
    rename World => w
    rename Shared => s0
    rename Below _ _ _ _ => B0
    rename Fr _ _ _ _ => F0
    rename News _ _ _ _ => N0
    rename Top _ _ _ _ _ _ => T0
    rename Frag.In _ _ => X0
    rename IntsAre _ _ => hI0
    generalize hg0 : ghostOf _ _ = g0 at *
    obtain ⟨p, loose, mean, mg, mb, hT⟩ : ∃ p loose mean mg mb, Top p loose mean mg mb g0 := ⟨_, _, _, _, _, T0⟩
    clear T0
    generalize hL0 : Array.size (Heap.objs (Shared.heap _)) = L0 at *
    obtain ⟨lst, vs, ns, hI, hlen, hlist, F1⟩ : ∃ (lst : Addr) (vs : List Value) (ns : List Int), IntsAre vs ns ∧ ns.length ≤ 63 ∧ g0.IsList lst vs.toArray ∧ Fr g0 L0 _ (fun y => if y = PySem.Str.ofString "script" then some (Value.ref lst) else none) := ⟨_, _, _, hI0, by omega, by assumption, by rw [← lookup1]; exact F0⟩
    have hB1 : CodeHd g0 245 241 := by assumption
    have hB2 : CodeHd g0 238 236 := by assumption
    have hB3 : CodeHd g0 233 229 := by assumption
    have hB4 : CodeHd g0 226 222 := by assumption
    have hXB := X0
    have hTB := hT
    have hD : KtsDicts (frs []) g0 := fun b hb => by cases hb
    have hS : KtsTurn (frs []) g0 g0 := .refl
    clear F0
    (try dsimp only)
    refine opQE (by passes_own) (fun Q9 E9 z9 y9 p9 => ?_)
    refine seg0 ?_
    k_steps
    refine' forRan_ (J := (fun h₀ m rest => HeldC (fun G9 => g0 = h₀ → ∀ mk ms mkd mt ps1 ps2 ps3 ps4 c1 c2 c3 c4, m = (fun y => if y = PySem.Str.ofString "turn" then mt else if y = PySem.Str.ofString "kind" then mkd else if y = PySem.Str.ofString "source" then ms else if y = PySem.Str.ofString "k" then mk else if y = PySem.Str.ofString "script" then some (Value.ref lst) else none) → TabInv (PySem.Str.ofString "_law_numbers_right.<locals>.<lambda>") 222 ps1 c1 → TabInv (PySem.Str.ofString "_law_great_right.<locals>.<lambda>") 229 ps2 c2 → TabInv (PySem.Str.ofString "_law_sorts_right.<locals>.<lambda>") 236 ps3 c3 → TabInv (PySem.Str.ofString "_law_types_right.<locals>.<lambda>") 241 ps4 c4 → (∀ q ∈ (c1 ++ (c2 ++ (c3 ++ c4))), @LT.lt Nat _ 241 q.1) → rest = ((222, tabObj ps1) :: (229, tabObj ps2) :: (236, tabObj ps3) :: (241, tabObj ps4) :: (c1 ++ (c2 ++ (c3 ++ c4)))) → G9))) ?hr9 ?hb9 ?hb8 ?F9 ?N9 ?cj9 ?turn9 ?fin9
    case hr9 => assumption
    case hb9 => (split <;> (try split) <;> omega)
    case hb8 => (split <;> (try split) <;> omega)
    case F9 => exact fr_none (PySem.Str.ofString "turn") (fr_none (PySem.Str.ofString "kind") (fr_none (PySem.Str.ofString "source") (fr_none (PySem.Str.ofString "k") (by k_asm))))
    case cj9 => exact HeldC.mk fun G9 k9 => k9 rfl _ _ _ _ (#[]) (#[]) (#[]) (#[]) ([]) ([]) ([]) ([]) rfl TabInv.nil TabInv.nil TabInv.nil TabInv.nil (fun q hq => by cases hq) rfl
    case N9 => exact news_sub (by k_asm) (sub_cons (by k_mem) (sub_cons (by k_mem) (sub_cons (by k_mem) (sub_cons (by k_mem) (fun q hq => absurd hq List.not_mem_nil)))))
    case fin9 =>
      intro h₀ m rest h tk h9
      with_reducible refine heldC_ h9 ?_
      clear h9
      intro e0 mk ms mkd mt ps1 ps2 ps3 ps4 c1 c2 c3 c4 e91 t1 t2 t3 t4 hbig e92
      subst e91 e92
      intro F N
      subst e0
      refine .mk ?_
      (try dsimp only)
      k_steps
    case turn9 =>
      intro I h₀ m rest oI k tkk h tk hk0 hk1 hJ F N hoff hlt
      refine opT (fun Q9 z9 => ?_)
      with_reducible refine heldC_ hJ ?_
      clear hJ
      intro e0 mk ms mkd mt ps1 ps2 ps3 ps4 c1 c2 c3 c4 e91 t1 t2 t3 t4 hbig e92
      subst e91 e92
      subst e0
      have hI241 := ltN (hlt (241, tabObj #[]) (by k_mem))
      (try dsimp only at hI241)
      have hk1' : k ≤ 1 := by
        revert hk1
        (repeat' split) <;> intro hk1 <;> omega
      clear hk1 hlt
      have hoffc : ∀ p ∈ (c1 ++ (c2 ++ (c3 ++ c4))), p.1 ≠ I := fun p hp => hoff p (.tail _ (.tail _ (.tail _ (.tail _ hp))))
      walk1
      walk1
      (try dsimp only)
      refine segO (fun s' => HeldC (fun G9 => ∀ h tk src o, s' = { s0 with heap := h, toks := tk } → Fr g0 L0 h (fun y => if y = PySem.Str.ofString "source" then some (Value.ref src) else if y = PySem.Str.ofString "k" then some (Value.int k tkk) else if y = PySem.Str.ofString "turn" then mt else if y = PySem.Str.ofString "kind" then mkd else if y = PySem.Str.ofString "source" then ms else if y = PySem.Str.ofString "k" then mk else if y = PySem.Str.ofString "script" then some (Value.ref lst) else none) → News g0 L0 h ((src, o) :: (I, oI) :: (222, tabObj ps1) :: (229, tabObj ps2) :: (236, tabObj ps3) :: (241, tabObj ps4) :: (c1 ++ (c2 ++ (c3 ++ c4)))) → SrcO o → (∀ q ∈ (I, oI) :: (222, tabObj ps1) :: (229, tabObj ps2) :: (236, tabObj ps3) :: (241, tabObj ps4) :: (c1 ++ (c2 ++ (c3 ++ c4))), q.1 < src) → G9)) (fun Q9 z9 => ?_) ?_
      · k_steps
        (try (refine pop_ (by assumption) ?_))
        exact HeldC.mk fun G9 k9 => k9 _ _ _ _ rfl (by k_asm) (by k_asm) (by assumption) (by assumption)
      clear F N
      intro s' h9
      with_reducible refine heldC_ h9 ?_
      clear h9
      intro h tk src o e91 F N so hsrc
      subst e91
      (try dsimp only)
      have hs241 := ltN (hsrc (241, tabObj ps4) (by k_mem))
      have hIs := ltN (hsrc (I, oI) (.head _))
      (try dsimp only at hs241 hIs)
      have hok : ∀ q ∈ (c1 ++ (c2 ++ (c3 ++ c4))), (fun q : Addr × Obj => @LT.lt Nat _ 241 q.1 ∧ q.1 ≠ src ∧ q.1 ≠ I) q := fun q hq => ⟨hbig q hq, Nat.ne_of_lt (hsrc q (.tail _ (.tail _ (.tail _ (.tail _ (.tail _ hq)))))), hoffc q hq⟩
      have hosrc : ∀ p ∈ (c1 ++ (c2 ++ (c3 ++ c4))), p.1 ≠ src := fun q hq => (hok q hq).2.1
      clear hsrc hbig hoffc
      refine segO (fun s' => HeldC (fun G9 => ∀ h tk o kv u lo hi, s' = { s0 with heap := h, toks := tk } → Fr g0 L0 h (fun y => if y = PySem.Str.ofString "kind" then some kv else if y = PySem.Str.ofString "source" then some (Value.ref src) else if y = PySem.Str.ofString "k" then some (Value.int k tkk) else if y = PySem.Str.ofString "turn" then mt else if y = PySem.Str.ofString "kind" then mkd else if y = PySem.Str.ofString "source" then ms else if y = PySem.Str.ofString "k" then mk else if y = PySem.Str.ofString "script" then some (Value.ref lst) else none) → News g0 L0 h ((src, o) :: (I, oI) :: (222, tabObj ps1) :: (229, tabObj ps2) :: (236, tabObj ps3) :: (241, tabObj ps4) :: (c1 ++ (c2 ++ (c3 ++ c4)))) → SrcO o → KN kv u lo hi → G9)) (fun Q9 z9 => ?_) ?_
      · k_steps
        (try (refine pop_ (by assumption) ?_))
        exact HeldC.mk fun G9 k9 => k9 _ _ _ _ _ _ _ rfl (by k_asm) (by refine' news_sub ?N ?S; (case N => k_asm); (case S => (repeat (first | with_reducible exact sub_refl | with_reducible exact sub_nil | ((with_reducible apply sub_cons); (focus k_mem)) | with_reducible apply sub_tail)))) (by assumption) (by assumption)
      clear F N so
      intro s' h9
      with_reducible refine heldC_ h9 ?_
      clear h9
      intro h tk o kv u lo hi e91 F N so hkn
      subst e91
      (try dsimp only)
      refine segO (fun s' => HeldC (fun G9 => ∀ h tk mt2 o ps1 c1, s' = { s0 with heap := h, toks := tk } → Fr g0 L0 h (fun y => if y = PySem.Str.ofString "turn" then mt2 else if y = PySem.Str.ofString "kind" then some kv else if y = PySem.Str.ofString "source" then some (Value.ref src) else if y = PySem.Str.ofString "k" then some (Value.int k tkk) else if y = PySem.Str.ofString "turn" then mt else if y = PySem.Str.ofString "kind" then mkd else if y = PySem.Str.ofString "source" then ms else if y = PySem.Str.ofString "k" then mk else if y = PySem.Str.ofString "script" then some (Value.ref lst) else none) → News g0 L0 h ((src, o) :: (I, oI) :: (222, tabObj ps1) :: (229, tabObj ps2) :: (236, tabObj ps3) :: (241, tabObj ps4) :: (c1 ++ (c2 ++ (c3 ++ c4)))) → SrcO o → TabInv (PySem.Str.ofString "_law_numbers_right.<locals>.<lambda>") 222 ps1 c1 → (∀ q ∈ c1, (fun q : Addr × Obj => @LT.lt Nat _ 241 q.1 ∧ q.1 ≠ src ∧ q.1 ≠ I) q) → G9)) (fun Q9 z9 => ?_) ?_
      · k_steps
        refine' forRan_ (J := (fun h₀ m rest => HeldC (fun G9 => g0 = h₀ → ∀ mt2 o ps1 c1, m = (fun y => if y = PySem.Str.ofString "turn" then mt2 else if y = PySem.Str.ofString "kind" then some kv else if y = PySem.Str.ofString "source" then some (Value.ref src) else if y = PySem.Str.ofString "k" then some (Value.int k tkk) else if y = PySem.Str.ofString "turn" then mt else if y = PySem.Str.ofString "kind" then mkd else if y = PySem.Str.ofString "source" then ms else if y = PySem.Str.ofString "k" then mk else if y = PySem.Str.ofString "script" then some (Value.ref lst) else none) → SrcO o → TabInv (PySem.Str.ofString "_law_numbers_right.<locals>.<lambda>") 222 ps1 c1 → (∀ q ∈ c1, (fun q : Addr × Obj => @LT.lt Nat _ 241 q.1 ∧ q.1 ≠ src ∧ q.1 ≠ I) q) → rest = ((src, o) :: (I, oI) :: (222, tabObj ps1) :: (229, tabObj ps2) :: (236, tabObj ps3) :: (241, tabObj ps4) :: (c1 ++ (c2 ++ (c3 ++ c4)))) → G9))) ?hr8 ?hb7 ?hb6 ?F8 ?N8 ?cj8 ?turn8 ?fin8
        case hr8 => assumption
        case hb7 => decide
        case hb6 => decide
        case F8 => exact fr_none (PySem.Str.ofString "turn") (by k_asm)
        case N8 => k_asm
        case cj8 => exact HeldC.mk fun G9 k9 => k9 rfl _ _ _ _ rfl (by assumption) (by assumption) (fun q hq => hok q (List.mem_append_left _ hq)) rfl
        case fin8 =>
          intro h₀ m rest h tk h9
          with_reducible refine heldC_ h9 ?_
          clear h9
          intro e0 mt2 o' ps1' c1' e91 so' t1' hok1 e92
          subst e91 e92
          intro F N
          subst e0
          (try (refine pop_ (by assumption) ?_))
          exact HeldC.mk fun G9 k9 => k9 _ _ _ _ _ _ rfl F N so' t1' hok1
        case turn8 =>
          intro I2 h₀ m rest oI2 kj tkj h tk hj0 hj1 hJ F N hoff2 hlt2
          refine opT (fun Q9 z9 => ?_)
          with_reducible refine heldC_ hJ ?_
          clear hJ
          intro e0 mt2 o ps1 c1 e91 so t1 hok1 e92
          subst e91 e92
          subst e0
          have hI2 := ltN (hlt2 (I, oI) (.tail _ (.head _)))
          have hsI2 := ltN (hlt2 (src, _) (.head _))
          (try dsimp only at hI2 hsI2)
          have hoff2c : ∀ p ∈ (c1 ++ (c2 ++ (c3 ++ c4))), p.1 ≠ I2 := fun p hp => hoff2 p (.tail _ (.tail _ (.tail _ (.tail _ (.tail _ (.tail _ hp))))))
          have hok : ∀ q ∈ (c1 ++ (c2 ++ (c3 ++ c4))), (fun q : Addr × Obj => @LT.lt Nat _ 241 q.1 ∧ q.1 ≠ src ∧ q.1 ≠ I2 ∧ q.1 ≠ I) q := all_app (fun q hq => ⟨(hok1 q hq).1, (hok1 q hq).2.1, hoff2c q (List.mem_append_left _ hq), (hok1 q hq).2.2⟩) (fun q hq => ⟨(app_r hok q hq).1, (app_r hok q hq).2.1, hoff2c q (List.mem_append_right _ hq), (app_r hok q hq).2.2⟩)
          have C9 : CallsB (fun b9 => CodeHd b9 226 222) 20 w 227 [.ref src, kv] ((I2, oI2) :: (src, o) :: (I, oI) :: (222, tabObj ps1) :: (229, tabObj ps2) :: (236, tabObj ps3) :: (241, tabObj ps4) :: (c1 ++ (c2 ++ (c3 ++ c4)))) (fun v n' => v = .bool true ∧ ∃ o' ps' c', SrcO o' ∧ TabInv (PySem.Str.ofString "_law_numbers_right.<locals>.<lambda>") 222 ps' c' ∧ (∀ q ∈ c', (fun q : Addr × Obj => @LT.lt Nat _ 241 q.1 ∧ q.1 ≠ src ∧ q.1 ≠ I2 ∧ q.1 ≠ I) q) ∧ n' = ((I2, oI2) :: (src, o') :: (I, oI) :: (222, tabObj ps') :: (229, tabObj ps2) :: (236, tabObj ps3) :: (241, tabObj ps4) :: (c' ++ (c2 ++ (c3 ++ c4))))) :=
      callsB_conv (numbers_c (news := ((I2, oI2) :: (I, oI) :: (229, tabObj ps2) :: (236, tabObj ps3) :: (241, tabObj ps4) :: (c2 ++ (c3 ++ c4)))) hkn so t1 (all_app (fun p hp => (((app_l hok) p hp)).2.1) (List.forall_mem_cons.mpr ⟨by k_ne, List.forall_mem_cons.mpr ⟨by k_ne, List.forall_mem_cons.mpr ⟨by k_ne, List.forall_mem_cons.mpr ⟨by k_ne, List.forall_mem_cons.mpr ⟨by k_ne, (all_app (fun p hp => ((app_l (app_r hok)) p hp).2.1) (all_app (fun p hp => ((app_l (app_r (app_r hok))) p hp).2.1) (fun p hp => ((app_r (app_r (app_r hok))) p hp).2.1)))⟩⟩⟩⟩⟩)) (List.forall_mem_cons.mpr ⟨by k_ne, List.forall_mem_cons.mpr ⟨by k_ne, List.forall_mem_cons.mpr ⟨by k_ne, List.forall_mem_cons.mpr ⟨by k_ne, List.forall_mem_cons.mpr ⟨by k_ne, (all_app (fun p hp => Nat.ne_of_gt (Nat.lt_of_le_of_lt (by decide : 222 ≤ 241) ((app_l (app_r hok)) p hp).1)) (all_app (fun p hp => Nat.ne_of_gt (Nat.lt_of_le_of_lt (by decide : 222 ≤ 241) ((app_l (app_r (app_r hok))) p hp).1)) (fun p hp => Nat.ne_of_gt (Nat.lt_of_le_of_lt (by decide : 222 ≤ 241) ((app_r (app_r (app_r hok))) p hp).1))))⟩⟩⟩⟩⟩) (by omega)) permf1 (fun v n' z => by
        obtain ⟨e, o', ps', c', so', ti, hc, rfl⟩ := z
        exact ⟨((I2, oI2) :: (src, o') :: (I, oI) :: (222, tabObj ps') :: (229, tabObj ps2) :: (236, tabObj ps3) :: (241, tabObj ps4) :: (c' ++ (c2 ++ (c3 ++ c4)))), permb1, e, o', ps', c', so', ti, ok_grow (fun q hq => (app_l hok) q hq) hc (fun q z => ⟨z (241, _) (.tail _ (.tail _ (List.mem_append_right _ (.tail _ (.tail _ (.tail _ (.tail _ (.head _)))))))), Nat.ne_of_gt (z (src, _) (.head _)), Nat.ne_of_gt (z (I2, _) (.tail _ (.tail _ (List.mem_append_right _ (.head _))))), Nat.ne_of_gt (z (I, _) (.tail _ (.tail _ (List.mem_append_right _ (.tail _ (.head _))))))⟩), rfl⟩)
          (try dsimp only)
          walk1
          walk1
          (try dsimp only)
          k_steps
          exact turnF_mk rfl (HeldC.mk fun G9 k9 => k9 rfl _ _ _ _ rfl (by assumption) (by assumption) (ok_weak (by assumption)) rfl) (fr_twice (by k_asm)) (by k_asm) (List.forall_mem_cons.mpr ⟨by k_ne, List.forall_mem_cons.mpr ⟨by k_ne, List.forall_mem_cons.mpr ⟨by k_ne, List.forall_mem_cons.mpr ⟨by k_ne, List.forall_mem_cons.mpr ⟨by k_ne, List.forall_mem_cons.mpr ⟨by k_ne, all_app (ok_I2 (by assumption)) (fun p hp => hoff2c p (List.mem_append_right _ hp))⟩⟩⟩⟩⟩⟩)
      clear F N so t1 hosrc
      intro s' h9
      with_reducible refine heldC_ h9 ?_
      clear h9
      intro h tk mt2 o ps1 c1 e91 F N so t1 hok1
      subst e91
      replace hok : ∀ q ∈ (c1 ++ (c2 ++ (c3 ++ c4))), (fun q : Addr × Obj => @LT.lt Nat _ 241 q.1 ∧ q.1 ≠ src ∧ q.1 ≠ I) q := all_app hok1 (app_r hok)
      clear hok1
      have C9 : CallsB (fun b9 => CodeHd b9 233 229) 20 w 234 [.ref src] ((src, o) :: (I, oI) :: (222, tabObj ps1) :: (229, tabObj ps2) :: (236, tabObj ps3) :: (241, tabObj ps4) :: (c1 ++ (c2 ++ (c3 ++ c4)))) (fun v n' => v = .bool true ∧ ∃ o' ps' c', SrcO o' ∧ TabInv (PySem.Str.ofString "_law_great_right.<locals>.<lambda>") 229 ps' c' ∧ (∀ q ∈ c', (fun q : Addr × Obj => @LT.lt Nat _ 241 q.1 ∧ q.1 ≠ src ∧ q.1 ≠ I) q) ∧ n' = ((src, o') :: (I, oI) :: (222, tabObj ps1) :: (229, tabObj ps') :: (236, tabObj ps3) :: (241, tabObj ps4) :: (c1 ++ (c' ++ (c3 ++ c4))))) :=
      callsB_conv (great_c (news := ((I, oI) :: (222, tabObj ps1) :: (236, tabObj ps3) :: (241, tabObj ps4) :: (c1 ++ (c3 ++ c4)))) so t2 (all_app (fun p hp => (((app_l (app_r hok)) p hp)).2.1) (List.forall_mem_cons.mpr ⟨by k_ne, List.forall_mem_cons.mpr ⟨by k_ne, List.forall_mem_cons.mpr ⟨by k_ne, List.forall_mem_cons.mpr ⟨by k_ne, (all_app (fun p hp => ((app_l hok) p hp).2.1) (all_app (fun p hp => ((app_l (app_r (app_r hok))) p hp).2.1) (fun p hp => ((app_r (app_r (app_r hok))) p hp).2.1)))⟩⟩⟩⟩)) (List.forall_mem_cons.mpr ⟨by k_ne, List.forall_mem_cons.mpr ⟨by k_ne, List.forall_mem_cons.mpr ⟨by k_ne, List.forall_mem_cons.mpr ⟨by k_ne, (all_app (fun p hp => Nat.ne_of_gt (Nat.lt_of_le_of_lt (by decide : 229 ≤ 241) ((app_l hok) p hp).1)) (all_app (fun p hp => Nat.ne_of_gt (Nat.lt_of_le_of_lt (by decide : 229 ≤ 241) ((app_l (app_r (app_r hok))) p hp).1)) (fun p hp => Nat.ne_of_gt (Nat.lt_of_le_of_lt (by decide : 229 ≤ 241) ((app_r (app_r (app_r hok))) p hp).1))))⟩⟩⟩⟩) (by omega)) permf2 (fun v n' z => by
        obtain ⟨e, o', ps', c', so', ti, hc, rfl⟩ := z
        exact ⟨((src, o') :: (I, oI) :: (222, tabObj ps1) :: (229, tabObj ps') :: (236, tabObj ps3) :: (241, tabObj ps4) :: (c1 ++ (c' ++ (c3 ++ c4)))), permb2, e, o', ps', c', so', ti, ok_grow (fun q hq => (app_l (app_r hok)) q hq) hc (fun q z => ⟨z (241, _) (.tail _ (.tail _ (List.mem_append_right _ (.tail _ (.tail _ (.tail _ (.head _))))))), Nat.ne_of_gt (z (src, _) (.head _)), Nat.ne_of_gt (z (I, _) (.tail _ (.tail _ (List.mem_append_right _ (.head _)))))⟩), rfl⟩)
      have C8 : ∀ o ps2 c2, SrcO o → TabInv (PySem.Str.ofString "_law_great_right.<locals>.<lambda>") 229 ps2 c2 → (∀ q ∈ c2, (fun q : Addr × Obj => @LT.lt Nat _ 241 q.1 ∧ q.1 ≠ src ∧ q.1 ≠ I) q) → CallsB (fun b9 => CodeHd b9 238 236) 20 w 239 [.ref src] ((src, o) :: (I, oI) :: (222, tabObj ps1) :: (229, tabObj ps2) :: (236, tabObj ps3) :: (241, tabObj ps4) :: (c1 ++ (c2 ++ (c3 ++ c4)))) (fun v n' => v = .bool true ∧ ∃ o' ps' c', SrcO o' ∧ TabInv (PySem.Str.ofString "_law_sorts_right.<locals>.<lambda>") 236 ps' c' ∧ (∀ q ∈ c', (fun q : Addr × Obj => @LT.lt Nat _ 241 q.1 ∧ q.1 ≠ src ∧ q.1 ≠ I) q) ∧ n' = ((src, o') :: (I, oI) :: (222, tabObj ps1) :: (229, tabObj ps2) :: (236, tabObj ps') :: (241, tabObj ps4) :: (c1 ++ (c2 ++ (c' ++ c4))))) := by
        intro o ps2 c2 so t2 hok2
        replace hok : ∀ q ∈ (c1 ++ (c2 ++ (c3 ++ c4))), (fun q : Addr × Obj => @LT.lt Nat _ 241 q.1 ∧ q.1 ≠ src ∧ q.1 ≠ I) q := all_app (app_l hok) (all_app hok2 (app_r (app_r hok)))
        have C9 : CallsB (fun b9 => CodeHd b9 238 236) 20 w 239 [.ref src] ((src, o) :: (I, oI) :: (222, tabObj ps1) :: (229, tabObj ps2) :: (236, tabObj ps3) :: (241, tabObj ps4) :: (c1 ++ (c2 ++ (c3 ++ c4)))) (fun v n' => v = .bool true ∧ ∃ o' ps' c', SrcO o' ∧ TabInv (PySem.Str.ofString "_law_sorts_right.<locals>.<lambda>") 236 ps' c' ∧ (∀ q ∈ c', (fun q : Addr × Obj => @LT.lt Nat _ 241 q.1 ∧ q.1 ≠ src ∧ q.1 ≠ I) q) ∧ n' = ((src, o') :: (I, oI) :: (222, tabObj ps1) :: (229, tabObj ps2) :: (236, tabObj ps') :: (241, tabObj ps4) :: (c1 ++ (c2 ++ (c' ++ c4))))) :=
      callsB_conv (sorts_c (news := ((I, oI) :: (222, tabObj ps1) :: (229, tabObj ps2) :: (241, tabObj ps4) :: (c1 ++ (c2 ++ c4)))) so t3 (all_app (fun p hp => (((app_l (app_r (app_r hok))) p hp)).2.1) (List.forall_mem_cons.mpr ⟨by k_ne, List.forall_mem_cons.mpr ⟨by k_ne, List.forall_mem_cons.mpr ⟨by k_ne, List.forall_mem_cons.mpr ⟨by k_ne, (all_app (fun p hp => ((app_l hok) p hp).2.1) (all_app (fun p hp => ((app_l (app_r hok)) p hp).2.1) (fun p hp => ((app_r (app_r (app_r hok))) p hp).2.1)))⟩⟩⟩⟩)) (List.forall_mem_cons.mpr ⟨by k_ne, List.forall_mem_cons.mpr ⟨by k_ne, List.forall_mem_cons.mpr ⟨by k_ne, List.forall_mem_cons.mpr ⟨by k_ne, (all_app (fun p hp => Nat.ne_of_gt (Nat.lt_of_le_of_lt (by decide : 236 ≤ 241) ((app_l hok) p hp).1)) (all_app (fun p hp => Nat.ne_of_gt (Nat.lt_of_le_of_lt (by decide : 236 ≤ 241) ((app_l (app_r hok)) p hp).1)) (fun p hp => Nat.ne_of_gt (Nat.lt_of_le_of_lt (by decide : 236 ≤ 241) ((app_r (app_r (app_r hok))) p hp).1))))⟩⟩⟩⟩) (by omega)) permf3 (fun v n' z => by
        obtain ⟨e, o', ps', c', so', ti, hc, rfl⟩ := z
        exact ⟨((src, o') :: (I, oI) :: (222, tabObj ps1) :: (229, tabObj ps2) :: (236, tabObj ps') :: (241, tabObj ps4) :: (c1 ++ (c2 ++ (c' ++ c4)))), permb3, e, o', ps', c', so', ti, ok_grow (fun q hq => (app_l (app_r (app_r hok))) q hq) hc (fun q z => ⟨z (241, _) (.tail _ (.tail _ (List.mem_append_right _ (.tail _ (.tail _ (.tail _ (.head _))))))), Nat.ne_of_gt (z (src, _) (.head _)), Nat.ne_of_gt (z (I, _) (.tail _ (.tail _ (List.mem_append_right _ (.head _)))))⟩), rfl⟩)
        exact C9
      (try dsimp only)
      refine segO (fun s' => HeldC (fun G9 => ∀ h tk o ps2 c2 ps3 c3, s' = { s0 with heap := h, toks := tk } → Fr g0 L0 h (fun y => if y = PySem.Str.ofString "turn" then mt2 else if y = PySem.Str.ofString "kind" then some kv else if y = PySem.Str.ofString "source" then some (Value.ref src) else if y = PySem.Str.ofString "k" then some (Value.int k tkk) else if y = PySem.Str.ofString "turn" then mt else if y = PySem.Str.ofString "kind" then mkd else if y = PySem.Str.ofString "source" then ms else if y = PySem.Str.ofString "k" then mk else if y = PySem.Str.ofString "script" then some (Value.ref lst) else none) → News g0 L0 h ((src, o) :: (I, oI) :: (222, tabObj ps1) :: (229, tabObj ps2) :: (236, tabObj ps3) :: (241, tabObj ps4) :: (c1 ++ (c2 ++ (c3 ++ c4)))) → SrcO o → TabInv (PySem.Str.ofString "_law_great_right.<locals>.<lambda>") 229 ps2 c2 → TabInv (PySem.Str.ofString "_law_sorts_right.<locals>.<lambda>") 236 ps3 c3 → (∀ q ∈ c2, (fun q : Addr × Obj => @LT.lt Nat _ 241 q.1 ∧ q.1 ≠ src ∧ q.1 ≠ I) q) → (∀ q ∈ c3, (fun q : Addr × Obj => @LT.lt Nat _ 241 q.1 ∧ q.1 ≠ src ∧ q.1 ≠ I) q) → G9)) (fun Q9 z9 => ?_) ?_
      · k_steps
        (try (refine pop_ (by assumption) ?_))
        exact HeldC.mk fun G9 k9 => k9 _ _ _ _ _ _ _ rfl (by k_asm) (by k_asm) (by assumption) (by assumption) (by assumption) (by assumption) (by assumption)
      clear F N so t2 t3 C9 C8
      intro s' h9
      with_reducible refine heldC_ h9 ?_
      clear h9
      intro h tk o ps2 c2 ps3 c3 e91 F N so t2 t3 hok2 hok3
      subst e91
      replace hok : ∀ q ∈ (c1 ++ (c2 ++ (c3 ++ c4))), (fun q : Addr × Obj => @LT.lt Nat _ 241 q.1 ∧ q.1 ≠ src ∧ q.1 ≠ I) q := all_app (app_l hok) (all_app hok2 (all_app hok3 (app_r (app_r (app_r hok)))))
      have hosrc : ∀ p ∈ (c1 ++ (c2 ++ (c3 ++ c4))), p.1 ≠ src := fun q hq => (hok q hq).2.1
      clear hok2 hok3
      have C7 : ∀ o (xk : PySem.Str) (tkk : Tok) (u : Bool) (lo hi : Int), SrcO o → KV (.str xk tkk) u lo hi → CallsB (fun b9 => CodeHd b9 245 241) 20 w 246 [.ref src, .str xk tkk] ((src, o) :: (I, oI) :: (222, tabObj ps1) :: (229, tabObj ps2) :: (236, tabObj ps3) :: (241, tabObj ps4) :: (c1 ++ (c2 ++ (c3 ++ c4)))) (fun v n' => v = .bool true ∧ ∃ o' ps' c', SrcO o' ∧ TabInv (PySem.Str.ofString "_law_types_right.<locals>.<lambda>") 241 ps' c' ∧ (∀ q ∈ c', (fun q : Addr × Obj => @LT.lt Nat _ 241 q.1 ∧ q.1 ≠ src ∧ q.1 ≠ I) q) ∧ n' = ((src, o') :: (I, oI) :: (222, tabObj ps1) :: (229, tabObj ps2) :: (236, tabObj ps3) :: (241, tabObj ps') :: (c1 ++ (c2 ++ (c3 ++ c'))))) := by
        intro o xk tkk u lo hi so hkv
        have C9 : CallsB (fun b9 => CodeHd b9 245 241) 20 w 246 [.ref src, .str xk tkk] ((src, o) :: (I, oI) :: (222, tabObj ps1) :: (229, tabObj ps2) :: (236, tabObj ps3) :: (241, tabObj ps4) :: (c1 ++ (c2 ++ (c3 ++ c4)))) (fun v n' => v = .bool true ∧ ∃ o' ps' c', SrcO o' ∧ TabInv (PySem.Str.ofString "_law_types_right.<locals>.<lambda>") 241 ps' c' ∧ (∀ q ∈ c', (fun q : Addr × Obj => @LT.lt Nat _ 241 q.1 ∧ q.1 ≠ src ∧ q.1 ≠ I) q) ∧ n' = ((src, o') :: (I, oI) :: (222, tabObj ps1) :: (229, tabObj ps2) :: (236, tabObj ps3) :: (241, tabObj ps') :: (c1 ++ (c2 ++ (c3 ++ c'))))) :=
      callsB_conv (types_c (news := ((I, oI) :: (222, tabObj ps1) :: (229, tabObj ps2) :: (236, tabObj ps3) :: (c1 ++ (c2 ++ c3)))) hkv so t4 (all_app (fun p hp => (((app_r (app_r (app_r hok))) p hp)).2.1) (List.forall_mem_cons.mpr ⟨by k_ne, List.forall_mem_cons.mpr ⟨by k_ne, List.forall_mem_cons.mpr ⟨by k_ne, List.forall_mem_cons.mpr ⟨by k_ne, (all_app (fun p hp => ((app_l hok) p hp).2.1) (all_app (fun p hp => ((app_l (app_r hok)) p hp).2.1) (fun p hp => ((app_l (app_r (app_r hok))) p hp).2.1)))⟩⟩⟩⟩)) (List.forall_mem_cons.mpr ⟨by k_ne, List.forall_mem_cons.mpr ⟨by k_ne, List.forall_mem_cons.mpr ⟨by k_ne, List.forall_mem_cons.mpr ⟨by k_ne, (all_app (fun p hp => Nat.ne_of_gt (Nat.lt_of_le_of_lt (by decide : 241 ≤ 241) ((app_l hok) p hp).1)) (all_app (fun p hp => Nat.ne_of_gt (Nat.lt_of_le_of_lt (by decide : 241 ≤ 241) ((app_l (app_r hok)) p hp).1)) (fun p hp => Nat.ne_of_gt (Nat.lt_of_le_of_lt (by decide : 241 ≤ 241) ((app_l (app_r (app_r hok))) p hp).1))))⟩⟩⟩⟩) (by omega)) permf4 (fun v n' z => by
        obtain ⟨e, o', ps', c', so', ti, hc, rfl⟩ := z
        exact ⟨((src, o') :: (I, oI) :: (222, tabObj ps1) :: (229, tabObj ps2) :: (236, tabObj ps3) :: (241, tabObj ps') :: (c1 ++ (c2 ++ (c3 ++ c')))), permb4, e, o', ps', c', so', ti, ok_grow (fun q hq => (app_r (app_r (app_r hok))) q hq) hc (fun q z => ⟨z (241, _) (.tail _ (.head _)), Nat.ne_of_gt (z (src, _) (.head _)), Nat.ne_of_gt (z (I, _) (.tail _ (.tail _ (List.mem_append_right _ (.head _)))))⟩), rfl⟩)
        exact C9
      (try dsimp only)
      k_steps
      exact turnF_mk rfl (HeldC.mk fun G9 k9 => k9 rfl _ _ _ _ _ _ _ _ _ _ _ _ rfl (by assumption) (by assumption) (by assumption) (by assumption) (all_app (ok_big (app_l hok)) (all_app (ok_big (app_l (app_r hok))) (all_app (ok_big (app_l (app_r (app_r hok)))) (ok_big (by assumption))))) rfl) (fr_norm4 (by k_asm)) (news_sub (by k_asm) (sub_tail sub_refl)) (List.forall_mem_cons.mpr ⟨by k_ne, List.forall_mem_cons.mpr ⟨by k_ne, List.forall_mem_cons.mpr ⟨by k_ne, List.forall_mem_cons.mpr ⟨by k_ne, all_app (ok_I (app_l hok)) (all_app (ok_I (app_l (app_r hok))) (all_app (ok_I (app_l (app_r (app_r hok)))) (ok_I (by assumption))))⟩⟩⟩⟩))
end
end

end

end Mine
theorem PySem.Challenge.cw_on0013_01_holds : PySem.Challenge.rw_on0013_01.Holds := by
  exact Mine.law_holds
