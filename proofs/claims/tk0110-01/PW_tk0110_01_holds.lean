import PyProof.Rows.All
import Wide.All
import OpenK.AllK
import Wide.FinOn
import Lean
import PySem.Challenge.RW_tk0110_01
open Lean PySem PySem.W PyProof.Rows
set_option Elab.async false
name_quick tw8599406847853129411 for PySem.W.S.modZ by PySem.W.S.modZ_eq
name_quick tw15899114121259513789 for PySem.W.S.modZ by PySem.W.S.modZ_eq
name_quick tw4549671731633647312 for PySem.W.S.modZ by PySem.W.S.modZ_eq
name_quick tw12152520270820667787 for PySem.W.S.modZ by PySem.W.S.modZ_eq
name_quick tw6695012665549500446 for PySem.W.S.modZ by PySem.W.S.modZ_eq
name_quick tw1486927313064005944 for PySem.W.S.modZ by PySem.W.S.modZ_eq
name_quick tw8478436911231091946 for PySem.W.S.modZ by PySem.W.S.modZ_eq
name_quick tw16317912014791525384 for PySem.W.S.modZ by PySem.W.S.modZ_eq
name_quick tw8075568018651887793 for PySem.W.S.modZ by PySem.W.S.modZ_eq
name_quick tw14979626087600564940 for PySem.W.S.modZ by PySem.W.S.modZ_eq
name_quick tw4041572232804570864 for PySem.W.S.modZ by PySem.W.S.modZ_eq
name_quick tw15344925407182087593 for PySem.W.S.modZ by PySem.W.S.modZ_eq
name_quick tw13334402666994668213 for PySem.W.S.modZ by PySem.W.S.modZ_eq
name_quick tw10459078713815827633 for PySem.W.S.modZ by PySem.W.S.modZ_eq
name_quick tw15302161944941228822 for PySem.W.S.modZ by PySem.W.S.modZ_eq
name_quick tw7166746455592369930 for PySem.W.S.modZ by PySem.W.S.modZ_eq
name_quick tw788995980369251910 for PySem.W.S.modZ by PySem.W.S.modZ_eq
name_quick tw14676129246514791375 for PySem.W.S.modZ by PySem.W.S.modZ_eq
name_quick tw15974313266725837768 for PySem.W.S.modZ by PySem.W.S.modZ_eq
name_quick tw17111948838632640456 for PySem.W.S.modZ by PySem.W.S.modZ_eq
name_quick tw2502411970723609615 for PySem.W.S.modZ by PySem.W.S.modZ_eq
name_quick tw16792545251062261874 for PySem.W.S.modZ by PySem.W.S.modZ_eq
name_quick tw14112274594779413971 for PySem.W.S.modZ by PySem.W.S.modZ_eq
name_quick tw11462045893675790159 for PySem.W.S.modZ by PySem.W.S.modZ_eq
name_quick tw3386650904741475044 for PySem.W.S.modZ by PySem.W.S.modZ_eq
name_quick tw13809362725867891129 for PySem.W.S.modZ by PySem.W.S.modZ_eq
name_quick tw14433975572909055671 for PySem.W.S.modZ by PySem.W.S.modZ_eq
name_quick tw7581816359482902497 for PySem.W.S.modZ by PySem.W.S.modZ_eq
name_quick tw12022618010286034681 for PySem.W.S.modZ by PySem.W.S.modZ_eq
name_quick tw9376109419431680627 for PySem.W.S.modZ by PySem.W.S.modZ_eq
name_quick tw2447775223705975068 for PySem.W.S.modZ by PySem.W.S.modZ_eq
name_quick tw16180582048198870337 for PySem.W.S.modZ by PySem.W.S.modZ_eq
name_quick tw8224813933742928703 for PySem.W.S.modZ by PySem.W.S.modZ_eq
name_quick tw5697894365363955025 for PySem.W.S.modZ by PySem.W.S.modZ_eq
name_quick tw3619232141914619222 for PySem.W.S.modZ by PySem.W.S.modZ_eq
name_quick tw4679858250743294509 for PySem.W.S.modZ by PySem.W.S.modZ_eq
name_quick tw2193789692954389824 for PySem.W.S.modZ by PySem.W.S.modZ_eq
name_quick tw11682084944484805031 for PySem.W.S.modZ by PySem.W.S.modZ_eq
name_quick tw7094674258960923220 for PySem.W.S.modZ by PySem.W.S.modZ_eq
name_quick tw9676229304581654039 for PySem.W.S.modZ by PySem.W.S.modZ_eq
name_quick tw4901318299020614408 for PySem.W.S.modZ by PySem.W.S.modZ_eq
name_quick tw15560500314895047343 for PySem.W.S.modZ by PySem.W.S.modZ_eq
name_quick tw6426273055680023932 for PySem.W.S.modZ by PySem.W.S.modZ_eq
name_quick tw3891137856419664920 for PySem.W.S.modZ by PySem.W.S.modZ_eq
name_quick tw1184552218554016812 for PySem.W.S.modZ by PySem.W.S.modZ_eq
name_quick tw3698559305507148144 for PySem.W.S.modZ by PySem.W.S.modZ_eq
name_quick tw13981391230805400906 for PySem.W.S.modZ by PySem.W.S.modZ_eq
name_quick tw10887116778572429059 for PySem.W.S.modZ by PySem.W.S.modZ_eq
name_quick tw7401281599722004195 for PySem.W.S.modZ by PySem.W.S.modZ_eq
name_quick tw15112985482279097393 for PySem.W.S.modZ by PySem.W.S.modZ_eq
name_quick tw13678640442995254988 for PySem.W.S.modZ by PySem.W.S.modZ_eq
name_quick tw1702518465993881591 for PySem.W.S.modZ by PySem.W.S.modZ_eq
name_quick tw15195428891847259777 for PySem.W.S.modZ by PySem.W.S.modZ_eq
name_quick tw13016732220969518872 for PySem.W.S.modZ by PySem.W.S.modZ_eq
name_quick tw3152983702415266003 for PySem.W.S.modZ by PySem.W.S.modZ_eq
name_quick tw9305782018832362445 for PySem.W.S.modZ by PySem.W.S.modZ_eq
name_quick tw9411525586021648077 for PySem.W.S.modZ by PySem.W.S.modZ_eq
name_quick tw2460228577881660442 for PySem.W.S.modZ by PySem.W.S.modZ_eq
name_quick tw7286323032743288035 for PySem.W.S.modZ by PySem.W.S.modZ_eq
name_quick tw3766158894648301139 for PySem.W.S.modZ by PySem.W.S.modZ_eq
name_quick tw10919533547850550483 for PySem.W.S.modZ by PySem.W.S.modZ_eq
name_quick tw7035115661146626270 for PySem.W.S.modZ by PySem.W.S.modZ_eq
name_quick tw14333388528381170442 for PySem.W.S.modZ by PySem.W.S.modZ_eq
name_quick tw6967401301877209104 for PySem.W.S.modZ by PySem.W.S.modZ_eq
name_quick tw16350708796919097252 for PySem.W.S.modZ by PySem.W.S.modZ_eq
name_quick tw15806122291839087668 for PySem.W.S.modZ by PySem.W.S.modZ_eq
name_quick tw7299303143086499733 for PySem.W.S.modZ by PySem.W.S.modZ_eq
name_quick tw10833955939284561965 for PySem.W.S.modZ by PySem.W.S.modZ_eq
name_quick tw13642483538084851733 for PySem.W.S.modZ by PySem.W.S.modZ_eq
name_quick tw14553827428707814869 for PySem.W.S.modZ by PySem.W.S.modZ_eq
name_quick tw8727135674562949291 for PySem.W.S.modZ by PySem.W.S.modZ_eq
name_quick tw6589095468515690095 for PySem.W.S.modZ by PySem.W.S.modZ_eq
name_quick tw9787463984185863102 for PySem.W.S.modZ by PySem.W.S.modZ_eq
name_quick tw12734952128020822468 for PySem.W.S.modZ by PySem.W.S.modZ_eq
name_quick tw5032809538720368765 for PySem.W.S.modZ by PySem.W.S.modZ_eq
name_quick tw5396446701170858492 for PySem.W.S.modZ by PySem.W.S.modZ_eq
name_quick tw5189142188285759775 for PySem.W.S.modZ by PySem.W.S.modZ_eq
name_quick tw11306939235166856333 for PySem.W.S.modZ by PySem.W.S.modZ_eq
name_quick tw12233582284571471492 for PySem.W.S.modZ by PySem.W.S.modZ_eq
name_quick tw4434333111790514575 for PySem.W.S.modZ by PySem.W.S.modZ_eq
name_quick tw18345786424863182364 for PySem.W.S.modZ by PySem.W.S.modZ_eq
name_quick tw4302124980754421698 for PySem.W.S.modZ by PySem.W.S.modZ_eq
name_quick tw11939915149646268982 for PySem.W.S.modZ by PySem.W.S.modZ_eq
name_quick tw12832477231654346042 for PySem.W.S.modZ by PySem.W.S.modZ_eq
name_quick tw15742981410569661332 for PySem.W.S.modZ by PySem.W.S.modZ_eq
name_quick tw5518745428033880147 for PySem.W.S.modZ by PySem.W.S.modZ_eq
name_quick tw7788680626742099145 for PySem.W.S.modZ by PySem.W.S.modZ_eq
name_quick tw3436264866546951355 for PySem.W.S.modZ by PySem.W.S.modZ_eq
name_quick tw17804436615005485693 for PySem.W.S.modZ by PySem.W.S.modZ_eq
name_quick tw13789449189825218787 for PySem.W.S.modZ by PySem.W.S.modZ_eq
name_quick tw14326252917377295143 for PySem.W.S.modZ by PySem.W.S.modZ_eq
name_quick tw11543547407058413889 for PySem.W.S.modZ by PySem.W.S.modZ_eq
name_quick tw16374537267813192141 for PySem.W.S.modZ by PySem.W.S.modZ_eq
name_quick tw3105397867545767578 for PySem.W.S.modZ by PySem.W.S.modZ_eq
name_quick tw5701610774189311196 for PySem.W.S.modZ by PySem.W.S.modZ_eq
name_quick tw4075660801711882420 for PySem.W.S.modZ by PySem.W.S.modZ_eq
name_quick tw11310463157757771331 for PySem.W.S.modZ by PySem.W.S.modZ_eq
name_quick tw15079194523842364033 for PySem.W.S.modZ by PySem.W.S.modZ_eq
name_quick tw313226197891681235 for PySem.W.S.modZ by PySem.W.S.modZ_eq
name_quick tw724751600484774222 for PySem.W.S.modZ by PySem.W.S.modZ_eq
name_quick tw8719427161674164953 for PySem.W.S.modZ by PySem.W.S.modZ_eq
name_quick tw1574873078441994576 for PySem.W.S.modZ by PySem.W.S.modZ_eq
name_quick tw17164873540382356111 for PySem.W.S.modZ by PySem.W.S.modZ_eq
name_quick tw16593013826814733010 for PySem.W.S.modZ by PySem.W.S.modZ_eq
name_quick tw1355338860687761863 for PySem.W.S.modZ by PySem.W.S.modZ_eq
name_quick tw6550987210724342151 for PySem.W.S.modZ by PySem.W.S.modZ_eq
name_quick tw12237943961548833269 for PySem.W.S.modZ by PySem.W.S.modZ_eq
name_quick tw11788150170368784547 for PySem.W.S.modZ by PySem.W.S.modZ_eq
name_quick tw15278061642289888581 for PySem.W.S.modZ by PySem.W.S.modZ_eq
name_quick tw15450981722951097364 for PySem.W.S.modZ by PySem.W.S.modZ_eq
name_quick tw2611137233208623240 for PySem.W.S.modZ by PySem.W.S.modZ_eq
name_quick tw10317580896714288900 for PySem.W.S.modZ by PySem.W.S.modZ_eq
name_quick tw17828083071136270317 for PySem.W.S.modZ by PySem.W.S.modZ_eq
name_quick tw17537794083376710389 for PySem.W.S.modZ by PySem.W.S.modZ_eq
name_quick tw6654550962395885724 for PySem.W.S.modZ by PySem.W.S.modZ_eq
name_quick tw3131671291697673992 for PySem.W.S.modZ by PySem.W.S.modZ_eq
name_quick tw15663404670287596823 for PySem.W.S.modZ by PySem.W.S.modZ_eq
name_quick tw4224760802259116069 for PySem.W.S.modZ by PySem.W.S.modZ_eq
name_quick tw2315820567201803617 for PySem.W.S.modZ by PySem.W.S.modZ_eq
name_quick tw3880421473898291048 for PySem.W.S.modZ by PySem.W.S.modZ_eq
name_quick tw14224011070414065920 for PySem.W.S.modZ by PySem.W.S.modZ_eq
name_quick tw10948738476641704880 for PySem.W.S.modZ by PySem.W.S.modZ_eq
name_quick tw14530364306720264245 for PySem.W.S.modZ by PySem.W.S.modZ_eq
name_quick tw12172078356533094185 for PySem.W.S.modZ by PySem.W.S.modZ_eq
name_quick tw8642067239939848140 for PySem.W.S.modZ by PySem.W.S.modZ_eq
name_quick tw3442601649717412197 for PySem.W.S.modZ by PySem.W.S.modZ_eq
name_quick tw8098380416015320538 for PySem.W.S.modZ by PySem.W.S.modZ_eq
name_quick tw15034313371233782410 for PySem.W.S.modZ by PySem.W.S.modZ_eq
name_quick tw14108194823987119177 for PySem.W.S.modZ by PySem.W.S.modZ_eq
name_quick tw8860024209350480642 for PySem.W.S.modZ by PySem.W.S.modZ_eq
name_quick tw13776390136698705113 for PySem.W.S.modZ by PySem.W.S.modZ_eq
name_quick tw11636919720809706868 for PySem.W.S.modZ by PySem.W.S.modZ_eq
name_quick tw1258717718454355964 for PySem.W.S.modZ by PySem.W.S.modZ_eq
name_quick tw2478078296215019888 for PySem.W.S.modZ by PySem.W.S.modZ_eq
name_quick tw10007627690174824804 for PySem.W.S.modZ by PySem.W.S.modZ_eq
name_quick tw392140993173905013 for PySem.W.S.modZ by PySem.W.S.modZ_eq
name_quick tw5721027456603625697 for PySem.W.S.modZ by PySem.W.S.modZ_eq
name_quick tw11796506867022685745 for PySem.W.S.modZ by PySem.W.S.modZ_eq
name_quick tw5978237884098788730 for PySem.W.S.modZ by PySem.W.S.modZ_eq
name_quick tw9529234661008812162 for PySem.W.S.modZ by PySem.W.S.modZ_eq
name_quick tw13512673800721320934 for PySem.W.S.modZ by PySem.W.S.modZ_eq
name_quick tw12835720964997663042 for PySem.W.S.modZ by PySem.W.S.modZ_eq
name_quick tw4071324889030633612 for PySem.W.S.modZ by PySem.W.S.modZ_eq
name_quick tw2968979199505139716 for PySem.W.S.modZ by PySem.W.S.modZ_eq
name_quick tw12268644228514654432 for PySem.W.S.modZ by PySem.W.S.modZ_eq
name_quick tw14537914154153760125 for PySem.W.S.modZ by PySem.W.S.modZ_eq
name_quick tw9467589175468403638 for PySem.W.S.modZ by PySem.W.S.modZ_eq
name_quick tw15260796648200649335 for PySem.W.S.modZ by PySem.W.S.modZ_eq
name_quick tw17975652961387846372 for PySem.W.S.modZ by PySem.W.S.modZ_eq
name_quick tw14311459727803291754 for PySem.W.S.modZ by PySem.W.S.modZ_eq
name_quick tw16049961110935095269 for PySem.W.S.modZ by PySem.W.S.modZ_eq
name_quick tw9862997608875712007 for PySem.W.S.modZ by PySem.W.S.modZ_eq
name_quick tw13236226663087606529 for PySem.W.S.modZ by PySem.W.S.modZ_eq
name_quick tw16869277618539721502 for PySem.W.S.modZ by PySem.W.S.modZ_eq
name_quick tw10323183001455561277 for PySem.W.S.modZ by PySem.W.S.modZ_eq
name_quick tw10942035263794033107 for PySem.W.S.modZ by PySem.W.S.modZ_eq
name_quick tw18211773271919218964 for PySem.W.S.modZ by PySem.W.S.modZ_eq
name_quick tw15766043655864335149 for PySem.W.S.modZ by PySem.W.S.modZ_eq
name_quick tw10424941004445345732 for PySem.W.S.modZ by PySem.W.S.modZ_eq
name_quick tw14126943448341045398 for PySem.W.S.modZ by PySem.W.S.modZ_eq
name_quick tw9458956999447867950 for PySem.W.S.modZ by PySem.W.S.modZ_eq
name_quick tw5135500740108067664 for PySem.W.S.modZ by PySem.W.S.modZ_eq
name_quick tw10421914624479474965 for PySem.W.S.modZ by PySem.W.S.modZ_eq
name_quick tw8253183596043897158 for PySem.W.S.modZ by PySem.W.S.modZ_eq
name_quick tw12371321757623732685 for PySem.W.S.modZ by PySem.W.S.modZ_eq
name_quick tw16966814322356759819 for PySem.W.S.modZ by PySem.W.S.modZ_eq
name_quick tw18340240734955500558 for PySem.W.S.modZ by PySem.W.S.modZ_eq
name_quick tw4292500188555128830 for PySem.W.S.modZ by PySem.W.S.modZ_eq
name_quick tw387338674003428930 for PySem.W.S.modZ by PySem.W.S.modZ_eq
name_quick tw7232422423428716515 for PySem.W.S.modZ by PySem.W.S.modZ_eq
name_quick tw608726401823008365 for PySem.W.S.modZ by PySem.W.S.modZ_eq
name_quick tw11838138170533393997 for PySem.W.S.modZ by PySem.W.S.modZ_eq
name_quick tw10706342367453228570 for PySem.W.S.modZ by PySem.W.S.modZ_eq
name_quick tw18350330562280901221 for PySem.W.S.modZ by PySem.W.S.modZ_eq
name_quick tw15423634916342008072 for PySem.W.S.modZ by PySem.W.S.modZ_eq
name_quick tw13180171748994924942 for PySem.W.S.modZ by PySem.W.S.modZ_eq
name_quick tw17517737089405305841 for PySem.W.S.modZ by PySem.W.S.modZ_eq
name_quick tw151948405760981731 for PySem.W.S.modZ by PySem.W.S.modZ_eq
name_quick tw1320183511955256522 for PySem.W.S.modZ by PySem.W.S.modZ_eq
name_quick tw3093977132361051618 for PySem.W.S.modZ by PySem.W.S.modZ_eq
name_quick tw5732905514179830355 for PySem.W.S.modZ by PySem.W.S.modZ_eq
namespace Mine
set_option maxRecDepth 100000
set_option maxHeartbeats 8000000
set_option linter.unusedVariables false
open_top hd for PySem.Challenge.rw_tk0110_01
theorem top_off : True := by
  w_top off
  trivial
abbrev hostDict (P : PySem.Params) (t1 t2 t3 t4 t5 t6 tl tw ts : Tok) (vd rf lg : Addr) (k : Int) : Obj :=
  dictOf [⟨PyData.keyHash P (PySem.Str.ofString "values"), .str (PySem.Str.ofString "values") t1, .ref vd⟩,
    ⟨PyData.keyHash P (PySem.Str.ofString "limit"), .str (PySem.Str.ofString "limit") t2, .int 9999 tl⟩,
    ⟨PyData.keyHash P (PySem.Str.ofString "refused"), .str (PySem.Str.ofString "refused") t3, .ref rf⟩,
    ⟨PyData.keyHash P (PySem.Str.ofString "width"), .str (PySem.Str.ofString "width") t4, .int 64 tw⟩,
    ⟨PyData.keyHash P (PySem.Str.ofString "steps"), .str (PySem.Str.ofString "steps") t5, .int k ts⟩,
    ⟨PyData.keyHash P (PySem.Str.ofString "log"), .str (PySem.Str.ofString "log") t6, .ref lg⟩] 6
abbrev tupOf (vs : List Value) : Obj := { cls := .type "tuple", data := .seq vs.toArray }
/-- does 011 stand in x at place i -/
def hit (x : PySem.Str) (i : Int) : Bool := Txt.slice x (some i) (some (i + 3)) == PySem.Str.ofString "011"
def Hold (P : Prop) : Prop := P
theorem hold {P : Prop} (h : Hold P) : P := h
theorem unhold {P : Prop} (h : P) : Hold P := h
theorem off_app {A B : List (Addr × Obj)} {l l' : List Addr} (h1 : OwnOff A l) (h2 : OwnOff B (l ++ l')) : OwnOff (A ++ B) l := fun q hq b hb =>
  (List.mem_append.mp hq).elim (fun h => h1 q h b hb) (fun h => h2 q h b (List.mem_append_left _ hb))
theorem news_app {h₀ : Heap} {L : Addr} {h : Heap} {A B : List (Addr × Obj)} (N : News h₀ L h (A ++ B)) : News h₀ L h A := fun q hq => N q (List.mem_append_left _ hq)
theorem memI {α : Type} {q : α} {l : List α} (h : q ∈ l) : List.Mem q l := h
theorem eq_tup_str {prog : Program} {w : World} {A : Around} {E : Value → Shared → Prop} {s : Shared} {Q : Value → Shared → Prop} {l : Addr} {items : Array Value} {b : PySem.Str} {u : Tok}
    (hl : IsTup s.heap l items) (hu : A.units < cLine) (h : Q (.bool false) s) : wpAny (model prog w) A (compareOp .Eq (.ref l) (.str b u)) Q E s :=
  PySem.SeqAt.RcAt.tuple_str b u hl hu prog w E Q h
section
local macro_rules | `(tactic| walk_at "compareOp NotIn str ref") => `(tactic| (k_here; (with_reducible show wpAny _ _ (compareOp CmpOp.NotIn (Value.str _ _) (Value.ref _)) _ _ _); (k_dflt (refine' notin_tuple_strs ?k1 ?k2 ?_; (case k1 => exact tupK (by k_in) (by k_is)); (case k2 => kde_strs); k_whole))))
local macro_rules | `(tactic| walk_at "compareOp Eq ref str") => `(tactic| (k_here; (with_reducible show wpAny _ _ (compareOp CmpOp.Eq (Value.ref _) (Value.str _ _)) _ _ _); (k_dflt (refine' eq_tup_str ?k1 ?k2 ?_; (case k1 => exact News.isTup (by k_asm) (by k_mem)); (case k2 => first | ((show _ + 3 < cLine); omega) | ktr_units); k_whole))))
local macro_rules | `(tactic| k_mem) => `(tactic| (refine' memI ?_; ktr_member))
local macro_rules | `(tactic| walk_at "compareOp In str ref") => `(tactic| (k_here; (with_reducible show wpAny _ _ (compareOp CmpOp.In (Value.str _ _) (Value.ref _)) _ _ _); (k_dflt (refine' in_list_strs ?k1 ?k2 ?_; (case k1 => exact News.isList (by k_asm) (by k_mem)); (case k2 => kde_strs); k_whole))))
local macro_rules | `(tactic| walk_at "setItem ref str") => `(tactic| (k_here; (with_reducible show wpAny _ _ (setItem (Value.ref _) (Value.str _ _) _) _ _ _); k_dflt (refine' kda_set (knd := PySem.strKind _ _) ?F ?N ?U ?d (strKind_is _ _ _ _) ?z ?_; (case F => k_asm); (case N => k_asm); (case U => k_updF); (case d => k_asm); (case z => (rw [sizeLine_eq]; omega))); intro h' o' F' N' hd'; (try dsimp only at N')))
local macro_rules | `(tactic| k_room) => `(tactic| ktr_room)
section
variable {prog p : Program} {loose : List PySem.Str} {w : World} {dp un : Nat} {gd : Option (List Code)} {cn : PySem.Str} {cs : Scope} {a : Addr} {ccd : Value} {cl : List (PySem.Str × Addr)} {outer : List Env} {A₀ : Around} {base h₀ : Heap} {L : Addr} {m : PySem.Str → Option Value} {news : List (Addr × Obj)} {s : Shared} {Q E : Value → Shared → Prop} {mean : ExcName → Option Value} {mg mb : PySem.Str → Option Value}
theorem step_spec {k : Int} {t1 t2 t3 t4 t5 t6 tl tw ts : Tok} {hx hdt vd rf lg : Addr} {fz : List (Addr × Obj)}
    (B : Below A₀ base outer h₀) (F : Fr h₀ L s.heap m) (X : (hd.heap_39 w.params).In h₀)
    (N : News h₀ L s.heap ((hdt, hostDict w.params t1 t2 t3 t4 t5 t6 tl tw ts vd rf lg k) :: fz))
    (T : Top p loose mean mg mb h₀) (hk : cs.kind = .function)
    (hdp : dp + 3 < recursionLimit) (hun : un + 20 < cLine)
    (hhx : (hx, instObj 236 hdt) ∈ fz) (hk0 : 0 ≤ k) (hk9 : k ≤ 900) (hoff : OwnOff fz [hdt])
    (hN : ∀ ts' h' tk', Fr h₀ L h' m → News h₀ L h' ((hdt, hostDict w.params t1 t2 t3 t4 t5 t6 tl tw ts' vd rf lg (k + 1)) :: fz) →
      Q .none { s with heap := h', toks := tk' }) :
    wpAny (model prog w) (ktrTop dp un gd cn cs L a ccd cl outer) (call (.ref 233) [.ref hx]) Q E s := by
  have kM := kstMark
  unfold hostDict at N
  k_with_none
  refine wpAny_call ?_
  k_dflt ktr_enter
  k_steps
  exact hN _ _ _ (by k_asm) (by k_asm)

end
section
variable {prog p : Program} {loose : List PySem.Str} {w : World} {dp un : Nat} {gd : Option (List Code)} {cn : PySem.Str} {cs : Scope} {a : Addr} {ccd : Value} {cl : List (PySem.Str × Addr)} {outer : List Env} {A₀ : Around} {base h₀ : Heap} {L : Addr} {m : PySem.Str → Option Value} {news : List (Addr × Obj)} {s : Shared} {Q E : Value → Shared → Prop} {mean : ExcName → Option Value} {mg mb : PySem.Str → Option Value}
theorem dropL {h₀ : Heap} {L : Addr} {h : Heap} {ns l : List (Addr × Obj)} (N : News h₀ L h (ns ++ l)) : News h₀ L h l := fun q hq => N q (List.mem_append_right _ hq)
abbrev refDict (P : PySem.Params) (u1 u2 u3 u4 u5 : Tok) : Obj := dictOf [⟨PyData.keyHash P (PySem.Str.ofString "kind"), .str (PySem.Str.ofString "kind") u1, .str (PySem.Str.ofString "var") u2⟩, ⟨PyData.keyHash P (PySem.Str.ofString "owner"), .str (PySem.Str.ofString "owner") u3, .none⟩, ⟨PyData.keyHash P (PySem.Str.ofString "key"), .str (PySem.Str.ofString "key") u4, .str (PySem.Str.ofString "V") u5⟩] 3
theorem packN {h₀ : Heap} {L : Addr} {h : Heap} {ns mu fz : List (Addr × Obj)} (N : News h₀ L h (ns ++ (mu ++ fz))) (hlt : ∀ n ∈ ns, ∀ q ∈ mu ++ fz, @LT.lt Nat _ q.1 n.1) (hoff : OwnOff fz (mu.map (·.1))) :
    (∀ q ∈ fz, q ∈ ns ++ fz) ∧ OwnOff (ns ++ fz) (mu.map (·.1)) ∧ News h₀ L h (mu ++ (ns ++ fz)) := by
  refine ⟨fun q hq => List.mem_append_right _ hq, fun q hq b hb => ?_, fun q hq => N q ?_⟩
  · rcases List.mem_append.mp hq with hq | hq
    · obtain ⟨r, hr, rfl⟩ := List.mem_map.mp hb
      exact Nat.ne_of_gt (hlt q hq r (List.mem_append_left _ hr))
    · exact hoff q hq b hb
  · rcases List.mem_append.mp hq with hq | hq
    · exact List.mem_append_right _ (List.mem_append_left _ hq)
    · rcases List.mem_append.mp hq with hq | hq
      · exact List.mem_append_left _ hq
      · exact List.mem_append_right _ (List.mem_append_right _ hq)
theorem adv_cat {x : PySem.Str} {at' : Int} {v ta tx : Tok} {C nd T0 pl hx : Addr} {rest va vb : Value} {mu fz : List (Addr × Obj)}
    (B : Below A₀ base outer h₀) (F : Fr h₀ L s.heap m) (X : (hd.heap_39 w.params).In h₀)
    (N : News h₀ L s.heap (mu ++ fz)) (T : Top p loose mean mg mb h₀) (hk : cs.kind = .function)
    (hdp : dp + 8 < recursionLimit) (hun : un + 60 < cLine)
    (hC : (C, tupOf [.ref nd, rest]) ∈ mu ++ fz) (hnd : (nd, tupOf [.str (PySem.Str.ofString "cat") v, va, vb]) ∈ mu ++ fz)
    (hoff : OwnOff fz (mu.map (·.1)))
    (hN : ∀ W C' R' fz' h' tk', (∀ q ∈ fz, q ∈ fz') → (W, tupOf [.ref C', .int at' ta, .ref T0]) ∈ fz' → (C', tupOf [va, .ref R']) ∈ fz' → (R', tupOf [vb, rest]) ∈ fz' → OwnOff fz' (mu.map (·.1)) →
      Fr h₀ L h' m → News h₀ L h' (mu ++ fz') → Q (.ref W) { s with heap := h', toks := tk' }) :
    wpAny (model prog w) (ktrTop dp un gd cn cs L a ccd cl outer) (call (.ref 418) [.ref C, .int at' ta, .ref T0, .str x tx, .ref pl, .ref hx]) Q E s := by
  have kM := kstMark
  k_with_none
  refine wpAny_call ?_
  k_dflt ktr_enter
  k_steps
  rename News _ _ _ _ => nN
  obtain ⟨s1, s2, s3⟩ := packN (ns := [_, _, _, _]) nN (List.forall_mem_cons.mpr ⟨(by first | assumption | exact kst_ltOf (by first | assumption | exact And.right (by assumption) | exact And.right (And.right (by assumption)) | exact And.right (And.right (And.right (by assumption))) | exact And.right (And.right (And.right (And.right (by assumption)))) | exact And.right (And.right (And.right (And.right (And.right (by assumption))))))), (List.forall_mem_cons.mpr ⟨(by first | assumption | exact kst_ltOf (by first | assumption | exact And.right (by assumption) | exact And.right (And.right (by assumption)) | exact And.right (And.right (And.right (by assumption))) | exact And.right (And.right (And.right (And.right (by assumption)))) | exact And.right (And.right (And.right (And.right (And.right (by assumption))))))), (List.forall_mem_cons.mpr ⟨(by first | assumption | exact kst_ltOf (by first | assumption | exact And.right (by assumption) | exact And.right (And.right (by assumption)) | exact And.right (And.right (And.right (by assumption))) | exact And.right (And.right (And.right (And.right (by assumption)))) | exact And.right (And.right (And.right (And.right (And.right (by assumption))))))), (List.forall_mem_cons.mpr ⟨(by first | assumption | exact kst_ltOf (by first | assumption | exact And.right (by assumption) | exact And.right (And.right (by assumption)) | exact And.right (And.right (And.right (by assumption))) | exact And.right (And.right (And.right (And.right (by assumption)))) | exact And.right (And.right (And.right (And.right (And.right (by assumption))))))), (List.forall_mem_nil _)⟩)⟩)⟩)⟩) hoff
  exact hN _ _ _ _ _ _ s1 (.head _) (.tail _ (.head _)) (.tail _ (.tail _ (.head _))) s2 (by k_asm) s3
theorem adv_now {x : PySem.Str} {at' : Int} {v ta tx : Tok} {C nd T0 pl hx : Addr} {rest va vn : Value} {mu fz : List (Addr × Obj)}
    (B : Below A₀ base outer h₀) (F : Fr h₀ L s.heap m) (X : (hd.heap_39 w.params).In h₀)
    (N : News h₀ L s.heap (mu ++ fz)) (T : Top p loose mean mg mb h₀) (hk : cs.kind = .function)
    (hdp : dp + 8 < recursionLimit) (hun : un + 60 < cLine)
    (hC : (C, tupOf [.ref nd, rest]) ∈ mu ++ fz) (hnd : (nd, tupOf [.str (PySem.Str.ofString "now") v, va, vn]) ∈ mu ++ fz)
    (hoff : OwnOff fz (mu.map (·.1)))
    (hN : ∀ W C' R' EN te fz' h' tk', (∀ q ∈ fz, q ∈ fz') → (W, tupOf [.ref C', .int at' ta, .ref T0]) ∈ fz' → (C', tupOf [va, .ref R']) ∈ fz' → (R', tupOf [.ref EN, rest]) ∈ fz' → (EN, tupOf [.str (PySem.Str.ofString "end now") te, vn, .int at' ta]) ∈ fz' → OwnOff fz' (mu.map (·.1)) →
      Fr h₀ L h' m → News h₀ L h' (mu ++ fz') → Q (.ref W) { s with heap := h', toks := tk' }) :
    wpAny (model prog w) (ktrTop dp un gd cn cs L a ccd cl outer) (call (.ref 418) [.ref C, .int at' ta, .ref T0, .str x tx, .ref pl, .ref hx]) Q E s := by
  have kM := kstMark
  k_with_none
  refine wpAny_call ?_
  k_dflt ktr_enter
  k_steps
  rename News _ _ _ _ => nN
  obtain ⟨s1, s2, s3⟩ := packN (ns := [_, _, _, _, _]) nN (List.forall_mem_cons.mpr ⟨(by first | assumption | exact kst_ltOf (by first | assumption | exact And.right (by assumption) | exact And.right (And.right (by assumption)) | exact And.right (And.right (And.right (by assumption))) | exact And.right (And.right (And.right (And.right (by assumption)))) | exact And.right (And.right (And.right (And.right (And.right (by assumption))))))), (List.forall_mem_cons.mpr ⟨(by first | assumption | exact kst_ltOf (by first | assumption | exact And.right (by assumption) | exact And.right (And.right (by assumption)) | exact And.right (And.right (And.right (by assumption))) | exact And.right (And.right (And.right (And.right (by assumption)))) | exact And.right (And.right (And.right (And.right (And.right (by assumption))))))), (List.forall_mem_cons.mpr ⟨(by first | assumption | exact kst_ltOf (by first | assumption | exact And.right (by assumption) | exact And.right (And.right (by assumption)) | exact And.right (And.right (And.right (by assumption))) | exact And.right (And.right (And.right (And.right (by assumption)))) | exact And.right (And.right (And.right (And.right (And.right (by assumption))))))), (List.forall_mem_cons.mpr ⟨(by first | assumption | exact kst_ltOf (by first | assumption | exact And.right (by assumption) | exact And.right (And.right (by assumption)) | exact And.right (And.right (And.right (by assumption))) | exact And.right (And.right (And.right (And.right (by assumption)))) | exact And.right (And.right (And.right (And.right (And.right (by assumption))))))), (List.forall_mem_cons.mpr ⟨(by first | assumption | exact kst_ltOf (by first | assumption | exact And.right (by assumption) | exact And.right (And.right (by assumption)) | exact And.right (And.right (And.right (by assumption))) | exact And.right (And.right (And.right (And.right (by assumption)))) | exact And.right (And.right (And.right (And.right (And.right (by assumption))))))), (List.forall_mem_nil _)⟩)⟩)⟩)⟩)⟩) hoff
  exact hN _ _ _ _ _ _ _ _ s1 (.head _) (.tail _ (.head _)) (.tail _ (.tail _ (.head _))) (.tail _ (.tail _ (.tail _ (.head _)))) s2 (by k_asm) s3
theorem adv_tab {x : PySem.Str} {at' : Int} {v ta tx tb : Tok} {C nd T0 pl hx : Addr} {rest : Value} {mu fz : List (Addr × Obj)} {k : Int}
    (B : Below A₀ base outer h₀) (F : Fr h₀ L s.heap m) (X : (hd.heap_39 w.params).In h₀)
    (N : News h₀ L s.heap (mu ++ fz)) (T : Top p loose mean mg mb h₀) (hk : cs.kind = .function)
    (hdp : dp + 8 < recursionLimit) (hun : un + 60 < cLine)
    (hC : (C, tupOf [.ref nd, rest]) ∈ mu ++ fz) (hnd : (nd, tupOf [.str (PySem.Str.ofString "tab") v, .int k tb]) ∈ mu ++ fz)
    (hoff : OwnOff fz (mu.map (·.1))) (hx8 : x.length ≤ 8) (h0 : 0 ≤ at') (h1 : at' ≤ k) (h2 : k ≤ x.length)
    (hN : ∀ W fz' h' tk', (∀ q ∈ fz, q ∈ fz') → (W, tupOf [rest, .int k tb, .ref T0]) ∈ fz' → OwnOff fz' (mu.map (·.1)) →
      Fr h₀ L h' m → News h₀ L h' (mu ++ fz') → Q (.ref W) { s with heap := h', toks := tk' }) :
    wpAny (model prog w) (ktrTop dp un gd cn cs L a ccd cl outer) (call (.ref 418) [.ref C, .int at' ta, .ref T0, .str x tx, .ref pl, .ref hx]) Q E s := by
  have kM := kstMark
  k_with_none
  refine wpAny_call ?_
  k_dflt ktr_enter
  k_steps
  rename News _ _ _ _ => nN
  obtain ⟨s1, s2, s3⟩ := packN (ns := [_, _, _]) nN (List.forall_mem_cons.mpr ⟨(by first | assumption | exact kst_ltOf (by first | assumption | exact And.right (by assumption) | exact And.right (And.right (by assumption)) | exact And.right (And.right (And.right (by assumption))) | exact And.right (And.right (And.right (And.right (by assumption)))) | exact And.right (And.right (And.right (And.right (And.right (by assumption))))))), (List.forall_mem_cons.mpr ⟨(by first | assumption | exact kst_ltOf (by first | assumption | exact And.right (by assumption) | exact And.right (And.right (by assumption)) | exact And.right (And.right (And.right (by assumption))) | exact And.right (And.right (And.right (And.right (by assumption)))) | exact And.right (And.right (And.right (And.right (And.right (by assumption))))))), (List.forall_mem_cons.mpr ⟨(by first | assumption | exact kst_ltOf (by first | assumption | exact And.right (by assumption) | exact And.right (And.right (by assumption)) | exact And.right (And.right (And.right (by assumption))) | exact And.right (And.right (And.right (And.right (by assumption)))) | exact And.right (And.right (And.right (And.right (And.right (by assumption))))))), (List.forall_mem_nil _)⟩)⟩)⟩) hoff
  exact hN _ _ _ _ s1 (.head _) s2 (by k_asm) s3
theorem adv_chars {x : PySem.Str} {at' : Int} {v ta tx tb : Tok} {C nd T0 pl hx : Addr} {rest : Value} {mu fz : List (Addr × Obj)}
    (B : Below A₀ base outer h₀) (F : Fr h₀ L s.heap m) (X : (hd.heap_39 w.params).In h₀)
    (N : News h₀ L s.heap (mu ++ fz)) (T : Top p loose mean mg mb h₀) (hk : cs.kind = .function)
    (hdp : dp + 8 < recursionLimit) (hun : un + 60 < cLine)
    (hC : (C, tupOf [.ref nd, rest]) ∈ mu ++ fz) (hnd : (nd, tupOf [.str (PySem.Str.ofString "chars") v, .str (PySem.Str.ofString "011") tb]) ∈ mu ++ fz)
    (hoff : OwnOff fz (mu.map (·.1))) (hx8 : x.length ≤ 8) (h0 : 0 ≤ at') (h1 : at' ≤ 8)
    (hM : ∀ h' tk', hit x at' = false → Fr h₀ L h' m → News h₀ L h' (mu ++ fz) → Q .none { s with heap := h', toks := tk' })
    (hN : ∀ W te fz' h' tk', hit x at' = true → (∀ q ∈ fz, q ∈ fz') → (W, tupOf [rest, .int (at' + 3) te, .ref T0]) ∈ fz' → OwnOff fz' (mu.map (·.1)) →
      Fr h₀ L h' m → News h₀ L h' (mu ++ fz') → Q (.ref W) { s with heap := h', toks := tk' }) :
    wpAny (model prog w) (ktrTop dp un gd cn cs L a ccd cl outer) (call (.ref 418) [.ref C, .int at' ta, .ref T0, .str x tx, .ref pl, .ref hx]) Q E s := by
  have kM := kstMark
  k_with_none
  refine wpAny_call ?_
  k_dflt ktr_enter
  k_steps
  · rename News _ _ _ _ => nN
    obtain ⟨s1, s2, s3⟩ := packN (ns := [_, _, _]) nN (List.forall_mem_cons.mpr ⟨(by first | assumption | exact kst_ltOf (by first | assumption | exact And.right (by assumption) | exact And.right (And.right (by assumption)) | exact And.right (And.right (And.right (by assumption))) | exact And.right (And.right (And.right (And.right (by assumption)))) | exact And.right (And.right (And.right (And.right (And.right (by assumption))))))), (List.forall_mem_cons.mpr ⟨(by first | assumption | exact kst_ltOf (by first | assumption | exact And.right (by assumption) | exact And.right (And.right (by assumption)) | exact And.right (And.right (And.right (by assumption))) | exact And.right (And.right (And.right (And.right (by assumption)))) | exact And.right (And.right (And.right (And.right (And.right (by assumption))))))), (List.forall_mem_cons.mpr ⟨(by first | assumption | exact kst_ltOf (by first | assumption | exact And.right (by assumption) | exact And.right (And.right (by assumption)) | exact And.right (And.right (And.right (by assumption))) | exact And.right (And.right (And.right (And.right (by assumption)))) | exact And.right (And.right (And.right (And.right (And.right (by assumption))))))), (List.forall_mem_nil _)⟩)⟩)⟩) hoff
    exact hN _ _ _ _ _ (by assumption) s1 (.head _) s2 (by k_asm) s3
  · rename News _ _ _ _ => nN
    exact hM _ _ (by assumption) (by k_asm) (dropL (ns := [_, _]) nN)

end
section
variable {prog p : Program} {loose : List PySem.Str} {w : World} {dp un : Nat} {gd : Option (List Code)} {cn : PySem.Str} {cs : Scope} {a : Addr} {ccd : Value} {cl : List (PySem.Str × Addr)} {outer : List Env} {A₀ : Around} {base h₀ : Heap} {L : Addr} {m : PySem.Str → Option Value} {news : List (Addr × Obj)} {s : Shared} {Q E : Value → Shared → Prop} {mean : ExcName → Option Value} {mg mb : PySem.Str → Option Value}
theorem news_take9 {h₀ : Heap} {L : Addr} {h : Heap} {q : Addr × Obj} {l l' : List (Addr × Obj)} (N : News h₀ L h l) (hq : List.Mem q l) (N2 : News h₀ L h l') : News h₀ L h (q :: l') := List.forall_mem_cons.mpr ⟨N q hq, N2⟩
theorem off_new {A : List (Addr × Obj)} {a : Addr} {l : List Addr} (h : ∀ q ∈ A, @LT.lt Nat _ q.1 a) (ho : OwnOff A l) : OwnOff A (a :: l) := fun q hq b hb => by
  rcases List.mem_cons.mp hb with rfl | hb
  · exact Nat.ne_of_lt (h q hq)
  · exact ho q hq b hb
theorem tried_chars {x : PySem.Str} {k b : Int} {t t1 t2 t3 t4 t5 t6 tl tw ts tb tx tt : Tok} {hx hdt vd rf lg nd : Addr} {keep : List (Addr × Obj)}
    (B : Below A₀ base outer h₀) (F : Fr h₀ L s.heap m) (X : (hd.heap_39 w.params).In h₀)
    (N : News h₀ L s.heap ((hx, instObj 236 hdt) :: (hdt, hostDict w.params t1 t2 t3 t4 t5 t6 tl tw ts vd rf lg k) :: (nd, tupOf [.str (PySem.Str.ofString "chars") t, .str (PySem.Str.ofString "011") tt]) :: keep))
    (T : Top p loose mean mg mb h₀) (hk : cs.kind = .function)
    (hdp : dp + 20 < recursionLimit) (hun : un + 80 < cLine)
    (hx8 : x.length ≤ 8) (hk0 : 0 ≤ k) (hk9 : k ≤ 900) (hb0 : 0 ≤ b) (hb8 : b ≤ 8)
    (hne1 : @Ne Nat hx hdt) (hne2 : @Ne Nat hdt nd) (hne3 : @Ne Nat hx nd) (hoff : OwnOff keep [hx, hdt, nd])
    (hN : ∀ ts' h' tk', hit x b = false → Fr h₀ L h' m →
      News h₀ L h' ((hx, instObj 236 hdt) :: (hdt, hostDict w.params t1 t2 t3 t4 t5 t6 tl tw ts' vd rf lg (k + 1)) :: (nd, tupOf [.str (PySem.Str.ofString "chars") t, .str (PySem.Str.ofString "011") tt]) :: keep) →
      Q .none { s with heap := h', toks := tk' })
    (hS : ∀ r le te ne ts' h' tk', hit x b = true → Fr h₀ L h' m →
      News h₀ L h' ((r, tupOf [.int (b + 3) te, .ref le]) :: (le, listOf #[] ne) :: (hx, instObj 236 hdt) :: (hdt, hostDict w.params t1 t2 t3 t4 t5 t6 tl tw ts' vd rf lg (k + 1)) :: (nd, tupOf [.str (PySem.Str.ofString "chars") t, .str (PySem.Str.ofString "011") tt]) :: keep) →
      Q (.ref r) { s with heap := h', toks := tk' }) :
    wpAny (model prog w) (ktrTop dp un gd cn cs L a ccd cl outer) (call (.ref 411) [.ref nd, .str x tx, .int b tb, .ref hx]) Q E s := by
  have kM := kstMark
  unfold hostDict at N
  k_with_none
  k_with "call ref" => ((with_reducible show wpAny _ _ (call (Value.ref 418) _) _ _ _); refine hold ?_)
  refine wpAny_call ?_
  k_dflt ktr_enter
  k_steps
  refine unhold ?_
  rename News _ _ _ _ => nN
  k_dflt (refine' adv_chars (mu := [(_, _), (_, _), (_, _), (_, _), (_, _), (_, _), (_, _)]) (fz := keep) ?B ?F ?X nN ?T ?hk ?hd ?hu (by k_mem) (by k_mem) (off_new (kst_ltOf (by first | assumption | exact And.right (by assumption) | exact And.right (And.right (by assumption)) | exact And.right (And.right (And.right (by assumption))) | exact And.right (And.right (And.right (And.right (by assumption)))) | exact And.right (And.right (And.right (And.right (And.right (by assumption))))) | exact And.right (And.right (And.right (And.right (And.right (And.right (by assumption)))))) | exact And.right (And.right (And.right (And.right (And.right (And.right (And.right (by assumption))))))) | exact And.right (And.right (And.right (And.right (And.right (And.right (And.right (And.right (by assumption)))))))))) (off_new (kst_ltOf (by first | assumption | exact And.right (by assumption) | exact And.right (And.right (by assumption)) | exact And.right (And.right (And.right (by assumption))) | exact And.right (And.right (And.right (And.right (by assumption)))) | exact And.right (And.right (And.right (And.right (And.right (by assumption))))) | exact And.right (And.right (And.right (And.right (And.right (And.right (by assumption)))))) | exact And.right (And.right (And.right (And.right (And.right (And.right (And.right (by assumption))))))) | exact And.right (And.right (And.right (And.right (And.right (And.right (And.right (And.right (by assumption)))))))))) (off_new (kst_ltOf (by first | assumption | exact And.right (by assumption) | exact And.right (And.right (by assumption)) | exact And.right (And.right (And.right (by assumption))) | exact And.right (And.right (And.right (And.right (by assumption)))) | exact And.right (And.right (And.right (And.right (And.right (by assumption))))) | exact And.right (And.right (And.right (And.right (And.right (And.right (by assumption)))))) | exact And.right (And.right (And.right (And.right (And.right (And.right (And.right (by assumption))))))) | exact And.right (And.right (And.right (And.right (And.right (And.right (And.right (And.right (by assumption)))))))))) (off_new (kst_ltOf (by first | assumption | exact And.right (by assumption) | exact And.right (And.right (by assumption)) | exact And.right (And.right (And.right (by assumption))) | exact And.right (And.right (And.right (And.right (by assumption)))) | exact And.right (And.right (And.right (And.right (And.right (by assumption))))) | exact And.right (And.right (And.right (And.right (And.right (And.right (by assumption)))))) | exact And.right (And.right (And.right (And.right (And.right (And.right (And.right (by assumption))))))) | exact And.right (And.right (And.right (And.right (And.right (And.right (And.right (And.right (by assumption)))))))))) hoff)))) hx8 hb0 hb8 ?hM ?hN)
  case B => k_asm
  case F => k_asm
  case X => k_asm
  case T => k_asm
  case hk => exact rfl
  case hd => ktr_room
  case hu => ktr_units
  case hM =>
    intro h' tk' e9 F' N'
    clear nN
    (try dsimp only)
    (try k_fold)
    k_steps
    rename News _ _ _ _ => nN
    exact hN _ _ _ e9 (by k_asm) (dropL (ns := [_, _, _, _]) nN)
  case hN =>
    intro W9 te9 fz9 h' tk' e9 hsub9 hW9 hoff9 F' N'
    clear nN
    (try dsimp only)
    (try k_fold)
    k_steps
    rename News _ _ _ _ => nN
    exact hS _ _ _ _ _ _ _ e9 (by k_asm) (news_take9 nN (.head _) (news_take9 nN (.tail _ (.head _)) (fun q hq => by
      have h9 := dropL (ns := [_, _, _, _, _, _]) nN
      rcases List.mem_cons.mp hq with rfl | hq
      · exact h9 _ (.head _)
      rcases List.mem_cons.mp hq with rfl | hq
      · exact h9 _ (.tail _ (.head _))
      rcases List.mem_cons.mp hq with rfl | hq
      · exact h9 _ (.tail _ (.tail _ (.head _)))
      exact h9 _ (.tail _ (.tail _ (.tail _ (hsub9 q hq)))))))

end
section
variable {prog p : Program} {loose : List PySem.Str} {w : World} {dp un : Nat} {gd : Option (List Code)} {cn : PySem.Str} {cs : Scope} {a : Addr} {ccd : Value} {cl : List (PySem.Str × Addr)} {outer : List Env} {A₀ : Around} {base h₀ : Heap} {L : Addr} {m : PySem.Str → Option Value} {news : List (Addr × Obj)} {s : Shared} {Q E : Value → Shared → Prop} {mean : ExcName → Option Value} {mg mb : PySem.Str → Option Value}
theorem adv_arb {x : PySem.Str} {at' : Int} {v ta tx : Tok} {C nd T0 pl hx : Addr} {rest : Value} {mu fz : List (Addr × Obj)} {its : Array Value} {np : Nat}
    (B : Below A₀ base outer h₀) (F : Fr h₀ L s.heap m) (X : (hd.heap_39 w.params).In h₀)
    (N : News h₀ L s.heap ((pl, listOf its np) :: (mu ++ fz))) (T : Top p loose mean mg mb h₀) (hk : cs.kind = .function)
    (hdp : dp + 8 < recursionLimit) (hun : un + 60 < cLine)
    (hC : (C, tupOf [.ref nd, rest]) ∈ mu ++ fz) (hnd : (nd, tupOf [.str (PySem.Str.ofString "arb") v]) ∈ mu ++ fz)
    (hoff : OwnOff fz (pl :: mu.map (·.1))) (hom : OwnOff mu [pl]) (hx8 : x.length ≤ 8) (h0 : 0 ≤ at') (h1 : at' ≤ 8) (hits : its.size ≤ 100)
    (hM : ∀ W fz' h' tk', (x.length : Int) ≤ at' → (∀ q ∈ fz, q ∈ fz') → (W, tupOf [rest, .int at' ta, .ref T0]) ∈ fz' → OwnOff fz' (pl :: mu.map (·.1)) →
      Fr h₀ L h' m → News h₀ L h' ((pl, listOf its np) :: (mu ++ fz')) → Q (.ref W) { s with heap := h', toks := tk' })
    (hN : ∀ W W2 C3 te fz' h' tk', at' < (x.length : Int) → (∀ q ∈ fz, q ∈ fz') → (W, tupOf [rest, .int at' ta, .ref T0]) ∈ fz' → (W2, tupOf [.ref C3, .int (at' + 1) te, .ref T0]) ∈ fz' → (C3, tupOf [.ref nd, rest]) ∈ fz' → OwnOff fz' (pl :: mu.map (·.1)) →
      Fr h₀ L h' m → News h₀ L h' ((pl, listOf (its.push (.ref W2)) (np + 1)) :: (mu ++ fz')) → Q (.ref W) { s with heap := h', toks := tk' }) :
    wpAny (model prog w) (ktrTop dp un gd cn cs L a ccd cl outer) (call (.ref 418) [.ref C, .int at' ta, .ref T0, .str x tx, .ref pl, .ref hx]) Q E s := by
  have kM := kstMark
  k_with_none
  refine wpAny_call ?_
  k_dflt ktr_enter
  k_steps
  · rename News _ _ _ _ => nN
    obtain ⟨s1, s2, s3⟩ := packN (ns := [_, _, _, _, _]) (mu := (_, _) :: mu) nN (List.forall_mem_cons.mpr ⟨(by first | assumption | exact kst_ltOf (by first | assumption | exact And.right (by assumption) | exact And.right (And.right (by assumption)) | exact And.right (And.right (And.right (by assumption))) | exact And.right (And.right (And.right (And.right (by assumption)))) | exact And.right (And.right (And.right (And.right (And.right (by assumption))))))), (List.forall_mem_cons.mpr ⟨(by first | assumption | exact kst_ltOf (by first | assumption | exact And.right (by assumption) | exact And.right (And.right (by assumption)) | exact And.right (And.right (And.right (by assumption))) | exact And.right (And.right (And.right (And.right (by assumption)))) | exact And.right (And.right (And.right (And.right (And.right (by assumption))))))), (List.forall_mem_cons.mpr ⟨(by first | assumption | exact kst_ltOf (by first | assumption | exact And.right (by assumption) | exact And.right (And.right (by assumption)) | exact And.right (And.right (And.right (by assumption))) | exact And.right (And.right (And.right (And.right (by assumption)))) | exact And.right (And.right (And.right (And.right (And.right (by assumption))))))), (List.forall_mem_cons.mpr ⟨(by first | assumption | exact kst_ltOf (by first | assumption | exact And.right (by assumption) | exact And.right (And.right (by assumption)) | exact And.right (And.right (And.right (by assumption))) | exact And.right (And.right (And.right (And.right (by assumption)))) | exact And.right (And.right (And.right (And.right (And.right (by assumption))))))), (List.forall_mem_cons.mpr ⟨(by first | assumption | exact kst_ltOf (by first | assumption | exact And.right (by assumption) | exact And.right (And.right (by assumption)) | exact And.right (And.right (And.right (by assumption))) | exact And.right (And.right (And.right (And.right (by assumption)))) | exact And.right (And.right (And.right (And.right (And.right (by assumption))))))), (List.forall_mem_nil _)⟩)⟩)⟩)⟩)⟩) hoff
    exact hN _ _ _ _ _ _ _ (by assumption) s1 (.head _) (.tail _ (.head _)) (.tail _ (.tail _ (.head _))) s2 (by k_asm) s3
  · rename News _ _ _ _ => nN
    obtain ⟨s1, s2, s3⟩ := packN (ns := [_, _, _]) (mu := (_, _) :: mu) nN (List.forall_mem_cons.mpr ⟨(by first | assumption | exact kst_ltOf (by first | assumption | exact And.right (by assumption) | exact And.right (And.right (by assumption)) | exact And.right (And.right (And.right (by assumption))) | exact And.right (And.right (And.right (And.right (by assumption)))) | exact And.right (And.right (And.right (And.right (And.right (by assumption))))))), (List.forall_mem_cons.mpr ⟨(by first | assumption | exact kst_ltOf (by first | assumption | exact And.right (by assumption) | exact And.right (And.right (by assumption)) | exact And.right (And.right (And.right (by assumption))) | exact And.right (And.right (And.right (And.right (by assumption)))) | exact And.right (And.right (And.right (And.right (And.right (by assumption))))))), (List.forall_mem_cons.mpr ⟨(by first | assumption | exact kst_ltOf (by first | assumption | exact And.right (by assumption) | exact And.right (And.right (by assumption)) | exact And.right (And.right (And.right (by assumption))) | exact And.right (And.right (And.right (And.right (by assumption)))) | exact And.right (And.right (And.right (And.right (And.right (by assumption))))))), (List.forall_mem_nil _)⟩)⟩)⟩) hoff
    exact hM _ _ _ _ (by omega) s1 (.head _) s2 (by k_asm) s3
theorem stored_V {kvs : List (PySem.Str × Value)} {v : Value} (h : kvs = [] ∨ ∃ v0, kvs = [(PySem.Str.ofString "V", v0)]) : stored kvs (PySem.Str.ofString "V") v = [(PySem.Str.ofString "V", v)] := by
  rcases h with rfl | ⟨v0, rfl⟩ <;> simp [stored]
theorem assign_spec {y : PySem.Str} {k : Int} {ty t1 t2 t3 t4 t5 t6 tl tw ts u1 u2 u3 u4 u5 : Tok} {hx hdt vd rf lg nm ndt : Addr} {nl nr : Nat} {ls : Array Value} {ov : Obj} {kvs : List (PySem.Str × Value)} {mu fz : List (Addr × Obj)}
    (B : Below A₀ base outer h₀) (F : Fr h₀ L s.heap m) (X : (hd.heap_39 w.params).In h₀)
    (N : News h₀ L s.heap ((vd, ov) :: (lg, listOf ls nl) :: (mu ++ fz))) (T : Top p loose mean mg mb h₀) (hk : cs.kind = .function)
    (hdp : dp + 3 < recursionLimit) (hun : un + 20 < cLine)
    (hhx : (hx, instObj 236 hdt) ∈ mu ++ fz) (hhd : (hdt, hostDict w.params t1 t2 t3 t4 t5 t6 tl tw ts vd rf lg k) ∈ mu ++ fz) (hrf : (rf, listOf #[] nr) ∈ mu ++ fz)
    (hnm : (nm, instObj 145 ndt) ∈ mu ++ fz) (hnd : (ndt, refDict w.params u1 u2 u3 u4 u5) ∈ mu ++ fz)
    (hov : ov.IsDictOf (PySem.strKind prog w) kvs) (hkv : kvs = [] ∨ ∃ v0, kvs = [(PySem.Str.ofString "V", v0)])
    (hoff : OwnOff fz (vd :: lg :: mu.map (·.1))) (hom : OwnOff mu [vd, lg]) (hne : @Ne Nat vd lg) (hls : ls.size ≤ 100)
    (hN : ∀ tp ov' fz' h' tk', (∀ q ∈ fz, q ∈ fz') → OwnOff fz' (vd :: lg :: mu.map (·.1)) → ov'.IsDictOf (PySem.strKind prog w) [(PySem.Str.ofString "V", .str y ty)] →
      Fr h₀ L h' m → News h₀ L h' ((vd, ov') :: (lg, listOf (ls.push (.ref tp)) (nl + 1)) :: (mu ++ fz')) → Q (.bool true) { s with heap := h', toks := tk' }) :
    wpAny (model prog w) (ktrTop dp un gd cn cs L a ccd cl outer) (call (.ref 226) [.ref hx, .ref nm, .str y ty]) Q E s := by
  have hkl : kvs.length ≤ 1 := by rcases hkv with h | ⟨v0, h⟩ <;> rw [h] <;> simp
  unfold hostDict at hhd
  unfold refDict at hnd
  have kM := kstMark
  k_with_none
  refine wpAny_call ?_
  k_dflt ktr_enter
  k_steps
  rename News _ _ _ _ => nN
  rename Obj.IsDictOf _ _ (stored _ _ _) => hD
  rw [stored_V hkv] at hD
  obtain ⟨s1, s2, s3⟩ := packN (ns := [_]) (mu := (_, _) :: (_, _) :: mu) nN (List.forall_mem_cons.mpr ⟨(by first | assumption | exact kst_ltOf (by first | assumption | exact And.right (by assumption) | exact And.right (And.right (by assumption)) | exact And.right (And.right (And.right (by assumption))) | exact And.right (And.right (And.right (And.right (by assumption)))) | exact And.right (And.right (And.right (And.right (And.right (by assumption))))))), (List.forall_mem_nil _)⟩) hoff
  exact hN _ _ _ _ _ s1 s2 hD (by k_asm) s3

end
section
variable {prog p : Program} {loose : List PySem.Str} {w : World} {dp un : Nat} {gd : Option (List Code)} {cn : PySem.Str} {cs : Scope} {a : Addr} {ccd : Value} {cl : List (PySem.Str × Addr)} {outer : List Env} {A₀ : Around} {base h₀ : Heap} {L : Addr} {m : PySem.Str → Option Value} {news : List (Addr × Obj)} {s : Shared} {Q E : Value → Shared → Prop} {mean : ExcName → Option Value} {mg mb : PySem.Str → Option Value}
theorem adv_end {x : PySem.Str} {at' : Int} {v ta tx tb t1 t2 t3 t4 t5 t6 tl tw ts u1 u2 u3 u4 u5 : Tok} {C nd T0 pl hx hdt vd rf lg nm ndt : Addr} {rest : Value} {mu fz : List (Addr × Obj)} {bg k : Int} {nl nr : Nat} {ls : Array Value} {ov : Obj} {kvs : List (PySem.Str × Value)}
    (B : Below A₀ base outer h₀) (F : Fr h₀ L s.heap m) (X : (hd.heap_39 w.params).In h₀)
    (N : News h₀ L s.heap ((vd, ov) :: (lg, listOf ls nl) :: (mu ++ fz))) (T : Top p loose mean mg mb h₀) (hk : cs.kind = .function)
    (hdp : dp + 8 < recursionLimit) (hun : un + 60 < cLine)
    (hC : (C, tupOf [.ref nd, rest]) ∈ mu ++ fz) (hEN : (nd, tupOf [.str (PySem.Str.ofString "end now") v, .ref nm, .int bg tb]) ∈ mu ++ fz)
    (hhx : (hx, instObj 236 hdt) ∈ mu ++ fz) (hhd : (hdt, hostDict w.params t1 t2 t3 t4 t5 t6 tl tw ts vd rf lg k) ∈ mu ++ fz) (hrf : (rf, listOf #[] nr) ∈ mu ++ fz)
    (hnm : (nm, instObj 145 ndt) ∈ mu ++ fz) (hnd : (ndt, refDict w.params u1 u2 u3 u4 u5) ∈ mu ++ fz)
    (hov : ov.IsDictOf (PySem.strKind prog w) kvs) (hkv : kvs = [] ∨ ∃ v0, kvs = [(PySem.Str.ofString "V", v0)])
    (hoff : OwnOff fz (vd :: lg :: mu.map (·.1))) (hom : OwnOff mu [vd, lg]) (hne : @Ne Nat vd lg) (hls : ls.size ≤ 100) (hx8 : x.length ≤ 8) (h0 : 0 ≤ at') (h1 : at' ≤ 8) (h2 : 0 ≤ bg) (h3 : bg ≤ 8)
    (hN : ∀ W tp ty ov' fz' h' tk', (∀ q ∈ fz, q ∈ fz') → (W, tupOf [rest, .int at' ta, .ref T0]) ∈ fz' → OwnOff fz' (vd :: lg :: mu.map (·.1)) → ov'.IsDictOf (PySem.strKind prog w) [(PySem.Str.ofString "V", .str (Txt.slice x (some bg) (some at')) ty)] →
      Fr h₀ L h' m → News h₀ L h' ((vd, ov') :: (lg, listOf (ls.push (.ref tp)) (nl + 1)) :: (mu ++ fz')) → Q (.ref W) { s with heap := h', toks := tk' }) :
    wpAny (model prog w) (ktrTop dp un gd cn cs L a ccd cl outer) (call (.ref 418) [.ref C, .int at' ta, .ref T0, .str x tx, .ref pl, .ref hx]) Q E s := by
  have kM := kstMark
  k_with_none
  k_with "call ref" => ((with_reducible show wpAny _ _ (call (Value.ref 226) _) _ _ _); refine hold ?_)
  refine wpAny_call ?_
  k_dflt ktr_enter
  k_steps
  refine unhold ?_
  rename News _ _ _ _ => nN
  k_dflt (refine' assign_spec ?B ?F ?X (dropL (ns := [_]) nN) ?T ?hk ?hd ?hu hhx hhd hrf hnm hnd hov hkv hoff hom hne hls ?hN)
  case B => k_asm
  case F => k_asm
  case X => k_asm
  case T => k_asm
  case hk => exact rfl
  case hd => ktr_room
  case hu => ktr_units
  case hN =>
    intro tp' ov' fz' h' tk' hsub hoff' hov' F' N'
    clear nN
    (try dsimp only)
    (try k_fold)
    k_steps
    rename News _ _ _ _ => nN
    obtain ⟨s1, s2, s3⟩ := packN (ns := [_]) (mu := (_, _) :: (_, _) :: mu) nN (List.forall_mem_cons.mpr ⟨(by first | assumption | exact kst_ltOf (by first | assumption | exact And.right (by assumption) | exact And.right (And.right (by assumption)) | exact And.right (And.right (And.right (by assumption))) | exact And.right (And.right (And.right (And.right (by assumption)))) | exact And.right (And.right (And.right (And.right (And.right (by assumption))))))), (List.forall_mem_nil _)⟩) hoff'
    exact hN _ _ _ _ _ _ _ (fun q hq => s1 q (hsub q hq)) (.head _) s2 hov' (by k_asm) s3

end
section
variable {prog p : Program} {loose : List PySem.Str} {w : World} {dp un : Nat} {gd : Option (List Code)} {cn : PySem.Str} {cs : Scope} {a : Addr} {ccd : Value} {cl : List (PySem.Str × Addr)} {outer : List Env} {A₀ : Around} {base h₀ : Heap} {L : Addr} {m : PySem.Str → Option Value} {news : List (Addr × Obj)} {s : Shared} {Q E : Value → Shared → Prop} {mean : ExcName → Option Value} {mg mb : PySem.Str → Option Value}
def Pushed (len at' : Int) (its : Array Value) (T0 : Addr) (oC : Obj) (fz : List (Addr × Obj)) : Prop :=
  (len ≤ at' ∧ its = #[]) ∨ (at' < len ∧ ∃ W2 C3 te, its = #[.ref W2] ∧ (W2, tupOf [.ref C3, .int (at' + 1) te, .ref T0]) ∈ fz ∧ (C3, oC) ∈ fz)
theorem Pushed.mono {len at' : Int} {its : Array Value} {T0 : Addr} {oC : Obj} {fz fz' : List (Addr × Obj)} (h : Pushed len at' its T0 oC fz) (hs : ∀ q ∈ fz, q ∈ fz') : Pushed len at' its T0 oC fz' := by
  rcases h with h | ⟨h1, W2, C3, te', h2, h3, h4⟩
  · exact .inl h
  · exact .inr ⟨h1, W2, C3, te', h2, hs _ h3, hs _ h4⟩
theorem packP {h₀ : Heap} {L : Addr} {h : Heap} {ns mu fz : List (Addr × Obj)} {pl : Addr} {o : Obj} (N : News h₀ L h ((pl, o) :: (ns ++ (mu ++ fz)))) (hlt : ∀ n ∈ ns, ∀ q ∈ mu ++ fz, @LT.lt Nat _ q.1 n.1) (hpl : ∀ q ∈ ns ++ (mu ++ fz), @LT.lt Nat _ q.1 pl) (hoff : OwnOff fz (mu.map (·.1))) :
    (∀ q ∈ fz, q ∈ ns ++ fz) ∧ OwnOff (ns ++ fz) (pl :: mu.map (·.1)) ∧ News h₀ L h ((pl, o) :: (mu ++ (ns ++ fz))) := by
  obtain ⟨s1, s2, s3⟩ := packN (fun q hq => N q (.tail _ hq)) hlt hoff
  refine ⟨s1, fun q hq b hb => ?_, List.forall_mem_cons.mpr ⟨N _ (.head _), s3⟩⟩
  rcases List.mem_cons.mp hb with rfl | hb
  · refine Nat.ne_of_lt (hpl q ?_)
    rcases List.mem_append.mp hq with hq | hq
    · exact List.mem_append_left _ hq
    · exact List.mem_append_right _ (List.mem_append_right _ hq)
  · exact s2 q hq b hb
theorem off_of {fz : List (Addr × Obj)} {l l' : List Addr} (h : OwnOff fz l) (hs : ∀ b ∈ l', b ∈ l) : OwnOff fz l' := fun q hq b hb => h q hq b (hs b hb)
theorem off_cons {fz : List (Addr × Obj)} {l : List Addr} {q : Addr × Obj} (h1 : ∀ b ∈ l, @Ne Nat q.1 b) (h : OwnOff fz l) : OwnOff (q :: fz) l := fun r hr b hb => by
  rcases List.mem_cons.mp hr with rfl | hr
  · exact h1 b hb
  · exact h r hr b hb
theorem memR {α : Type} {q : α} {l r : List α} (h : q ∈ r) : q ∈ l ++ r := List.mem_append_right _ h
theorem t_step  {k : Int} {t1 t2 t3 t4 t5 t6 tl tw ts : Tok} {pl hx hdt vd rf lg : Addr}  {its ls : Array Value} {np nl : Nat} {ov : Obj}  {fz : List (Addr × Obj)}
    (B : Below A₀ base outer h₀) (F : Fr h₀ L s.heap m) (X : (hd.heap_39 w.params).In h₀)
    (N : News h₀ L s.heap ((pl, listOf its np) :: (hdt, hostDict w.params t1 t2 t3 t4 t5 t6 tl tw ts vd rf lg k) :: (vd, ov) :: (lg, listOf ls nl) :: fz)) (T : Top p loose mean mg mb h₀) (hk : cs.kind = .function)
    (hdp : dp + 3 < recursionLimit) (hun : un + 20 < cLine)
    (hhx : (hx, instObj 236 hdt) ∈ fz) (hoff : OwnOff fz [pl, hdt, vd, lg]) (hne : @Ne Nat pl hdt ∧ @Ne Nat pl vd ∧ @Ne Nat pl lg ∧ @Ne Nat hdt vd ∧ @Ne Nat hdt lg ∧ @Ne Nat vd lg) (hk0 : 0 ≤ k) (hk9 : k ≤ 900)
    (hN : ∀ ts' h' tk', Fr h₀ L h' m → News h₀ L h' ((pl, listOf its np) :: (hdt, hostDict w.params t1 t2 t3 t4 t5 t6 tl tw ts' vd rf lg (k + 1)) :: (vd, ov) :: (lg, listOf ls nl) :: fz) → Q .none { s with heap := h', toks := tk' }) :
    wpAny (model prog w) (ktrTop dp un gd cn cs L a ccd cl outer) (call (.ref 233) [.ref hx]) Q E s := by
  have N2 : News h₀ L s.heap ((hdt, hostDict w.params t1 t2 t3 t4 t5 t6 tl tw ts vd rf lg k) :: (pl, listOf its np) :: (vd, ov) :: (lg, listOf ls nl) :: fz) := fun q hq => N q (by simp only [List.mem_cons] at hq ⊢; rcases hq with h | h | h | h | h <;> simp [h])
  refine step_spec B F X N2 T hk hdp hun (.tail _ (.tail _ (.tail _ hhx))) hk0 hk9 ?_ ?_
  · refine off_cons ?_ (off_cons ?_ (off_cons ?_ (off_of hoff (by simp)))) <;> (intro b hb; rw [List.mem_singleton.mp hb]; omega)
  · intro ts' h' tk' F' N'
    exact hN ts' h' tk' F' (fun q hq => N' q (by simp only [List.mem_cons] at hq ⊢; rcases hq with h | h | h | h | h <;> simp [h]))
theorem t_cat {x : PySem.Str} {at' k : Int} {v ta tx t1 t2 t3 t4 t5 t6 tl tw ts : Tok} {C nd T0 pl hx hdt vd rf lg : Addr} {va vb rest : Value} {its ls : Array Value} {np nl : Nat} {ov : Obj}  {fz : List (Addr × Obj)}
    (B : Below A₀ base outer h₀) (F : Fr h₀ L s.heap m) (X : (hd.heap_39 w.params).In h₀)
    (N : News h₀ L s.heap ((pl, listOf its np) :: (hdt, hostDict w.params t1 t2 t3 t4 t5 t6 tl tw ts vd rf lg k) :: (vd, ov) :: (lg, listOf ls nl) :: fz)) (T : Top p loose mean mg mb h₀) (hk : cs.kind = .function)
    (hdp : dp + 8 < recursionLimit) (hun : un + 60 < cLine)
    (hC : (C, tupOf [.ref nd, rest]) ∈ fz) (hnd : (nd, tupOf [.str (PySem.Str.ofString "cat") v, va, vb]) ∈ fz) (hoff : OwnOff fz [pl, hdt, vd, lg])
    (hN : ∀ W C' R' fz' h' tk', (∀ q ∈ fz, q ∈ fz') → (W, tupOf [.ref C', .int at' ta, .ref T0]) ∈ fz' → (C', tupOf [va, .ref R']) ∈ fz' → (R', tupOf [vb, rest]) ∈ fz' → OwnOff fz' [pl, hdt, vd, lg] →
      Fr h₀ L h' m → News h₀ L h' ((pl, listOf its np) :: (hdt, hostDict w.params t1 t2 t3 t4 t5 t6 tl tw ts vd rf lg k) :: (vd, ov) :: (lg, listOf ls nl) :: fz') → Q (.ref W) { s with heap := h', toks := tk' }) :
    wpAny (model prog w) (ktrTop dp un gd cn cs L a ccd cl outer) (call (.ref 418) [.ref C, .int at' ta, .ref T0, .str x tx, .ref pl, .ref hx]) Q E s :=
  adv_cat (mu := [(_, _), (_, _), (_, _), (_, _)]) (fz := fz) B F X N T hk hdp hun (memR hC) (memR hnd) hoff hN
theorem t_now {x : PySem.Str} {at' k : Int} {v ta tx t1 t2 t3 t4 t5 t6 tl tw ts : Tok} {C nd T0 pl hx hdt vd rf lg : Addr} {va vb rest : Value} {its ls : Array Value} {np nl : Nat} {ov : Obj}  {fz : List (Addr × Obj)}
    (B : Below A₀ base outer h₀) (F : Fr h₀ L s.heap m) (X : (hd.heap_39 w.params).In h₀)
    (N : News h₀ L s.heap ((pl, listOf its np) :: (hdt, hostDict w.params t1 t2 t3 t4 t5 t6 tl tw ts vd rf lg k) :: (vd, ov) :: (lg, listOf ls nl) :: fz)) (T : Top p loose mean mg mb h₀) (hk : cs.kind = .function)
    (hdp : dp + 8 < recursionLimit) (hun : un + 60 < cLine)
    (hC : (C, tupOf [.ref nd, rest]) ∈ fz) (hnd : (nd, tupOf [.str (PySem.Str.ofString "now") v, va, vb]) ∈ fz) (hoff : OwnOff fz [pl, hdt, vd, lg])
    (hN : ∀ W C' R' EN te fz' h' tk', (∀ q ∈ fz, q ∈ fz') → (W, tupOf [.ref C', .int at' ta, .ref T0]) ∈ fz' → (C', tupOf [va, .ref R']) ∈ fz' → (R', tupOf [.ref EN, rest]) ∈ fz' → (EN, tupOf [.str (PySem.Str.ofString "end now") te, vb, .int at' ta]) ∈ fz' → OwnOff fz' [pl, hdt, vd, lg] →
      Fr h₀ L h' m → News h₀ L h' ((pl, listOf its np) :: (hdt, hostDict w.params t1 t2 t3 t4 t5 t6 tl tw ts vd rf lg k) :: (vd, ov) :: (lg, listOf ls nl) :: fz') → Q (.ref W) { s with heap := h', toks := tk' }) :
    wpAny (model prog w) (ktrTop dp un gd cn cs L a ccd cl outer) (call (.ref 418) [.ref C, .int at' ta, .ref T0, .str x tx, .ref pl, .ref hx]) Q E s :=
  adv_now (mu := [(_, _), (_, _), (_, _), (_, _)]) (fz := fz) B F X N T hk hdp hun (memR hC) (memR hnd) hoff hN
theorem t_tab {x : PySem.Str} {at' k : Int} {v ta tx tb t1 t2 t3 t4 t5 t6 tl tw ts : Tok} {C nd T0 pl hx hdt vd rf lg : Addr} {rest : Value} {its ls : Array Value} {np nl : Nat} {ov : Obj}  {fz : List (Addr × Obj)} {kp : Int}
    (B : Below A₀ base outer h₀) (F : Fr h₀ L s.heap m) (X : (hd.heap_39 w.params).In h₀)
    (N : News h₀ L s.heap ((pl, listOf its np) :: (hdt, hostDict w.params t1 t2 t3 t4 t5 t6 tl tw ts vd rf lg k) :: (vd, ov) :: (lg, listOf ls nl) :: fz)) (T : Top p loose mean mg mb h₀) (hk : cs.kind = .function)
    (hdp : dp + 8 < recursionLimit) (hun : un + 60 < cLine)
    (hC : (C, tupOf [.ref nd, rest]) ∈ fz) (hnd : (nd, tupOf [.str (PySem.Str.ofString "tab") v, .int kp tb]) ∈ fz) (hoff : OwnOff fz [pl, hdt, vd, lg]) (hx8 : x.length ≤ 8) (h0 : 0 ≤ at') (h1 : at' ≤ kp) (h2 : kp ≤ x.length)
    (hN : ∀ W fz' h' tk', (∀ q ∈ fz, q ∈ fz') → (W, tupOf [rest, .int kp tb, .ref T0]) ∈ fz' → OwnOff fz' [pl, hdt, vd, lg] →
      Fr h₀ L h' m → News h₀ L h' ((pl, listOf its np) :: (hdt, hostDict w.params t1 t2 t3 t4 t5 t6 tl tw ts vd rf lg k) :: (vd, ov) :: (lg, listOf ls nl) :: fz') → Q (.ref W) { s with heap := h', toks := tk' }) :
    wpAny (model prog w) (ktrTop dp un gd cn cs L a ccd cl outer) (call (.ref 418) [.ref C, .int at' ta, .ref T0, .str x tx, .ref pl, .ref hx]) Q E s :=
  adv_tab (mu := [(_, _), (_, _), (_, _), (_, _)]) (fz := fz) B F X N T hk hdp hun (memR hC) (memR hnd) hoff hx8 h0 h1 h2 hN
theorem t_chars {x : PySem.Str} {at' k : Int} {v ta tx tb t1 t2 t3 t4 t5 t6 tl tw ts : Tok} {C nd T0 pl hx hdt vd rf lg : Addr} {rest : Value} {its ls : Array Value} {np nl : Nat} {ov : Obj}  {fz : List (Addr × Obj)}
    (B : Below A₀ base outer h₀) (F : Fr h₀ L s.heap m) (X : (hd.heap_39 w.params).In h₀)
    (N : News h₀ L s.heap ((pl, listOf its np) :: (hdt, hostDict w.params t1 t2 t3 t4 t5 t6 tl tw ts vd rf lg k) :: (vd, ov) :: (lg, listOf ls nl) :: fz)) (T : Top p loose mean mg mb h₀) (hk : cs.kind = .function)
    (hdp : dp + 8 < recursionLimit) (hun : un + 60 < cLine)
    (hC : (C, tupOf [.ref nd, rest]) ∈ fz) (hnd : (nd, tupOf [.str (PySem.Str.ofString "chars") v, .str (PySem.Str.ofString "011") tb]) ∈ fz) (hoff : OwnOff fz [pl, hdt, vd, lg]) (hx8 : x.length ≤ 8) (h0 : 0 ≤ at') (h1 : at' ≤ 8)
    (hM : ∀ h' tk', hit x at' = false → Fr h₀ L h' m → News h₀ L h' ((pl, listOf its np) :: (hdt, hostDict w.params t1 t2 t3 t4 t5 t6 tl tw ts vd rf lg k) :: (vd, ov) :: (lg, listOf ls nl) :: fz) → Q .none { s with heap := h', toks := tk' })
    (hN : ∀ W te fz' h' tk', hit x at' = true → (∀ q ∈ fz, q ∈ fz') → (W, tupOf [rest, .int (at' + 3) te, .ref T0]) ∈ fz' → OwnOff fz' [pl, hdt, vd, lg] →
      Fr h₀ L h' m → News h₀ L h' ((pl, listOf its np) :: (hdt, hostDict w.params t1 t2 t3 t4 t5 t6 tl tw ts vd rf lg k) :: (vd, ov) :: (lg, listOf ls nl) :: fz') → Q (.ref W) { s with heap := h', toks := tk' }) :
    wpAny (model prog w) (ktrTop dp un gd cn cs L a ccd cl outer) (call (.ref 418) [.ref C, .int at' ta, .ref T0, .str x tx, .ref pl, .ref hx]) Q E s :=
  adv_chars (mu := [(_, _), (_, _), (_, _), (_, _)]) (fz := fz) B F X N T hk hdp hun (memR hC) (memR hnd) hoff hx8 h0 h1 hM hN
theorem t_arb {x : PySem.Str} {at' k : Int} {v ta tx t1 t2 t3 t4 t5 t6 tl tw ts : Tok} {C nd T0 pl hx hdt vd rf lg : Addr} {rest : Value} {its ls : Array Value} {np nl : Nat} {ov : Obj}  {fz : List (Addr × Obj)}
    (B : Below A₀ base outer h₀) (F : Fr h₀ L s.heap m) (X : (hd.heap_39 w.params).In h₀)
    (N : News h₀ L s.heap ((pl, listOf its np) :: (hdt, hostDict w.params t1 t2 t3 t4 t5 t6 tl tw ts vd rf lg k) :: (vd, ov) :: (lg, listOf ls nl) :: fz)) (T : Top p loose mean mg mb h₀) (hk : cs.kind = .function)
    (hdp : dp + 8 < recursionLimit) (hun : un + 60 < cLine)
    (hC : (C, tupOf [.ref nd, rest]) ∈ fz) (hnd : (nd, tupOf [.str (PySem.Str.ofString "arb") v]) ∈ fz) (hoff : OwnOff fz [pl, hdt, vd, lg]) (hne : @Ne Nat pl hdt ∧ @Ne Nat pl vd ∧ @Ne Nat pl lg ∧ @Ne Nat hdt vd ∧ @Ne Nat hdt lg ∧ @Ne Nat vd lg) (hx8 : x.length ≤ 8) (h0 : 0 ≤ at') (h1 : at' ≤ 8) (hits : its.size ≤ 100)
    (hM : ∀ W fz' h' tk', (x.length : Int) ≤ at' → (∀ q ∈ fz, q ∈ fz') → (W, tupOf [rest, .int at' ta, .ref T0]) ∈ fz' → OwnOff fz' [pl, hdt, vd, lg] →
      Fr h₀ L h' m → News h₀ L h' ((pl, listOf its np) :: (hdt, hostDict w.params t1 t2 t3 t4 t5 t6 tl tw ts vd rf lg k) :: (vd, ov) :: (lg, listOf ls nl) :: fz') → Q (.ref W) { s with heap := h', toks := tk' })
    (hN : ∀ W W2 C3 te fz' h' tk', at' < (x.length : Int) → (∀ q ∈ fz, q ∈ fz') → (W, tupOf [rest, .int at' ta, .ref T0]) ∈ fz' → (W2, tupOf [.ref C3, .int (at' + 1) te, .ref T0]) ∈ fz' → (C3, tupOf [.ref nd, rest]) ∈ fz' → OwnOff fz' [pl, hdt, vd, lg] →
      Fr h₀ L h' m → News h₀ L h' ((pl, listOf (its.push (.ref W2)) (np + 1)) :: (hdt, hostDict w.params t1 t2 t3 t4 t5 t6 tl tw ts vd rf lg k) :: (vd, ov) :: (lg, listOf ls nl) :: fz') → Q (.ref W) { s with heap := h', toks := tk' }) :
    wpAny (model prog w) (ktrTop dp un gd cn cs L a ccd cl outer) (call (.ref 418) [.ref C, .int at' ta, .ref T0, .str x tx, .ref pl, .ref hx]) Q E s := by
  refine adv_arb (mu := [(hdt, _), (vd, _), (lg, _)]) (fz := fz) B F X N T hk hdp hun (memR hC) (memR hnd) hoff ?_ hx8 h0 h1 hits hM hN
  refine off_cons ?_ (off_cons ?_ (off_cons ?_ (fun _ h => nomatch h))) <;> (intro b hb; rw [List.mem_singleton.mp hb]; dsimp only; omega)
theorem t_arb1 {x : PySem.Str} {at' k : Int} {v ta tx t1 t2 t3 t4 t5 t6 tl tw ts : Tok} {C nd T0 pl hx hdt vd rf lg : Addr} {rest : Value} {ls : Array Value} {np nl : Nat} {ov : Obj}  {fz : List (Addr × Obj)}
    (B : Below A₀ base outer h₀) (F : Fr h₀ L s.heap m) (X : (hd.heap_39 w.params).In h₀)
    (N : News h₀ L s.heap ((pl, listOf #[] np) :: (hdt, hostDict w.params t1 t2 t3 t4 t5 t6 tl tw ts vd rf lg k) :: (vd, ov) :: (lg, listOf ls nl) :: fz)) (T : Top p loose mean mg mb h₀) (hk : cs.kind = .function)
    (hdp : dp + 8 < recursionLimit) (hun : un + 60 < cLine)
    (hC : (C, tupOf [.ref nd, rest]) ∈ fz) (hnd : (nd, tupOf [.str (PySem.Str.ofString "arb") v]) ∈ fz) (hoff : OwnOff fz [pl, hdt, vd, lg]) (hne : @Ne Nat pl hdt ∧ @Ne Nat pl vd ∧ @Ne Nat pl lg ∧ @Ne Nat hdt vd ∧ @Ne Nat hdt lg ∧ @Ne Nat vd lg) (hx8 : x.length ≤ 8) (h0 : 0 ≤ at') (h1 : at' ≤ 8)
    (hN : ∀ W its' np' fz' h' tk', Pushed x.length at' its' T0 (tupOf [.ref nd, rest]) fz' → (∀ q ∈ fz, q ∈ fz') → (W, tupOf [rest, .int at' ta, .ref T0]) ∈ fz' → OwnOff fz' [pl, hdt, vd, lg] →
      Fr h₀ L h' m → News h₀ L h' ((pl, listOf its' np') :: (hdt, hostDict w.params t1 t2 t3 t4 t5 t6 tl tw ts vd rf lg k) :: (vd, ov) :: (lg, listOf ls nl) :: fz') → Q (.ref W) { s with heap := h', toks := tk' }) :
    wpAny (model prog w) (ktrTop dp un gd cn cs L a ccd cl outer) (call (.ref 418) [.ref C, .int at' ta, .ref T0, .str x tx, .ref pl, .ref hx]) Q E s :=
  t_arb B F X N T hk hdp hun hC hnd hoff hne hx8 h0 h1 (by simp) (fun W fz' h' tk' hl hs hW ho F' N' => hN W _ _ fz' h' tk' (.inl ⟨hl, rfl⟩) hs hW ho F' N')
    (fun W W2 C3 te fz' h' tk' hl hs hW hW2 hC3 ho F' N' => hN W _ _ fz' h' tk' (.inr ⟨hl, W2, C3, te, rfl, hW2, hC3⟩) hs hW ho F' N')
theorem t_end {x : PySem.Str} {at' k : Int} {v ta tx tb t1 t2 t3 t4 t5 t6 tl tw ts u1 u2 u3 u4 u5 : Tok} {C nd T0 pl hx hdt vd rf lg nm ndt : Addr} {rest : Value} {its ls : Array Value} {np nl nr : Nat} {ov : Obj} {kvs : List (PySem.Str × Value)} {fz : List (Addr × Obj)} {bg : Int}
    (B : Below A₀ base outer h₀) (F : Fr h₀ L s.heap m) (X : (hd.heap_39 w.params).In h₀)
    (N : News h₀ L s.heap ((pl, listOf its np) :: (hdt, hostDict w.params t1 t2 t3 t4 t5 t6 tl tw ts vd rf lg k) :: (vd, ov) :: (lg, listOf ls nl) :: fz)) (T : Top p loose mean mg mb h₀) (hk : cs.kind = .function)
    (hdp : dp + 8 < recursionLimit) (hun : un + 60 < cLine)
    (hC : (C, tupOf [.ref nd, rest]) ∈ fz) (hEN : (nd, tupOf [.str (PySem.Str.ofString "end now") v, .ref nm, .int bg tb]) ∈ fz) (hoff : OwnOff fz [pl, hdt, vd, lg]) (hne : @Ne Nat pl hdt ∧ @Ne Nat pl vd ∧ @Ne Nat pl lg ∧ @Ne Nat hdt vd ∧ @Ne Nat hdt lg ∧ @Ne Nat vd lg)
    (hhx : (hx, instObj 236 hdt) ∈ fz) (hrf : (rf, listOf #[] nr) ∈ fz) (hnm : (nm, instObj 145 ndt) ∈ fz) (hnd : (ndt, refDict w.params u1 u2 u3 u4 u5) ∈ fz)
    (hov : ov.IsDictOf (PySem.strKind prog w) kvs) (hkv : kvs = [] ∨ ∃ v0, kvs = [(PySem.Str.ofString "V", v0)]) (hls : ls.size ≤ 100) (hx8 : x.length ≤ 8) (h0 : 0 ≤ at') (h1 : at' ≤ 8) (h2 : 0 ≤ bg) (h3 : bg ≤ 8)
    (hN : ∀ W tp ty ov' fz' h' tk', (∀ q ∈ fz, q ∈ fz') → (W, tupOf [rest, .int at' ta, .ref T0]) ∈ fz' → OwnOff fz' [pl, hdt, vd, lg] → ov'.IsDictOf (PySem.strKind prog w) [(PySem.Str.ofString "V", .str (Txt.slice x (some bg) (some at')) ty)] →
      Fr h₀ L h' m → News h₀ L h' ((pl, listOf its np) :: (hdt, hostDict w.params t1 t2 t3 t4 t5 t6 tl tw ts vd rf lg k) :: (vd, ov') :: (lg, listOf (ls.push (.ref tp)) (nl + 1)) :: fz') → Q (.ref W) { s with heap := h', toks := tk' }) :
    wpAny (model prog w) (ktrTop dp un gd cn cs L a ccd cl outer) (call (.ref 418) [.ref C, .int at' ta, .ref T0, .str x tx, .ref pl, .ref hx]) Q E s := by
  have N2 : News h₀ L s.heap ((vd, ov) :: (lg, listOf ls nl) :: (pl, listOf its np) :: (hdt, hostDict w.params t1 t2 t3 t4 t5 t6 tl tw ts vd rf lg k) :: fz) := fun q hq => N q (by simp only [List.mem_cons] at hq ⊢; rcases hq with h | h | h | h | h <;> simp [h])
  refine adv_end (mu := [(pl, _), (hdt, _)]) (fz := fz) B F X N2 T hk hdp hun (memR hC) (memR hEN) (memR hhx) (.tail _ (.head _)) (memR hrf) (memR hnm) (memR hnd) hov hkv (off_of hoff (by simp)) ?_ hne.2.2.2.2.2 hls hx8 h0 h1 h2 h3 ?_
  · refine off_cons ?_ (off_cons ?_ (fun _ h => nomatch h)) <;> (intro b hb; simp only [List.mem_cons, List.not_mem_nil, or_false] at hb; rcases hb with rfl | rfl <;> (dsimp only; omega))
  · intro W tp ty ov' fz' h' tk' hsub hW hoff' hov' F' N'
    exact hN W tp ty ov' fz' h' tk' hsub hW (off_of hoff' (by simp)) hov' F' (fun q hq => N' q (by simp only [List.mem_cons, List.cons_append, List.nil_append] at hq ⊢; rcases hq with h | h | h | h | h <;> simp [h]))

end
local macro_rules | `(tactic| k_in) => `(tactic| (rename Fr _ _ _ _ => kF9; exact Frag.In.keeps (by with_reducible assumption) (Fr.keep kF9)))
section
variable {prog p : Program} {loose : List PySem.Str} {w : World} {dp un : Nat} {gd : Option (List Code)} {cn : PySem.Str} {cs : Scope} {a : Addr} {ccd : Value} {cl : List (PySem.Str × Addr)} {outer : List Env} {A₀ : Around} {base h₀ : Heap} {L : Addr} {m : PySem.Str → Option Value} {news : List (Addr × Obj)} {s : Shared} {Q E : Value → Shared → Prop} {mean : ExcName → Option Value} {mg mb : PySem.Str → Option Value}
theorem st_chars {x : PySem.Str} {pre : List Int} {k k1 n : Int} (hn : n = 0 + (pre.length : Int)) (h : k1 = k + (pre.length : Int) ∧ ∀ j : Nat, j < pre.length → hit x j = false) (e : hit x n = false) :
    k1 + 1 = k + ((pre ++ [n]).length : Int) ∧ ∀ j : Nat, j < (pre ++ [n]).length → hit x j = false := by
  refine ⟨by rw [List.length_append, h.1]; simp; omega, fun j hj => ?_⟩
  rw [List.length_append, List.length_singleton] at hj
  by_cases hq : j < pre.length
  · exact h.2 j hq
  · have : n = (j : Int) := by omega
    rw [← this]; exact e
theorem match_chars {x : PySem.Str} {k : Int} {t t1 t2 t3 t4 t5 t6 tl tw ts tx tt : Tok} {hx hdt vd rf lg nd : Addr} {keep : List (Addr × Obj)}
    (B : Below A₀ base outer h₀) (F : Fr h₀ L s.heap m) (X : (hd.heap_39 w.params).In h₀)
    (N : News h₀ L s.heap ((hx, instObj 236 hdt) :: (hdt, hostDict w.params t1 t2 t3 t4 t5 t6 tl tw ts vd rf lg k) :: (nd, tupOf [.str (PySem.Str.ofString "chars") t, .str (PySem.Str.ofString "011") tt]) :: keep))
    (T : Top p loose mean mg mb h₀) (hk : cs.kind = .function)
    (hdp : dp + 30 < recursionLimit) (hun : un + 120 < cLine)
    (hx8 : x.length ≤ 8) (hk0 : 0 ≤ k) (hk9 : k ≤ 800) 
    (hne1 : @Ne Nat hx hdt) (hne2 : @Ne Nat hdt nd) (hne3 : @Ne Nat hx nd) (hoff : OwnOff keep [hx, hdt, nd])
    (hN : ∀ ts' h' tk', (∀ j : Nat, j ≤ x.length → hit x j = false) → Fr h₀ L h' m →
      News h₀ L h' ((hx, instObj 236 hdt) :: (hdt, hostDict w.params t1 t2 t3 t4 t5 t6 tl tw ts' vd rf lg (k + ((x.length + 1 : Nat) : Int))) :: (nd, tupOf [.str (PySem.Str.ofString "chars") t, .str (PySem.Str.ofString "011") tt]) :: keep) →
      Q .none { s with heap := h', toks := tk' })
    (hS : ∀ (i : Nat) r le ti te ne ts' h' tk', i ≤ x.length → (∀ j : Nat, j < i → hit x j = false) → hit x i = true → Fr h₀ L h' m →
      News h₀ L h' ((r, tupOf [.int i ti, .int ((i : Int) + 3) te, .ref le]) :: (le, listOf #[] ne) :: (hx, instObj 236 hdt) :: (hdt, hostDict w.params t1 t2 t3 t4 t5 t6 tl tw ts' vd rf lg (k + ((i + 1 : Nat) : Int))) :: (nd, tupOf [.str (PySem.Str.ofString "chars") t, .str (PySem.Str.ofString "011") tt]) :: keep) →
      Q (.ref r) { s with heap := h', toks := tk' }) :
    wpAny (model prog w) (ktrTop dp un gd cn cs L a ccd cl outer) (call (.ref 397) [.ref nd, .str x tx, .bool false, .ref hx]) Q E s := by
  have kM := kstMark
  unfold hostDict at N
  k_with_none
  k_with "pyIter ref" => k_state (fun pre k' => k' = k + (pre.length : Int) ∧ ∀ j : Nat, j < pre.length → hit x j = false) "host.steps"
  k_with "state" => exact st_chars kEq ⟨by assumption, by assumption⟩ e9
  k_with "call ref" => ((with_reducible show wpAny _ _ (call (Value.ref 411) _) _ _ _); refine hold ?_)
  refine wpAny_call ?_
  k_dflt ktr_enter
  k_steps
  any_goals (refine unhold ?_; rename News _ _ _ _ => nN; k_dflt (refine' tried_chars (keep := keep ++ kOwn) ?B ?F ?X nN ?T ?hk ?hd ?hu hx8 ?h2 ?h3 ?h4 ?h5 hne1 hne2 hne3 ?ho ?hN ?hS))
  case B => k_asm
  case F => k_asm
  case X => k_asm
  case T => k_asm
  case hk => exact rfl
  case hd => ktr_room
  case hu => ktr_units
  case h2 => omega
  case h3 => omega
  case h4 => omega
  case h5 => omega
  case ho => exact off_app hoff kOff
  case hN =>
    intro ts' h' tk' e9 F' N'
    unfold hostDict at N'
    clear nN
    (try k_fold)
    k_steps
  case hS =>
    intro r' le' te' ne' ts' h' tk' e9 F' N'
    unfold hostDict at N'
    clear nN
    (try k_fold)
    k_steps
    rename _ = k + (kPre.length : Int) => hP1
    rename ∀ j : Nat, j < kPre.length → _ => hP2
    have hi : kN = ((kPre.length : Nat) : Int) := by omega
    rw [hi] at e9
    rename News _ _ _ _ => nN
    rw [hi, hP1] at nN
    have e4 : k + (kPre.length : Int) + 1 = k + ((kPre.length + 1 : Nat) : Int) := by omega
    rw [e4] at nN
    exact hS kPre.length _ _ _ _ _ _ _ _ (by omega) hP2 e9 (by k_asm) (cb_drop nN (by kst_inAny))
  rename _ = k + _ => hP1
  rename ∀ j : Nat, j < _ → _ => hP2
  rw [rangeKs_length] at hP1 hP2
  have hn : ((x.length : Int) + 1 - 0).toNat = x.length + 1 := by omega
  rw [hn] at hP1 hP2
  rename News _ _ _ _ => nN
  rw [hP1] at nN
  exact hN _ _ _ (fun j hj => hP2 j (by omega)) (by k_asm) nN

end
section
variable {prog p : Program} {loose : List PySem.Str} {w : World} {dp un : Nat} {gd : Option (List Code)} {cn : PySem.Str} {cs : Scope} {a : Addr} {ccd : Value} {cl : List (PySem.Str × Addr)} {outer : List Env} {A₀ : Around} {base h₀ : Heap} {L : Addr} {m : PySem.Str → Option Value} {news : List (Addr × Obj)} {s : Shared} {Q E : Value → Shared → Prop} {mean : ExcName → Option Value} {mg mb : PySem.Str → Option Value}
theorem whl_any {prog : Program} {w : World} {A : Around} {E : Value → Shared → Prop} {env : Env} {test : PySem.Expr} {body orelse : List Stmt} {Q : Flow → Shared → Prop} {k k' : Nat} {s : Shared}
    (h : WhlRest prog w A E env test body orelse Q k s) : WhlRest prog w A E env test body orelse Q k' s := h
theorem whl_indF {prog : Program} {w : World} {A : Around} {E : Value → Shared → Prop} {env : Env} {test : PySem.Expr} {body orelse : List Stmt} {Q : Flow → Shared → Prop} {k : Nat} {s : Shared} {g : Heap} {L : Addr} {m₀ : PySem.Str → Option Value} {led₀ : List (Addr × Obj)}
    (J : Nat → (PySem.Str → Option Value) → List (Addr × Obj) → Prop) (n₀ : Nat) (F : Fr g L s.heap m₀) (N : News g L s.heap led₀) (j : J n₀ m₀ led₀)
    (step : ∀ n m led h tk, J n m led → Fr g L h m → News g L h led →
      (∀ n' m' led' h' tk', n' < n → J n' m' led' → Fr g L h' m' → News g L h' led' → WhlRest prog w A E env test body orelse Q k { s with heap := h', toks := tk' }) →
      WhlRest prog w A E env test body orelse Q k { s with heap := h, toks := tk }) : WhlRest prog w A E env test body orelse Q k s := by
  have key : ∀ n, ∀ m led h tk, J n m led → Fr g L h m → News g L h led → WhlRest prog w A E env test body orelse Q k { s with heap := h, toks := tk } := by
    intro n
    induction n using Nat.strongRecOn with
    | _ n ih => exact fun m led h tk hj hF hN => step n m led h tk hj hF hN (fun n' m' led' h' tk' hlt hj' hF' hN' => ih n' hlt m' led' h' tk' hj' hF' hN')
  exact key n₀ m₀ led₀ s.heap s.toks j F N
theorem packE {h₀ : Heap} {L : Addr} {h : Heap} {ns mu fz : List (Addr × Obj)} {pl : Addr} {o : Obj} (N : News h₀ L h ((pl, o) :: (ns ++ (mu ++ fz)))) (hlt : ∀ n ∈ ns, ∀ q ∈ mu ++ fz, @LT.lt Nat _ q.1 n.1) (hpl : ∀ q ∈ ns ++ (mu ++ fz), @LT.lt Nat _ q.1 pl) (hoff : OwnOff fz (mu.map (·.1))) :
    ∃ fz', (∀ q ∈ fz, q ∈ fz') ∧ (∀ q ∈ ns, q ∈ fz') ∧ OwnOff fz' (pl :: mu.map (·.1)) ∧ (∀ b ∈ mu.map (·.1), @Ne Nat pl b) ∧ News h₀ L h ((pl, o) :: (mu ++ fz')) := by
  obtain ⟨s1, s2, s3⟩ := packP N hlt hpl hoff
  refine ⟨ns ++ fz, s1, fun q hq => List.mem_append_left _ hq, s2, fun b hb => ?_, s3⟩
  obtain ⟨r, hr, rfl⟩ := List.mem_map.mp hb
  exact Nat.ne_of_gt (hpl r (List.mem_append_right _ (List.mem_append_left _ hr)))
theorem frComp {g : Heap} {L : Addr} {h : Heap} {m : PySem.Str → Option Value} {x1 x2 x3 x4 x5 x6 : PySem.Str} {v1 v2 v3 v4 v5 v6 : Value} (F : Fr g L h m) (h1 : m x1 = some v1) (h2 : m x2 = some v2) (h3 : m x3 = some v3) (h4 : m x4 = some v4) (h5 : m x5 = some v5) (h6 : m x6 = some v6) :
    ∃ u : PySem.Str → Option Value, Fr g L h (fun y => if y = x1 then some v1 else if y = x2 then some v2 else if y = x3 then some v3 else if y = x4 then some v4 else if y = x5 then some v5 else if y = x6 then some v6 else u y) := by
  refine ⟨m, ?_⟩
  have e : m = fun y => if y = x1 then some v1 else if y = x2 then some v2 else if y = x3 then some v3 else if y = x4 then some v4 else if y = x5 then some v5 else if y = x6 then some v6 else m y := by
    funext y
    (repeat' split) <;> (first | (subst_vars; assumption) | rfl)
  rw [← e]
  exact F
theorem mapForm {m : PySem.Str → Option Value} {x1 x2 x3 : PySem.Str} {v1 v2 v3 : Value} (h1 : m x1 = some v1) (h2 : m x2 = some v2) (h3 : m x3 = some v3) :
    m = fun y => if y = x1 then some v1 else if y = x2 then some v2 else if y = x3 then some v3 else m y := by
  funext y
  by_cases e1 : y = x1
  · rw [if_pos e1, e1, h1]
  · rw [if_neg e1]
    by_cases e2 : y = x2
    · rw [if_pos e2, e2, h2]
    · rw [if_neg e2]
      by_cases e3 : y = x3
      · rw [if_pos e3, e3, h3]
      · rw [if_neg e3]
local macro_rules | `(tactic| walk_at "WhlRest") => `(tactic| ((with_reducible show WhlRest _ _ _ _ _ (PySem.Expr.Compare (PySem.Expr.Call _ _ _ _) _ _ _) _ _ _ _ _); refine hold ?_))
theorem tried_arb {x : PySem.Str} {pl0 : Nat} {k : Int} {ta tx tb tt t1 t2 t3 t4 t5 t6 tl tw ts u1 u2 u3 u4 u5 v1 v2 v3 v4 v5 v6 : Tok} {hx hdt vd rf lg nm ndt n1 n2 n3 n4 n5 n6 : Addr} {ls : Array Value} {nl nr : Nat} {ov : Obj} {fz : List (Addr × Obj)}
    (B : Below A₀ base outer h₀) (F : Fr h₀ L s.heap m) (X : (hd.heap_39 w.params).In h₀)
    (N : News h₀ L s.heap ((hdt, hostDict w.params t1 t2 t3 t4 t5 t6 tl tw ts vd rf lg k) :: (vd, ov) :: (lg, listOf ls nl) :: fz)) (T : Top p loose mean mg mb h₀) (hk : cs.kind = .function)
    (hdp : dp + 20 < recursionLimit) (hun : un + 120 < cLine)
    (hn6 : (n6, tupOf [.str (PySem.Str.ofString "cat") v6, .ref n4, .ref n5]) ∈ fz) (hn5 : (n5, tupOf [.str (PySem.Str.ofString "chars") v5, .str (PySem.Str.ofString "011") tt]) ∈ fz)
    (hn4 : (n4, tupOf [.str (PySem.Str.ofString "now") v4, .ref n3, .ref nm]) ∈ fz) (hn3 : (n3, tupOf [.str (PySem.Str.ofString "cat") v3, .ref n1, .ref n2]) ∈ fz) (hn2 : (n2, tupOf [.str (PySem.Str.ofString "arb") v2]) ∈ fz) (hn1 : (n1, tupOf [.str (PySem.Str.ofString "tab") v1, .int (pl0 : Int) tb]) ∈ fz)
    (hhx : (hx, instObj 236 hdt) ∈ fz) (hrf : (rf, listOf #[] nr) ∈ fz) (hnm : (nm, instObj 145 ndt) ∈ fz) (hnd : (ndt, refDict w.params u1 u2 u3 u4 u5) ∈ fz)
    (hoff : OwnOff fz [hdt, vd, lg]) (hne : @Ne Nat hdt vd ∧ @Ne Nat hdt lg ∧ @Ne Nat vd lg)
    (hov : ov.IsDictOf (PySem.strKind prog w) []) (hls : ls.size ≤ 10) (hx8 : x.length ≤ 8) (hpl : pl0 ≤ x.length) (hk0 : 0 ≤ k) (hk9 : k ≤ 100)
    (hM : ∀ fz' h' tk', (∀ j : Nat, pl0 ≤ j → j ≤ x.length → hit x j = false) → Fr h₀ L h' m → News h₀ L h' fz' → (∀ q ∈ fz, q ∈ fz') → Q .none { s with heap := h', toks := tk' })
    (hS : ∀ (i : Nat) r le te ne ov' ty fz' h' tk' ts' k', pl0 ≤ i → i ≤ x.length → (∀ j : Nat, pl0 ≤ j → j < i → hit x j = false) → hit x i = true → ov'.IsDictOf (PySem.strKind prog w) [(PySem.Str.ofString "V", .str (Txt.slice x (some 0) (some i)) ty)] → (∀ q ∈ fz, q ∈ fz') →
      Fr h₀ L h' m → News h₀ L h' ((r, tupOf [.int ((i : Int) + 3) te, .ref le]) :: (le, listOf #[] ne) :: (hdt, hostDict w.params t1 t2 t3 t4 t5 t6 tl tw ts' vd rf lg k') :: (vd, ov') :: fz') → Q (.ref r) { s with heap := h', toks := tk' }) :
    wpAny (model prog w) (ktrTop dp un gd cn cs L a ccd cl outer) (call (.ref 411) [.ref n6, .str x tx, .int 0 ta, .ref hx]) Q E s := by
  have kM := kstMark
  k_with_none
  k_with "call ref" => ((with_reducible show wpAny _ _ (call (Value.ref 233) _) _ _ _); refine hold ?_)
  k_with "call ref" => ((with_reducible show wpAny _ _ (call (Value.ref 418) _) _ _ _); refine hold ?_)
  refine wpAny_call ?_
  k_dflt ktr_enter
  k_steps
  refine unhold ?_
  refine whl_any (k := 100) ?_
  k_dflt (refine' whl_turn ?hE ?_; (case hE => first | passes_own | with_unfolding_all passes_own))
  k_steps
  rename News _ _ _ _ => nN0
  obtain ⟨fzA, hsubA, hns, hoffA, hpne, N1⟩ := packE (ns := [_, _, _]) (mu := [_, _, _]) nN0 (List.forall_mem_cons.mpr ⟨(by first | assumption | exact kst_ltOf (by first | assumption | exact And.right (by assumption) | exact And.right (And.right (by assumption)) | exact And.right (And.right (And.right (by assumption))) | exact And.right (And.right (And.right (And.right (by assumption)))) | exact And.right (And.right (And.right (And.right (And.right (by assumption))))))), (List.forall_mem_cons.mpr ⟨(by first | assumption | exact kst_ltOf (by first | assumption | exact And.right (by assumption) | exact And.right (And.right (by assumption)) | exact And.right (And.right (And.right (by assumption))) | exact And.right (And.right (And.right (And.right (by assumption)))) | exact And.right (And.right (And.right (And.right (And.right (by assumption))))))), (List.forall_mem_cons.mpr ⟨(by first | assumption | exact kst_ltOf (by first | assumption | exact And.right (by assumption) | exact And.right (And.right (by assumption)) | exact And.right (And.right (And.right (by assumption))) | exact And.right (And.right (And.right (And.right (by assumption)))) | exact And.right (And.right (And.right (And.right (And.right (by assumption))))))), (List.forall_mem_nil _)⟩)⟩)⟩) (kst_ltOf (by assumption)) hoff
  have hC0 := hns _ (.tail _ (.tail _ (.head _)))
  have hT0 := hns _ (.tail _ (.head _))
  have hneA := And.intro (hpne hdt (.head _)) (And.intro (hpne vd (.tail _ (.head _))) (And.intro (hpne lg (.tail _ (.tail _ (.head _)))) hne))
  simp only [List.cons_append, List.nil_append] at N1
  clear nN0 hns hpne
  repeat (rename (_ < _ ∧ _) => l9; clear l9)
  replace hn6 := hsubA _ hn6
  replace hn5 := hsubA _ hn5
  replace hn4 := hsubA _ hn4
  replace hn3 := hsubA _ hn3
  replace hn2 := hsubA _ hn2
  replace hn1 := hsubA _ hn1
  replace hhx := hsubA _ hhx
  replace hrf := hsubA _ hrf
  replace hnm := hsubA _ hnm
  replace hnd := hsubA _ hnd
  rename Fr _ _ _ _ => kF
  obtain ⟨u9, F9⟩ := frComp kF (x1 := PySem.Str.ofString "chain") (x2 := PySem.Str.ofString "at") (x3 := PySem.Str.ofString "named") (x4 := PySem.Str.ofString "pile") (x5 := PySem.Str.ofString "subject") (x6 := PySem.Str.ofString "host") rfl rfl rfl rfl rfl rfl
  clear kF
  refine unhold ?_
  rename News _ _ _ _ => nN
  k_dflt (refine' t_step ?B_1 ?F_1 ?X_1 nN ?T_1 ?hk_1 ?hd_1 ?hu_1 hhx hoffA hneA ?h0_1 ?h9_1 ?hN_1)
  case B_1 => k_asm
  case F_1 => k_asm
  case X_1 => k_asm
  case T_1 => k_asm
  case hk_1 => exact rfl
  case hd_1 => (show dp + 1 + 3 < recursionLimit; omega)
  case hu_1 => (show un + 3 + 20 < cLine; omega)
  case h0_1 => omega
  case h9_1 => omega
  intro ts' h' tk' F' N'
  clear nN
  (try dsimp only)
  (try k_fold)
  k_steps
  refine unhold ?_
  rename News _ _ _ _ => nN
  k_dflt (refine' t_cat ?B_2 ?F_2 ?X_2 nN ?T_2 ?hk_2 ?hd_2 ?hu_2 hC0 hn6 hoffA ?hN_2)
  case B_2 => k_asm
  case F_2 => k_asm
  case X_2 => k_asm
  case T_2 => k_asm
  case hk_2 => exact rfl
  case hd_2 => (show dp + 1 + 8 < recursionLimit; omega)
  case hu_2 => (show un + 3 + 60 < cLine; omega)
  intro W1 C1 R1 fz1 h' tk' hsub1 hW1 hC1 hR1 hoff1 F' N'
  clear nN
  replace hn5 := hsub1 _ hn5
  replace hn2 := hsub1 _ hn2
  replace hhx := hsub1 _ hhx
  replace hrf := hsub1 _ hrf
  replace hnm := hsub1 _ hnm
  replace hnd := hsub1 _ hnd
  replace hT0 := hsub1 _ hT0
  replace hn4 := hsub1 _ hn4
  replace hn3 := hsub1 _ hn3
  replace hn1 := hsub1 _ hn1
  replace hsubA := fun q hq => hsub1 q (hsubA q hq)
  (try dsimp only)
  (try k_fold)
  clear hoffA
  have hoffA := hoff1
  clear hoff1 hsub1
  clear hC0 hn6
  k_steps
  rename Fr _ _ _ _ => kF
  obtain ⟨u9, F9⟩ := frComp kF (x1 := PySem.Str.ofString "chain") (x2 := PySem.Str.ofString "at") (x3 := PySem.Str.ofString "named") (x4 := PySem.Str.ofString "pile") (x5 := PySem.Str.ofString "subject") (x6 := PySem.Str.ofString "host") rfl rfl rfl rfl rfl rfl
  clear kF
  refine unhold ?_
  rename News _ _ _ _ => nN
  k_dflt (refine' t_step ?B_3 ?F_3 ?X_3 nN ?T_3 ?hk_3 ?hd_3 ?hu_3 hhx hoffA hneA ?h0_3 ?h9_3 ?hN_3)
  case B_3 => k_asm
  case F_3 => k_asm
  case X_3 => k_asm
  case T_3 => k_asm
  case hk_3 => exact rfl
  case hd_3 => (show dp + 1 + 3 < recursionLimit; omega)
  case hu_3 => (show un + 3 + 20 < cLine; omega)
  case h0_3 => omega
  case h9_3 => omega
  intro ts' h' tk' F' N'
  clear nN
  (try dsimp only)
  (try k_fold)
  k_steps
  refine unhold ?_
  rename News _ _ _ _ => nN
  k_dflt (refine' t_now ?B_4 ?F_4 ?X_4 nN ?T_4 ?hk_4 ?hd_4 ?hu_4 hC1 hn4 hoffA ?hN_4)
  case B_4 => k_asm
  case F_4 => k_asm
  case X_4 => k_asm
  case T_4 => k_asm
  case hk_4 => exact rfl
  case hd_4 => (show dp + 1 + 8 < recursionLimit; omega)
  case hu_4 => (show un + 3 + 60 < cLine; omega)
  intro W2 C2 R2 EN te fz2 h' tk' hsub2 hW2 hC2 hR2 hEN hoff2 F' N'
  clear nN
  replace hn5 := hsub2 _ hn5
  replace hn2 := hsub2 _ hn2
  replace hhx := hsub2 _ hhx
  replace hrf := hsub2 _ hrf
  replace hnm := hsub2 _ hnm
  replace hnd := hsub2 _ hnd
  replace hT0 := hsub2 _ hT0
  replace hn3 := hsub2 _ hn3
  replace hn1 := hsub2 _ hn1
  replace hR1 := hsub2 _ hR1
  replace hsubA := fun q hq => hsub2 q (hsubA q hq)
  (try dsimp only)
  (try k_fold)
  clear hoffA hW1
  have hoffA := hoff2
  clear hoff2 hsub2
  clear hC1 hn4
  k_steps
  rename Fr _ _ _ _ => kF
  obtain ⟨u9, F9⟩ := frComp kF (x1 := PySem.Str.ofString "chain") (x2 := PySem.Str.ofString "at") (x3 := PySem.Str.ofString "named") (x4 := PySem.Str.ofString "pile") (x5 := PySem.Str.ofString "subject") (x6 := PySem.Str.ofString "host") rfl rfl rfl rfl rfl rfl
  clear kF
  refine unhold ?_
  rename News _ _ _ _ => nN
  k_dflt (refine' t_step ?B_5 ?F_5 ?X_5 nN ?T_5 ?hk_5 ?hd_5 ?hu_5 hhx hoffA hneA ?h0_5 ?h9_5 ?hN_5)
  case B_5 => k_asm
  case F_5 => k_asm
  case X_5 => k_asm
  case T_5 => k_asm
  case hk_5 => exact rfl
  case hd_5 => (show dp + 1 + 3 < recursionLimit; omega)
  case hu_5 => (show un + 3 + 20 < cLine; omega)
  case h0_5 => omega
  case h9_5 => omega
  intro ts' h' tk' F' N'
  clear nN
  (try dsimp only)
  (try k_fold)
  k_steps
  refine unhold ?_
  rename News _ _ _ _ => nN
  k_dflt (refine' t_cat ?B_6 ?F_6 ?X_6 nN ?T_6 ?hk_6 ?hd_6 ?hu_6 hC2 hn3 hoffA ?hN_6)
  case B_6 => k_asm
  case F_6 => k_asm
  case X_6 => k_asm
  case T_6 => k_asm
  case hk_6 => exact rfl
  case hd_6 => (show dp + 1 + 8 < recursionLimit; omega)
  case hu_6 => (show un + 3 + 60 < cLine; omega)
  intro W3 C3 R3 fz3 h' tk' hsub3 hW3 hC3 hR3 hoff3 F' N'
  clear nN
  replace hn5 := hsub3 _ hn5
  replace hn2 := hsub3 _ hn2
  replace hhx := hsub3 _ hhx
  replace hrf := hsub3 _ hrf
  replace hnm := hsub3 _ hnm
  replace hnd := hsub3 _ hnd
  replace hT0 := hsub3 _ hT0
  replace hn1 := hsub3 _ hn1
  replace hR1 := hsub3 _ hR1
  replace hR2 := hsub3 _ hR2
  replace hEN := hsub3 _ hEN
  replace hsubA := fun q hq => hsub3 q (hsubA q hq)
  (try dsimp only)
  (try k_fold)
  clear hoffA hW2
  have hoffA := hoff3
  clear hoff3 hsub3
  clear hC2 hn3
  k_steps
  rename Fr _ _ _ _ => kF
  obtain ⟨u9, F9⟩ := frComp kF (x1 := PySem.Str.ofString "chain") (x2 := PySem.Str.ofString "at") (x3 := PySem.Str.ofString "named") (x4 := PySem.Str.ofString "pile") (x5 := PySem.Str.ofString "subject") (x6 := PySem.Str.ofString "host") rfl rfl rfl rfl rfl rfl
  clear kF
  refine unhold ?_
  rename News _ _ _ _ => nN
  k_dflt (refine' t_step ?B_7 ?F_7 ?X_7 nN ?T_7 ?hk_7 ?hd_7 ?hu_7 hhx hoffA hneA ?h0_7 ?h9_7 ?hN_7)
  case B_7 => k_asm
  case F_7 => k_asm
  case X_7 => k_asm
  case T_7 => k_asm
  case hk_7 => exact rfl
  case hd_7 => (show dp + 1 + 3 < recursionLimit; omega)
  case hu_7 => (show un + 3 + 20 < cLine; omega)
  case h0_7 => omega
  case h9_7 => omega
  intro ts' h' tk' F' N'
  clear nN
  (try dsimp only)
  (try k_fold)
  k_steps
  refine unhold ?_
  rename News _ _ _ _ => nN
  k_dflt (refine' t_tab ?B_8 ?F_8 ?X_8 nN ?T_8 ?hk_8 ?hd_8 ?hu_8 hC3 hn1 hoffA hx8 ?h1_8 ?h2_8 ?h3_8 ?hN_8)
  case B_8 => k_asm
  case F_8 => k_asm
  case X_8 => k_asm
  case T_8 => k_asm
  case hk_8 => exact rfl
  case hd_8 => (show dp + 1 + 8 < recursionLimit; omega)
  case hu_8 => (show un + 3 + 60 < cLine; omega)
  case h1_8 => omega
  case h2_8 => omega
  case h3_8 => omega
  intro W4 fz4 h' tk' hsub4 hW4 hoff4 F' N'
  clear nN
  replace hn5 := hsub4 _ hn5
  replace hn2 := hsub4 _ hn2
  replace hhx := hsub4 _ hhx
  replace hrf := hsub4 _ hrf
  replace hnm := hsub4 _ hnm
  replace hnd := hsub4 _ hnd
  replace hT0 := hsub4 _ hT0
  replace hR1 := hsub4 _ hR1
  replace hR2 := hsub4 _ hR2
  replace hR3 := hsub4 _ hR3
  replace hEN := hsub4 _ hEN
  replace hsubA := fun q hq => hsub4 q (hsubA q hq)
  (try dsimp only)
  (try k_fold)
  clear hoffA hW3
  have hoffA := hoff4
  clear hoff4 hsub4
  clear hC3 hn1
  k_steps
  rename Fr _ _ _ _ => kF
  obtain ⟨u9, F9⟩ := frComp kF (x1 := PySem.Str.ofString "chain") (x2 := PySem.Str.ofString "at") (x3 := PySem.Str.ofString "named") (x4 := PySem.Str.ofString "pile") (x5 := PySem.Str.ofString "subject") (x6 := PySem.Str.ofString "host") rfl rfl rfl rfl rfl rfl
  clear kF
  refine unhold ?_
  rename News _ _ _ _ => nN
  k_dflt (refine' t_step ?B_9 ?F_9 ?X_9 nN ?T_9 ?hk_9 ?hd_9 ?hu_9 hhx hoffA hneA ?h0_9 ?h9_9 ?hN_9)
  case B_9 => k_asm
  case F_9 => k_asm
  case X_9 => k_asm
  case T_9 => k_asm
  case hk_9 => exact rfl
  case hd_9 => (show dp + 1 + 3 < recursionLimit; omega)
  case hu_9 => (show un + 3 + 20 < cLine; omega)
  case h0_9 => omega
  case h9_9 => omega
  intro ts' h' tk' F' N'
  clear nN
  (try dsimp only)
  (try k_fold)
  k_steps
  refine unhold ?_
  rename News _ _ _ _ => nN
  k_dflt (refine' t_arb1 ?B_10 ?F_10 ?X_10 nN ?T_10 ?hk_10 ?hd_10 ?hu_10 hR3 hn2 hoffA hneA hx8 ?h1_10 ?h2_10 ?hN_10)
  case B_10 => k_asm
  case F_10 => k_asm
  case X_10 => k_asm
  case T_10 => k_asm
  case hk_10 => exact rfl
  case hd_10 => (show dp + 1 + 8 < recursionLimit; omega)
  case hu_10 => (show un + 3 + 60 < cLine; omega)
  case h1_10 => omega
  case h2_10 => omega
  intro W5 its5 np5 fz5 h' tk' hdj hsub5 hW5 hoff5 F' N'
  clear nN
  replace hn5 := hsub5 _ hn5
  replace hn2 := hsub5 _ hn2
  replace hhx := hsub5 _ hhx
  replace hrf := hsub5 _ hrf
  replace hnm := hsub5 _ hnm
  replace hnd := hsub5 _ hnd
  replace hT0 := hsub5 _ hT0
  replace hR1 := hsub5 _ hR1
  replace hR2 := hsub5 _ hR2
  replace hEN := hsub5 _ hEN
  replace hsubA := fun q hq => hsub5 q (hsubA q hq)
  (try dsimp only)
  (try k_fold)
  clear hoffA hW4
  have hoffA := hoff5
  clear hoff5 hsub5
  clear hR3
  k_steps
  rename Fr _ _ _ _ => kF
  obtain ⟨u9, F9⟩ := frComp kF (x1 := PySem.Str.ofString "chain") (x2 := PySem.Str.ofString "at") (x3 := PySem.Str.ofString "named") (x4 := PySem.Str.ofString "pile") (x5 := PySem.Str.ofString "subject") (x6 := PySem.Str.ofString "host") rfl rfl rfl rfl rfl rfl
  clear kF
  refine unhold ?_
  rename News _ _ _ _ => nN
  k_dflt (refine' t_step ?B_11 ?F_11 ?X_11 nN ?T_11 ?hk_11 ?hd_11 ?hu_11 hhx hoffA hneA ?h0_11 ?h9_11 ?hN_11)
  case B_11 => k_asm
  case F_11 => k_asm
  case X_11 => k_asm
  case T_11 => k_asm
  case hk_11 => exact rfl
  case hd_11 => (show dp + 1 + 3 < recursionLimit; omega)
  case hu_11 => (show un + 3 + 20 < cLine; omega)
  case h0_11 => omega
  case h9_11 => omega
  intro ts' h' tk' F' N'
  clear nN
  (try dsimp only)
  (try k_fold)
  k_steps
  refine unhold ?_
  rename News _ _ _ _ => nN
  k_dflt (refine' t_end ?B_12 ?F_12 ?X_12 nN ?T_12 ?hk_12 ?hd_12 ?hu_12 hR2 hEN hoffA hneA hhx hrf hnm hnd hov (.inl rfl) ?h9_12 hx8 ?h1_12 ?h2_12 ?h3_12 ?h4_12 ?hN_12)
  case B_12 => k_asm
  case F_12 => k_asm
  case X_12 => k_asm
  case T_12 => k_asm
  case hk_12 => exact rfl
  case hd_12 => (show dp + 1 + 8 < recursionLimit; omega)
  case hu_12 => (show un + 3 + 60 < cLine; omega)
  case h9_12 => omega
  case h1_12 => omega
  case h2_12 => omega
  case h3_12 => omega
  case h4_12 => omega
  intro W6 tp6 ty6 ov6 fz6 h' tk' hsub6 hW6 hoff6 hov6 F' N'
  clear nN
  replace hdj := hdj.mono hsub6
  replace hn5 := hsub6 _ hn5
  replace hn2 := hsub6 _ hn2
  replace hhx := hsub6 _ hhx
  replace hrf := hsub6 _ hrf
  replace hnm := hsub6 _ hnm
  replace hnd := hsub6 _ hnd
  replace hT0 := hsub6 _ hT0
  replace hR1 := hsub6 _ hR1
  replace hR2 := hsub6 _ hR2
  replace hEN := hsub6 _ hEN
  replace hsubA := fun q hq => hsub6 q (hsubA q hq)
  (try dsimp only)
  (try k_fold)
  clear hoffA hW5
  have hoffA := hoff6
  clear hoff6 hsub6
  k_steps
  rename Fr _ _ _ _ => kF
  obtain ⟨u9, F9⟩ := frComp kF (x1 := PySem.Str.ofString "chain") (x2 := PySem.Str.ofString "at") (x3 := PySem.Str.ofString "named") (x4 := PySem.Str.ofString "pile") (x5 := PySem.Str.ofString "subject") (x6 := PySem.Str.ofString "host") rfl rfl rfl rfl rfl rfl
  clear kF
  refine unhold ?_
  rename News _ _ _ _ => nN
  k_dflt (refine' t_step ?B_13 ?F_13 ?X_13 nN ?T_13 ?hk_13 ?hd_13 ?hu_13 hhx hoffA hneA ?h0_13 ?h9_13 ?hN_13)
  case B_13 => k_asm
  case F_13 => k_asm
  case X_13 => k_asm
  case T_13 => k_asm
  case hk_13 => exact rfl
  case hd_13 => (show dp + 1 + 3 < recursionLimit; omega)
  case hu_13 => (show un + 3 + 20 < cLine; omega)
  case h0_13 => omega
  case h9_13 => omega
  intro ts' h' tk' F' N'
  clear nN
  (try dsimp only)
  (try k_fold)
  k_steps
  refine unhold ?_
  rename News _ _ _ _ => nN
  k_dflt (refine' t_chars ?B_14 ?F_14 ?X_14 nN ?T_14 ?hk_14 ?hd_14 ?hu_14 hR1 hn5 hoffA hx8 ?h1_14 ?h2_14 ?hM_14 ?hN_14)
  case B_14 => k_asm
  case F_14 => k_asm
  case X_14 => k_asm
  case T_14 => k_asm
  case hk_14 => exact rfl
  case hd_14 => (show dp + 1 + 8 < recursionLimit; omega)
  case hu_14 => (show un + 3 + 60 < cLine; omega)
  case h1_14 => omega
  case h2_14 => omega
  case hN_14 =>
    intro W9 te9 fz9 h' tk' hit9 hsub9 hW9 hoff9 F' N'
    clear nN
    replace hhx := hsub9 _ hhx
    replace hT0 := hsub9 _ hT0
    replace hsubA := fun q hq => hsub9 q (hsubA q hq)
    (try dsimp only)
    (try k_fold)
    k_steps
    rename News _ _ _ _ => nN
    exact hS pl0 _ _ _ _ _ _ _ _ _ _ _ (Nat.le_refl _) hpl (fun j h1 h2 => absurd h2 (Nat.not_lt.mpr h1)) hit9 hov6 hsubA (by k_asm) (cb_drop nN (by kst_inAny))
  intro h' tk' hit9 F' N'
  clear nN
  (try dsimp only)
  (try k_fold)
  k_steps
  refine unhold ?_
  refine whl_any (k := 100) ?_
  rename Fr _ _ _ _ => kF
  rename News _ _ _ _ => nN
  refine whl_indF (fun n m' led => ∃ (i : Nat) (its : Array Value) (np : Nat) (k' : Int) (ts' : Tok) (ov' : Obj) (kvs : List (PySem.Str × Value)) (ls' : Array Value) (nl' : Nat) (fz' : List (Addr × Obj)) (u : PySem.Str → Option Value) (pl C W R2 EN R1 T0 : Addr) (te tq : Tok),
    m' = (fun y => if y = PySem.Str.ofString "pile" then some (.ref pl) else if y = PySem.Str.ofString "subject" then some (.str x tx) else if y = PySem.Str.ofString "host" then some (.ref hx) else u y) ∧
    led = (pl, listOf its np) :: (hdt, hostDict w.params t1 t2 t3 t4 t5 t6 tl tw ts' vd rf lg k') :: (vd, ov') :: (lg, listOf ls' nl') :: fz' ∧
    (n2, tupOf [.str (PySem.Str.ofString "arb") v2]) ∈ fz' ∧ (n5, tupOf [.str (PySem.Str.ofString "chars") v5, .str (PySem.Str.ofString "011") tt]) ∈ fz' ∧ (hx, instObj 236 hdt) ∈ fz' ∧ (rf, listOf #[] nr) ∈ fz' ∧ (nm, instObj 145 ndt) ∈ fz' ∧ (ndt, refDict w.params u1 u2 u3 u4 u5) ∈ fz' ∧
    (R2, tupOf [.ref EN, .ref R1]) ∈ fz' ∧ (EN, tupOf [.str (PySem.Str.ofString "end now") te, .ref nm, .int 0 ta]) ∈ fz' ∧ (R1, tupOf [.ref n5, .none]) ∈ fz' ∧ (T0, tupOf []) ∈ fz' ∧
    OwnOff fz' [pl, hdt, vd, lg] ∧ (@Ne Nat pl hdt ∧ @Ne Nat pl vd ∧ @Ne Nat pl lg ∧ @Ne Nat hdt vd ∧ @Ne Nat hdt lg ∧ @Ne Nat vd lg) ∧
    ov'.IsDictOf (PySem.strKind prog w) kvs ∧ (kvs = [] ∨ ∃ v0, kvs = [(PySem.Str.ofString "V", v0)]) ∧ ls'.size ≤ 20 + i ∧ 0 ≤ k' ∧ k' ≤ 200 + 3 * i ∧ (∀ q ∈ fz, q ∈ fz') ∧
    (∀ j : Nat, pl0 ≤ j → j < i → hit x j = false) ∧ pl0 < i ∧
    ((n = x.length + 1 - i ∧ i ≤ x.length ∧ its = #[.ref W] ∧ (W, tupOf [.ref C, .int (i : Int) tq, .ref T0]) ∈ fz' ∧ (C, tupOf [.ref n2, .ref R2]) ∈ fz') ∨ (n = 0 ∧ i = x.length + 1 ∧ its = #[]))) (x.length + 1 - (pl0 + 1)) kF nN ?j ?stp
  case j =>
    have hkv6 : ([(PySem.Str.ofString "V", Value.str (Txt.slice x (some 0) (some (pl0 : Int))) ty6)] : List (PySem.Str × Value)) = [] ∨ ∃ v0, ([(PySem.Str.ofString "V", Value.str (Txt.slice x (some 0) (some (pl0 : Int))) ty6)] : List (PySem.Str × Value)) = [(PySem.Str.ofString "V", v0)] := .inr ⟨_, rfl⟩
    have hhit : ∀ j : Nat, pl0 ≤ j → j < pl0 + 1 → hit x j = false := fun j h1 h2 => by
      have : j = pl0 := by omega
      rw [this]; exact hit9
    rcases hdj with ⟨h1, rfl⟩ | ⟨h1, W2, C3, te', rfl, h3, h4⟩
    · exact ⟨pl0 + 1, _, _, _, _, _, _, _, _, _, _, _, 0, 0, R2, EN, R1, _, te, 0, mapForm rfl rfl rfl, rfl, hn2, hn5, hhx, hrf, hnm, hnd, hR2, hEN, hR1, hT0, hoffA, hneA, hov6, hkv6, (by rw [Array.size_push]; omega), (by omega), (by omega), hsubA, hhit, (Nat.lt_succ_self _), .inr ⟨by omega, by omega, rfl⟩⟩
    · have e1 : (pl0 : Int) + 1 = ((pl0 + 1 : Nat) : Int) := by omega
      rw [e1] at h3
      exact ⟨pl0 + 1, _, _, _, _, _, _, _, _, _, _, _, C3, W2, R2, EN, R1, _, te, te', mapForm rfl rfl rfl, rfl, hn2, hn5, hhx, hrf, hnm, hnd, hR2, hEN, hR1, hT0, hoffA, hneA, hov6, hkv6, (by rw [Array.size_push]; omega), (by omega), (by omega), hsubA, hhit, (Nat.lt_succ_self _), .inl ⟨rfl, by omega, rfl, h3, h4⟩⟩
  case stp =>
  clear hit9 hov6 hdj hW6 hn2 hn5 hhx hrf hnm hnd hT0 hR1 hR2 hEN hsubA hoffA hneA nN kF
  intro n9 m9 led9 h9 tk9 hJ F' N' ih
  obtain ⟨i, its, np, k', ts', ov', kvs, ls', nl', fz', u, pl, C, W, R2, EN, R1, T0, te, tq, rfl, rfl, hn2, hn5, hhx, hrf, hnm, hnd, hR2, hEN, hR1, hT0, hoffA, hneA, hov, hkv, hls9, hk0', hk9', hsubA, hhit, hpi, hcase⟩ := hJ
  k_dflt (refine' whl_turn ?hE9 ?_; (case hE9 => first | passes_own | with_unfolding_all passes_own))
  rcases hcase with ⟨hn9, hi8, rfl, hW, hC⟩ | ⟨hn9, hi8, rfl⟩
  case inr =>
    k_steps
    rename News _ _ _ _ => nN
    exact hM _ _ _ (fun j h1 h2 => hhit j h1 (by omega)) (by k_asm) (dropL (ns := [_, _, _, _]) nN) hsubA
  case inl =>
  k_steps
  rename Fr _ _ _ _ => kF
  obtain ⟨u9, F9⟩ := frComp kF (x1 := PySem.Str.ofString "chain") (x2 := PySem.Str.ofString "at") (x3 := PySem.Str.ofString "named") (x4 := PySem.Str.ofString "pile") (x5 := PySem.Str.ofString "subject") (x6 := PySem.Str.ofString "host") rfl rfl rfl rfl rfl rfl
  clear kF
  refine unhold ?_
  rename News _ _ _ _ => nN
  k_dflt (refine' t_step ?B_15 ?F_15 ?X_15 nN ?T_15 ?hk_15 ?hd_15 ?hu_15 hhx hoffA hneA ?h0_15 ?h9_15 ?hN_15)
  case B_15 => k_asm
  case F_15 => k_asm
  case X_15 => k_asm
  case T_15 => k_asm
  case hk_15 => exact rfl
  case hd_15 => (show dp + 1 + 3 < recursionLimit; omega)
  case hu_15 => (show un + 3 + 20 < cLine; omega)
  case h0_15 => omega
  case h9_15 => omega
  intro ts' h' tk' F' N'
  clear nN
  (try dsimp only)
  (try k_fold)
  k_steps
  refine unhold ?_
  rename News _ _ _ _ => nN
  k_dflt (refine' t_arb1 ?B_16 ?F_16 ?X_16 nN ?T_16 ?hk_16 ?hd_16 ?hu_16 hC hn2 hoffA hneA hx8 ?h1_16 ?h2_16 ?hN_16)
  case B_16 => k_asm
  case F_16 => k_asm
  case X_16 => k_asm
  case T_16 => k_asm
  case hk_16 => exact rfl
  case hd_16 => (show dp + 1 + 8 < recursionLimit; omega)
  case hu_16 => (show un + 3 + 60 < cLine; omega)
  case h1_16 => omega
  case h2_16 => omega
  intro W5 its5 np5 fz5 h' tk' hdj hsub5 hW5 hoff5 F' N'
  clear nN
  replace hn5 := hsub5 _ hn5
  replace hn2 := hsub5 _ hn2
  replace hhx := hsub5 _ hhx
  replace hrf := hsub5 _ hrf
  replace hnm := hsub5 _ hnm
  replace hnd := hsub5 _ hnd
  replace hT0 := hsub5 _ hT0
  replace hR1 := hsub5 _ hR1
  replace hR2 := hsub5 _ hR2
  replace hEN := hsub5 _ hEN
  replace hsubA := fun q hq => hsub5 q (hsubA q hq)
  (try dsimp only)
  (try k_fold)
  clear hoffA hW
  have hoffA := hoff5
  clear hC hoff5 hsub5
  k_steps
  rename Fr _ _ _ _ => kF
  obtain ⟨u9, F9⟩ := frComp kF (x1 := PySem.Str.ofString "chain") (x2 := PySem.Str.ofString "at") (x3 := PySem.Str.ofString "named") (x4 := PySem.Str.ofString "pile") (x5 := PySem.Str.ofString "subject") (x6 := PySem.Str.ofString "host") rfl rfl rfl rfl rfl rfl
  clear kF
  refine unhold ?_
  rename News _ _ _ _ => nN
  k_dflt (refine' t_step ?B_17 ?F_17 ?X_17 nN ?T_17 ?hk_17 ?hd_17 ?hu_17 hhx hoffA hneA ?h0_17 ?h9_17 ?hN_17)
  case B_17 => k_asm
  case F_17 => k_asm
  case X_17 => k_asm
  case T_17 => k_asm
  case hk_17 => exact rfl
  case hd_17 => (show dp + 1 + 3 < recursionLimit; omega)
  case hu_17 => (show un + 3 + 20 < cLine; omega)
  case h0_17 => omega
  case h9_17 => omega
  intro ts' h' tk' F' N'
  clear nN
  (try dsimp only)
  (try k_fold)
  k_steps
  refine unhold ?_
  rename News _ _ _ _ => nN
  k_dflt (refine' t_end ?B_18 ?F_18 ?X_18 nN ?T_18 ?hk_18 ?hd_18 ?hu_18 hR2 hEN hoffA hneA hhx hrf hnm hnd hov hkv ?h9_18 hx8 ?h1_18 ?h2_18 ?h3_18 ?h4_18 ?hN_18)
  case B_18 => k_asm
  case F_18 => k_asm
  case X_18 => k_asm
  case T_18 => k_asm
  case hk_18 => exact rfl
  case hd_18 => (show dp + 1 + 8 < recursionLimit; omega)
  case hu_18 => (show un + 3 + 60 < cLine; omega)
  case h9_18 => omega
  case h1_18 => omega
  case h2_18 => omega
  case h3_18 => omega
  case h4_18 => omega
  intro W6 tp6 ty6 ov6 fz6 h' tk' hsub6 hW6 hoff6 hov6 F' N'
  clear nN hov
  replace hdj := hdj.mono hsub6
  replace hn5 := hsub6 _ hn5
  replace hn2 := hsub6 _ hn2
  replace hhx := hsub6 _ hhx
  replace hrf := hsub6 _ hrf
  replace hnm := hsub6 _ hnm
  replace hnd := hsub6 _ hnd
  replace hT0 := hsub6 _ hT0
  replace hR1 := hsub6 _ hR1
  replace hR2 := hsub6 _ hR2
  replace hEN := hsub6 _ hEN
  replace hsubA := fun q hq => hsub6 q (hsubA q hq)
  (try dsimp only)
  (try k_fold)
  clear hoffA hW5
  have hoffA := hoff6
  clear hoff6 hsub6
  k_steps
  rename Fr _ _ _ _ => kF
  obtain ⟨u9, F9⟩ := frComp kF (x1 := PySem.Str.ofString "chain") (x2 := PySem.Str.ofString "at") (x3 := PySem.Str.ofString "named") (x4 := PySem.Str.ofString "pile") (x5 := PySem.Str.ofString "subject") (x6 := PySem.Str.ofString "host") rfl rfl rfl rfl rfl rfl
  clear kF
  refine unhold ?_
  rename News _ _ _ _ => nN
  k_dflt (refine' t_step ?B_19 ?F_19 ?X_19 nN ?T_19 ?hk_19 ?hd_19 ?hu_19 hhx hoffA hneA ?h0_19 ?h9_19 ?hN_19)
  case B_19 => k_asm
  case F_19 => k_asm
  case X_19 => k_asm
  case T_19 => k_asm
  case hk_19 => exact rfl
  case hd_19 => (show dp + 1 + 3 < recursionLimit; omega)
  case hu_19 => (show un + 3 + 20 < cLine; omega)
  case h0_19 => omega
  case h9_19 => omega
  intro ts' h' tk' F' N'
  clear nN
  (try dsimp only)
  (try k_fold)
  k_steps
  refine unhold ?_
  rename News _ _ _ _ => nN
  k_dflt (refine' t_chars ?B_20 ?F_20 ?X_20 nN ?T_20 ?hk_20 ?hd_20 ?hu_20 hR1 hn5 hoffA hx8 ?h1_20 ?h2_20 ?hM_20 ?hN_20)
  case B_20 => k_asm
  case F_20 => k_asm
  case X_20 => k_asm
  case T_20 => k_asm
  case hk_20 => exact rfl
  case hd_20 => (show dp + 1 + 8 < recursionLimit; omega)
  case hu_20 => (show un + 3 + 60 < cLine; omega)
  case h1_20 => omega
  case h2_20 => omega
  case hN_20 =>
    intro W9 te9 fz9 h' tk' hit9 hsub9 hW9 hoff9 F' N'
    clear nN
    replace hhx := hsub9 _ hhx
    replace hT0 := hsub9 _ hT0
    replace hsubA := fun q hq => hsub9 q (hsubA q hq)
    (try dsimp only)
    (try k_fold)
    k_steps
    rename News _ _ _ _ => nN
    exact hS i _ _ _ _ _ _ _ _ _ _ _ (Nat.le_of_lt hpi) hi8 hhit hit9 hov6 hsubA (by k_asm) (cb_drop nN (by kst_inAny))
  intro h' tk' hit9 F' N'
  clear nN
  (try dsimp only)
  (try k_fold)
  k_steps
  refine unhold ?_
  refine whl_any (k := 100) ?_
  rename Fr _ _ _ _ => kF
  rename News _ _ _ _ => nN
  have hkv6 : ([(PySem.Str.ofString "V", Value.str (Txt.slice x (some 0) (some (i : Int))) ty6)] : List (PySem.Str × Value)) = [] ∨ ∃ v0, ([(PySem.Str.ofString "V", Value.str (Txt.slice x (some 0) (some (i : Int))) ty6)] : List (PySem.Str × Value)) = [(PySem.Str.ofString "V", v0)] := .inr ⟨_, rfl⟩
  have hhit' : ∀ j : Nat, pl0 ≤ j → j < i + 1 → hit x j = false := fun j h1 h2 => by
    by_cases hq : j < i
    · exact hhit j h1 hq
    · have : j = i := by omega
      rw [this]; exact hit9
  rcases hdj with ⟨h1, rfl⟩ | ⟨h1, W2, C3, te', rfl, h3, h4⟩
  · exact ih 0 _ _ _ _ (by omega) ⟨i + 1, _, _, _, _, _, _, _, _, _, _, _, 0, 0, R2, EN, R1, _, te, 0, mapForm rfl rfl rfl, rfl, hn2, hn5, hhx, hrf, hnm, hnd, hR2, hEN, hR1, hT0, hoffA, hneA, hov6, hkv6, (by rw [Array.size_push]; omega), (by omega), (by omega), hsubA, hhit', (by omega), .inr ⟨rfl, by omega, rfl⟩⟩ kF nN
  · have e1 : (i : Int) + 1 = ((i + 1 : Nat) : Int) := by omega
    rw [e1] at h3
    exact ih (x.length + 1 - (i + 1)) _ _ _ _ (by omega) ⟨i + 1, _, _, _, _, _, _, _, _, _, _, _, C3, W2, R2, EN, R1, _, te, te', mapForm rfl rfl rfl, rfl, hn2, hn5, hhx, hrf, hnm, hnd, hR2, hEN, hR1, hT0, hoffA, hneA, hov6, hkv6, (by rw [Array.size_push]; omega), (by omega), (by omega), hsubA, hhit', (by omega), .inl ⟨rfl, by omega, rfl, h3, h4⟩⟩ kF nN

end
local macro_rules | `(tactic| walk_at "subscriptTail") => `(tactic| (k_here; (with_reducible show wpAny _ _ (subscriptTail _ _ (Value.ref _) (Value.str _ _)) _ _ _); k_dflt (refine' kda_item (knd := PySem.strKind _ _) ?N ?m ?d (strKind_is _ _ _ _) ?l ?_; (case N => k_asm); (case m => k_mem); (case d => k_asm); (case l => rfl))))
section
variable {prog p : Program} {loose : List PySem.Str} {w : World} {dp un : Nat} {gd : Option (List Code)} {cn : PySem.Str} {cs : Scope} {a : Addr} {ccd : Value} {cl : List (PySem.Str × Addr)} {outer : List Env} {A₀ : Around} {base h₀ : Heap} {L : Addr} {m : PySem.Str → Option Value} {news : List (Addr × Obj)} {s : Shared} {Q E : Value → Shared → Prop} {mean : ExcName → Option Value} {mg mb : PySem.Str → Option Value}
theorem rot3 {h₀ : Heap} {L : Addr} {h : Heap} {A B C D : Addr × Obj} {l : List (Addr × Obj)} (N : News h₀ L h (A :: B :: C :: D :: l)) : News h₀ L h (B :: C :: D :: A :: l) := fun q hq => N q (by simp only [List.mem_cons] at hq ⊢; rcases hq with h | h | h | h | h <;> simp [h])
theorem drop7 {h₀ : Heap} {L : Addr} {h : Heap} {A B C D E G H : Addr × Obj} {l : List (Addr × Obj)} (N : News h₀ L h (A :: B :: C :: D :: E :: G :: H :: l)) : News h₀ L h (B :: E :: G :: H :: l) := fun q hq => N q (by simp only [List.mem_cons] at hq ⊢; rcases hq with h | h | h | h | h <;> simp [h])
def turnArb (x : PySem.Str) (i : Nat) : PySem.Str := Txt.slice x none (some 0) ++ (Txt.slice x (some 0) (some (i : Int)) ++ PySem.Str.ofString "100") ++ Txt.slice x (some ((i : Int) + 3)) none
theorem give_spec {r le : Addr} {ne : Nat} {va vb vf : Value} {fz : List (Addr × Obj)}
    (B : Below A₀ base outer h₀) (F : Fr h₀ L s.heap m) (X : (hd.heap_39 w.params).In h₀)
    (N : News h₀ L s.heap ((r, tupOf [va, vb, .ref le]) :: (le, listOf #[] ne) :: fz))
    (T : Top p loose mean mg mb h₀) (hk : cs.kind = .function)
    (hdp : dp + 3 < recursionLimit) (hun : un + 20 < cLine)
    (hN : ∀ h' tk', Fr h₀ L h' m → News h₀ L h' ((r, tupOf [va, vb, .ref le]) :: (le, listOf #[] ne) :: fz) → Q .none { s with heap := h', toks := tk' }) :
    wpAny (model prog w) (ktrTop dp un gd cn cs L a ccd cl outer) (call (.ref 21) [.ref r, vf]) Q E s := by
  have kM := kstMark
  k_with_none
  refine wpAny_call ?_
  k_dflt ktr_enter
  k_steps
  rename Fr _ _ _ _ => lF'
  (with_unfolding_all refine' For_turns lF' ?_)
  k_steps
  rename Fr _ _ _ _ => lF'
  rename News _ _ _ _ => nN
  with_unfolding_all refine iter_listTurns (lo := listOf #[] ne) (vs := []) (by rfl) lF' nN (.tail _ (.head _)) (by rfl) (by rfl) ?_
  clear lF'
  intro i' l1
  k_steps
  exact hN _ _ (by k_asm) (by k_asm)
theorem news_take {h₀ : Heap} {L : Addr} {h : Heap} {q : Addr × Obj} {l l' : List (Addr × Obj)} (N : News h₀ L h l) (hq : List.Mem q l) (N2 : News h₀ L h l') : News h₀ L h (q :: l') := List.forall_mem_cons.mpr ⟨N q hq, N2⟩
theorem once_arb {x : PySem.Str} {pl0 : Nat} {k : Int} {tx tb tt t1 t2 t3 t4 t5 t6 tl tw ts u1 u2 u3 u4 u5 v1 v2 v3 v4 v5 v6 : Tok} {hx hdt vd rf lg nm ndt n1 n2 n3 n4 n5 n6 : Addr} {ls : Array Value} {nl nr : Nat} {ov : Obj} {fz : List (Addr × Obj)}
    (B : Below A₀ base outer h₀) (F : Fr h₀ L s.heap m) (X : (hd.heap_39 w.params).In h₀)
    (N : News h₀ L s.heap ((hdt, hostDict w.params t1 t2 t3 t4 t5 t6 tl tw ts vd rf lg k) :: (vd, ov) :: (lg, listOf ls nl) :: fz)) (T : Top p loose mean mg mb h₀) (hk : cs.kind = .function)
    (hdp : dp + 40 < recursionLimit) (hun : un + 200 < cLine)
    (hn6 : (n6, tupOf [.str (PySem.Str.ofString "cat") v6, .ref n4, .ref n5]) ∈ fz) (hn5 : (n5, tupOf [.str (PySem.Str.ofString "chars") v5, .str (PySem.Str.ofString "011") tt]) ∈ fz)
    (hn4 : (n4, tupOf [.str (PySem.Str.ofString "now") v4, .ref n3, .ref nm]) ∈ fz) (hn3 : (n3, tupOf [.str (PySem.Str.ofString "cat") v3, .ref n1, .ref n2]) ∈ fz) (hn2 : (n2, tupOf [.str (PySem.Str.ofString "arb") v2]) ∈ fz) (hn1 : (n1, tupOf [.str (PySem.Str.ofString "tab") v1, .int (pl0 : Int) tb]) ∈ fz)
    (hhx : (hx, instObj 236 hdt) ∈ fz) (hrf : (rf, listOf #[] nr) ∈ fz) (hnm : (nm, instObj 145 ndt) ∈ fz) (hnd : (ndt, refDict w.params u1 u2 u3 u4 u5) ∈ fz)
    (hoff : OwnOff fz [hdt, vd, lg]) (hne : @Ne Nat hdt vd ∧ @Ne Nat hdt lg ∧ @Ne Nat vd lg)
    (hov : ov.IsDictOf (PySem.strKind prog w) []) (hls : ls.size ≤ 10) (hx8 : x.length ≤ 8) (hpl : pl0 ≤ x.length) (hk0 : 0 ≤ k) (hk9 : k ≤ 100)
    (hM : ∀ h' tk', (∀ j : Nat, pl0 ≤ j → j ≤ x.length → hit x j = false) → Fr h₀ L h' m → News h₀ L h' fz → Q .none { s with heap := h', toks := tk' })
    (hS : ∀ (i : Nat) t h' tk', pl0 ≤ i → i ≤ x.length → (∀ j : Nat, pl0 ≤ j → j < i → hit x j = false) → hit x i = true →
      Fr h₀ L h' m → News h₀ L h' fz → Q (.str (turnArb x i) t) { s with heap := h', toks := tk' }) :
    wpAny (model prog w) (ktrTop dp un gd cn cs L a ccd cl outer) (call (.ref 42) [.ref 397, .ref n6, .str x tx, .bool true, .ref hx, .ref 460]) Q E s := by
  have kM := kstMark
  k_with_none
  k_with "call ref" => ((with_reducible show wpAny _ _ (call (Value.ref 411) _) _ _ _); refine hold ?_)
  k_with "call ref" => ((with_reducible show wpAny _ _ (call (Value.ref 21) _) _ _ _); refine hold ?_)
  refine wpAny_call ?_
  k_dflt ktr_enter
  k_steps
  refine unhold ?_
  rename News _ _ _ _ => nN
  k_dflt (refine' tried_arb (fz := (_, _) :: fz) ?B ?F ?X (rot3 nN) ?T ?hk ?hd ?hu (.tail _ hn6) (.tail _ hn5) (.tail _ hn4) (.tail _ hn3) (.tail _ hn2) (.tail _ hn1) (.tail _ hhx) (.tail _ hrf) (.tail _ hnm) (.tail _ hnd) (off_cons ?ho hoff) hne hov hls hx8 hpl hk0 hk9 ?hM ?hS)
  case B => k_asm
  case F => k_asm
  case X => k_asm
  case T => k_asm
  case hk => exact rfl
  case hd => (show dp + 1 + 1 + 1 + 20 < recursionLimit; omega)
  case hu => (show un + 3 + 3 + 3 + 120 < cLine; omega)
  case ho =>
    intro b hb
    simp only [List.mem_cons, List.not_mem_nil, or_false] at hb
    rcases hb with rfl | rfl | rfl <;> (dsimp only; omega)
  case hM =>
    intro fz9 h' tk' hno F' N' hsub
    clear nN
    replace N' : News _ _ _ ((_, _) :: fz) := fun q hq => N' q (hsub q hq)
    (try dsimp only)
    (try k_fold)
    k_steps
    rename News _ _ _ _ => nN
    refine UnrEnd.intro (by k_asm) nN fz (fun _ h => h) (fun q hq => Nat.ne_of_lt (kst_ltOf (by first | assumption | exact And.right (by assumption) | exact And.right (And.right (by assumption)) | exact And.right (And.right (And.right (by assumption)))) q hq)) ?_
    k_steps
    rename News _ _ _ _ => nN2
    exact hM _ _ hno (by k_asm) nN2
  case hS =>
    intro i r le te ne ov' ty fz9 h' tk' ts' k' h1 h2 h3 h4 hov' hsub F' N'
    clear nN
    unfold hostDict at N'
    have hfz : News _ _ _ fz := fun q hq => N' q (.tail _ (.tail _ (.tail _ (.tail _ (hsub q (.tail _ hq))))))
    have hit9 := hsub _ (.head _)
    clear hsub
    replace N' := news_take N' (.tail _ (.tail _ (.tail _ (.tail _ hit9)))) (news_take N' (.head _) (news_take N' (.tail _ (.head _)) (news_take N' (.tail _ (.tail _ (.head _))) (news_take N' (.tail _ (.tail _ (.tail _ (.head _)))) hfz))))
    (try dsimp only)
    (try k_fold)
    k_steps
    refine unhold ?_
    rename News _ _ _ _ => nN
    k_dflt (refine' give_spec ?B2 ?F2 ?X2 (drop7 nN) ?T2 ?hk2 ?hd2 ?hu2 ?hN2)
    case B2 => k_asm
    case F2 => k_asm
    case X2 => k_asm
    case T2 => k_asm
    case hk2 => exact rfl
    case hd2 => (show dp + 1 + 3 < recursionLimit; omega)
    case hu2 => (show un + 3 + 20 < cLine; omega)
    case hN2 =>
      intro h' tk' F' N'
      clear nN
      (try dsimp only)
      (try k_fold)
      k_steps
      rename News _ _ _ _ => nN
      exact hS i _ _ _ h1 h2 h3 h4 (by k_asm) (dropL (ns := [_, _, _, _, _]) nN)

end
section
variable {prog p : Program} {loose : List PySem.Str} {w : World} {dp un : Nat} {gd : Option (List Code)} {cn : PySem.Str} {cs : Scope} {a : Addr} {ccd : Value} {cl : List (PySem.Str × Addr)} {outer : List Env} {A₀ : Around} {base h₀ : Heap} {L : Addr} {m : PySem.Str → Option Value} {news : List (Addr × Obj)} {s : Shared} {Q E : Value → Shared → Prop} {mean : ExcName → Option Value} {mg mb : PySem.Str → Option Value}
def turnAt (x : PySem.Str) (i : Nat) : PySem.Str := Txt.slice x none (some (i : Int)) ++ PySem.Str.ofString "100" ++ Txt.slice x (some ((i : Int) + 3)) none
theorem once_chars {x : PySem.Str} {k : Int} {t t1 t2 t3 t4 t5 t6 tl tw ts tx tt : Tok} {hx hdt vd rf lg nd : Addr} {keep : List (Addr × Obj)}
    (B : Below A₀ base outer h₀) (F : Fr h₀ L s.heap m) (X : (hd.heap_39 w.params).In h₀)
    (N : News h₀ L s.heap ((hx, instObj 236 hdt) :: (hdt, hostDict w.params t1 t2 t3 t4 t5 t6 tl tw ts vd rf lg k) :: (nd, tupOf [.str (PySem.Str.ofString "chars") t, .str (PySem.Str.ofString "011") tt]) :: keep))
    (T : Top p loose mean mg mb h₀) (hk : cs.kind = .function)
    (hdp : dp + 40 < recursionLimit) (hun : un + 200 < cLine)
    (hx8 : x.length ≤ 8) (hk0 : 0 ≤ k) (hk9 : k ≤ 800)
    (hne1 : @Ne Nat hx hdt) (hne2 : @Ne Nat hdt nd) (hne3 : @Ne Nat hx nd) (hoff : OwnOff keep [hx, hdt, nd])
    (hN : ∀ ts' h' tk', (∀ j : Nat, j ≤ x.length → hit x j = false) → Fr h₀ L h' m →
      News h₀ L h' ((hx, instObj 236 hdt) :: (hdt, hostDict w.params t1 t2 t3 t4 t5 t6 tl tw ts' vd rf lg (k + ((x.length + 1 : Nat) : Int))) :: (nd, tupOf [.str (PySem.Str.ofString "chars") t, .str (PySem.Str.ofString "011") tt]) :: keep) → Q .none { s with heap := h', toks := tk' })
    (hS : ∀ (i : Nat) t' ts' h' tk', i ≤ x.length → (∀ j : Nat, j < i → hit x j = false) → hit x i = true → Fr h₀ L h' m →
      News h₀ L h' ((hx, instObj 236 hdt) :: (hdt, hostDict w.params t1 t2 t3 t4 t5 t6 tl tw ts' vd rf lg (k + ((i + 1 : Nat) : Int))) :: (nd, tupOf [.str (PySem.Str.ofString "chars") t, .str (PySem.Str.ofString "011") tt]) :: keep) → Q (.str (turnAt x i) t') { s with heap := h', toks := tk' }) :
    wpAny (model prog w) (ktrTop dp un gd cn cs L a ccd cl outer) (call (.ref 42) [.ref 397, .ref nd, .str x tx, .bool false, .ref hx, .ref 453]) Q E s := by
  have kM := kstMark
  k_with_none
  k_with "call ref" => ((with_reducible show wpAny _ _ (call (Value.ref 397) _) _ _ _); refine hold ?_)
  k_with "call ref" => ((with_reducible show wpAny _ _ (call (Value.ref 21) _) _ _ _); refine hold ?_)
  refine wpAny_call ?_
  k_dflt ktr_enter
  k_steps
  refine unhold ?_
  rename News _ _ _ _ => nN
  k_dflt (refine' match_chars (keep := keep) ?B ?F ?X nN ?T ?hk ?hd ?hu hx8 hk0 hk9 hne1 hne2 hne3 hoff ?hN ?hS)
  case B => k_asm
  case F => k_asm
  case X => k_asm
  case T => k_asm
  case hk => exact rfl
  case hd => (show dp + 1 + 30 < recursionLimit; omega)
  case hu => (show un + 3 + 120 < cLine; omega)
  case hN =>
    intro ts' h' tk' hno F' N'
    clear nN
    (try dsimp only)
    (try k_fold)
    k_steps
    exact hN _ _ _ hno (by k_asm) (by k_asm)
  case hS =>
    intro i r le ti te ne ts' h' tk' h1 h2 h3 F' N'
    clear nN
    unfold hostDict at N'
    (try dsimp only)
    (try k_fold)
    k_steps
    refine unhold ?_
    rename News _ _ _ _ => nN
    k_dflt (refine' give_spec ?B2 ?F2 ?X2 (dropL (ns := [_]) nN) ?T2 ?hk2 ?hd2 ?hu2 ?hN2)
    case B2 => k_asm
    case F2 => k_asm
    case X2 => k_asm
    case T2 => k_asm
    case hk2 => exact rfl
    case hd2 => (show dp + 1 + 3 < recursionLimit; omega)
    case hu2 => (show un + 3 + 20 < cLine; omega)
    case hN2 =>
      intro h' tk' F' N'
      clear nN
      (try dsimp only)
      (try k_fold)
      k_steps
      rename News _ _ _ _ => nN
      exact hS i _ _ _ _ h1 h2 h3 (by k_asm) (cb_drop nN (by kst_inAny))

end
section
variable {prog p : Program} {loose : List PySem.Str} {w : World} {dp un : Nat} {gd : Option (List Code)} {cn : PySem.Str} {cs : Scope} {a : Addr} {ccd : Value} {cl : List (PySem.Str × Addr)} {outer : List Env} {A₀ : Around} {base h₀ : Heap} {L : Addr} {m : PySem.Str → Option Value} {news : List (Addr × Obj)} {s : Shared} {Q E : Value → Shared → Prop} {mean : ExcName → Option Value} {mg mb : PySem.Str → Option Value}
theorem mapForm8 {m : PySem.Str → Option Value} {x1 x2 x3 x4 x5 x6 x7 x8 : PySem.Str} {v1 v2 v3 v4 v5 v6 v7 v8 : Value} (h1 : m x1 = some v1) (h2 : m x2 = some v2) (h3 : m x3 = some v3) (h4 : m x4 = some v4) (h5 : m x5 = some v5) (h6 : m x6 = some v6) (h7 : m x7 = some v7) (h8 : m x8 = some v8) :
    m = fun y => if y = x1 then some v1 else if y = x2 then some v2 else if y = x3 then some v3 else if y = x4 then some v4 else if y = x5 then some v5 else if y = x6 then some v6 else if y = x7 then some v7 else if y = x8 then some v8 else m y := by
  funext y
  (repeat' split) <;> (first | (subst_vars; assumption) | rfl)
inductive Turned (x : PySem.Str) : Nat → PySem.Str → Prop
  | zero : Turned x 0 x
  | succ {n i : Nat} {y : PySem.Str} (h : Turned x n y) (hi : i ≤ y.length) (hf : ∀ j : Nat, j < i → hit y j = false) (ht : hit y i = true) : Turned x (n + 1) (turnAt y i)
theorem off_any {A : List (Addr × Obj)} {l l' : List Addr} (h : OwnOff A l) (hs : ∀ b ∈ l', b ∈ l) : OwnOff A l' := fun q hq b hb => h q hq b (hs b hb)
local macro_rules | `(tactic| walk_at "WhlRest") => `(tactic| ((with_reducible show WhlRest _ _ _ _ _ (PySem.Expr.Compare (PySem.Expr.Name _ _) _ _ _) _ _ _ _ _); refine hold ?_))
theorem often_spec {x : PySem.Str} {t t1 t2 t3 t4 t5 t6 tl tw ts tx tt tm : Tok} {hx hdt vd rf lg nd : Addr} {keep : List (Addr × Obj)}
    (B : Below A₀ base outer h₀) (F : Fr h₀ L s.heap m) (X : (hd.heap_39 w.params).In h₀)
    (N : News h₀ L s.heap ((hx, instObj 236 hdt) :: (hdt, hostDict w.params t1 t2 t3 t4 t5 t6 tl tw ts vd rf lg 0) :: (nd, tupOf [.str (PySem.Str.ofString "chars") t, .str (PySem.Str.ofString "011") tt]) :: keep))
    (T : Top p loose mean mg mb h₀) (hk : cs.kind = .function)
    (hdp : dp + 50 < recursionLimit) (hun : un + 250 < cLine)
    (hT : ∀ c y, Turned x c y → y.length ≤ 8 ∧ c ≤ 8)
    (hne1 : @Ne Nat hx hdt) (hne2 : @Ne Nat hdt nd) (hne3 : @Ne Nat hx nd) (hoff : OwnOff keep [hx, hdt, nd])
    (hS : ∀ (c : Nat) (y : PySem.Str) r ty tn k' ts' h' tk', Turned x c y → (∀ j : Nat, j ≤ y.length → hit y j = false) → Fr h₀ L h' m →
      News h₀ L h' ((r, tupOf [.str y ty, .int (c : Int) tn]) :: (hx, instObj 236 hdt) :: (hdt, hostDict w.params t1 t2 t3 t4 t5 t6 tl tw ts' vd rf lg k') :: (nd, tupOf [.str (PySem.Str.ofString "chars") t, .str (PySem.Str.ofString "011") tt]) :: keep) → Q (.ref r) { s with heap := h', toks := tk' }) :
    wpAny (model prog w) (ktrTop dp un gd cn cs L a ccd cl outer) (call (.ref 49) [.ref 397, .ref nd, .str x tx, .bool false, .ref hx, .ref 453, .int 99 tm]) Q E s := by
  have kM := kstMark
  k_with_none
  k_with "call ref" => ((with_reducible show wpAny _ _ (call (Value.ref 42) _) _ _ _); refine hold ?_)
  refine wpAny_call ?_
  k_dflt ktr_enter
  k_steps
  refine unhold ?_
  refine whl_any (k := 100) ?_
  rename Fr _ _ _ _ => kF
  rename News _ _ _ _ => nN
  refine whl_indF (fun n m' led => ∃ (c : Nat) (y : PySem.Str) (ty tn : Tok) (k' : Int) (ts' : Tok) (u : PySem.Str → Option Value),
    m' = (fun z => if z = PySem.Str.ofString "matcher" then some (Value.ref 397) else if z = PySem.Str.ofString "node" then some (Value.ref nd) else if z = PySem.Str.ofString "is_anchored" then some (Value.bool false) else if z = PySem.Str.ofString "host" then some (Value.ref hx) else if z = PySem.Str.ofString "text_of" then some (Value.ref 453) else if z = PySem.Str.ofString "most" then some (Value.int 99 tm) else if z = PySem.Str.ofString "many" then some (Value.int (c : Int) tn) else if z = PySem.Str.ofString "subject" then some (Value.str y ty) else u z) ∧
    led = (hx, instObj 236 hdt) :: (hdt, hostDict w.params t1 t2 t3 t4 t5 t6 tl tw ts' vd rf lg k') :: (nd, tupOf [.str (PySem.Str.ofString "chars") t, .str (PySem.Str.ofString "011") tt]) :: keep ∧ Turned x c y ∧ 0 ≤ k' ∧ k' ≤ 9 * (c : Int) ∧ n = 8 - c) 8 kF nN ?j ?stp
  case j => exact ⟨0, x, tx, _, 0, ts, _, mapForm8 rfl rfl rfl rfl rfl rfl rfl rfl, rfl, .zero, by omega, by omega, rfl⟩
  case stp =>
  clear nN kF
  intro n9 m9 led9 h9 tk9 hJ F' N' ih
  obtain ⟨c, y, ty, tn, k', ts', u, rfl, rfl, hTu, hk0, hk9, hn9⟩ := hJ
  have hy8 := (hT c y hTu).1
  have hc8 := (hT c y hTu).2
  k_dflt (refine' whl_turn ?hE9 ?_; (case hE9 => first | passes_own | with_unfolding_all passes_own))
  k_steps
  refine WhlIf.yes (decide_eq_true (by omega)) ?_
  k_steps
  refine unhold ?_
  rename News _ _ _ _ => nN
  k_dflt (refine' once_chars (keep := keep) ?B ?F ?X nN ?T ?hk ?hd ?hu hy8 hk0 ?h9 hne1 hne2 hne3 hoff ?hN ?hS)
  case B => k_asm
  case F => k_asm
  case X => k_asm
  case T => k_asm
  case hk => exact rfl
  case hd => (show dp + 1 + 40 < recursionLimit; omega)
  case hu => (show un + 3 + 200 < cLine; omega)
  case h9 => omega
  case hN =>
    intro ts9 h' tk' hno F' N'
    clear nN
    (try dsimp only)
    (try k_fold)
    k_steps
    rename News _ _ _ _ => nN
    exact hS c y _ _ _ _ _ _ _ hTu hno (by k_asm) nN
  case hS =>
    intro i t9 ts9 h' tk' h1 h2 h3 F' N'
    clear nN
    have hTu' := Turned.succ hTu h1 h2 h3
    have hy9 := (hT _ _ hTu').1
    (try dsimp only)
    (try k_fold)
    k_steps
    refine unhold ?_
    refine whl_any (k := 100) ?_
    rename Fr _ _ _ _ => kF
    rename News _ _ _ _ => nN
    exact ih (8 - (c + 1)) _ _ _ _ (by have := (hT _ _ hTu').2; omega) ⟨c + 1, _, _, _, _, _, _, mapForm8 rfl rfl rfl rfl rfl rfl rfl rfl, rfl, hTu', by omega, by omega, rfl⟩ kF (dropL (ns := [_]) nN)

end
section
variable {prog p : Program} {loose : List PySem.Str} {w : World} {dp un : Nat} {gd : Option (List Code)} {cn : PySem.Str} {cs : Scope} {a : Addr} {ccd : Value} {cl : List (PySem.Str × Addr)} {outer : List Env} {A₀ : Around} {base h₀ : Heap} {L : Addr} {m : PySem.Str → Option Value} {news : List (Addr × Obj)} {s : Shared} {Q E : Value → Shared → Prop} {mean : ExcName → Option Value} {mg mb : PySem.Str → Option Value}
local macro_rules | `(tactic| walk_at "exec For") => `(tactic| (k_here; (with_reducible show wpAny _ _ (exec (Stmt.For (PySem.Expr.Name _ _) (PySem.Expr.Subscript _ _ _) _ [] _) _) _ _ _); (rename Fr _ _ _ _ => lF'); (with_unfolding_all refine' For_invVF lF' ?k1 ?k2 ?_; (case k1 => exact rfl); (case k2 => exact rfl); k_whole)))
def stepW (a : Int × Int × Int) (c : Int) : Int × Int × Int := (a.2.1, a.1 + a.2.1, a.2.2 + if c = 49 then a.1 else 0)
def worthS (x : PySem.Str) : Int := ((x.cps.toList.reverse.map fun (c : Nat) => (c : Int)).foldl stepW (1, 2, 0)).2.2
theorem one_iff {n : Nat} : ((⟨#[n]⟩ : PySem.Str) == PySem.Str.ofString "1") = decide (n = 49) := by
  have e : PySem.Str.ofString "1" = ⟨#[49]⟩ := by decide +kernel
  rw [e]
  by_cases h : n = 49
  · subst h; rfl
  · rw [decide_eq_false h]
    exact beq_eq_false_iff_ne.mpr (fun q => h (by injection q with q; injection q with q; injection q))
theorem st_wT {n : Nat} {pre : List Int} {i j k : Int} (h : (i, j, k) = pre.foldl stepW (1, 2, 0)) (e : ((⟨#[n]⟩ : PySem.Str) == PySem.Str.ofString "1") = true) : (j, i + j, k + i) = (pre ++ [(n : Int)]).foldl stepW (1, 2, 0) := by
  rw [one_iff, decide_eq_true_iff] at e
  rw [List.foldl_append, ← h]
  subst e
  rfl
theorem st_wF {n : Nat} {pre : List Int} {i j k : Int} (h : (i, j, k) = pre.foldl stepW (1, 2, 0)) (e : ((⟨#[n]⟩ : PySem.Str) == PySem.Str.ofString "1") = false) : (j, i + j, k + 0) = (pre ++ [(n : Int)]).foldl stepW (1, 2, 0) := by
  rw [one_iff, decide_eq_false_iff_not] at e
  rw [List.foldl_append, ← h]
  show _ = (_, _, _ + if (n : Int) = 49 then _ else _)
  rw [if_neg (by omega)]
theorem codes_rev (x : PySem.Str) (u : Tok) : KStt.codes (Txt.sliceBy x none none (-1, u)) = x.cps.toList.reverse.map fun (c : Nat) => (c : Int) := by
  unfold KStt.codes
  rw [PyProof.Rows.step_rev_list]
  congr 1
  refine List.ext_getElem (by simp [PySem.Str.length]) fun i h1 h2 => ?_
  have h3 : i < x.cps.size := by simpa using h2
  simp only [List.getElem_map, List.getElem_range, List.getElem_reverse, PySem.Str.length]
  rw [Array.getD_eq_getD_getElem?, Array.getElem?_eq_getElem (by omega), Option.getD_some]
  simp
theorem worth_spec {x : PySem.Str} {tx : Tok} {fz : List (Addr × Obj)}
    (B : Below A₀ base outer h₀) (F : Fr h₀ L s.heap m) (X : (hd.heap_39 w.params).In h₀)
    (N : News h₀ L s.heap fz)
    (T : Top p loose mean mg mb h₀) (hk : cs.kind = .function)
    (hdp : dp + 10 < recursionLimit) (hun : un + 60 < cLine) (hx8 : x.length ≤ 8)
    (hN : ∀ tv h' tk', Fr h₀ L h' m → News h₀ L h' fz → Q (.int (worthS x) tv) { s with heap := h', toks := tk' }) :
    wpAny (model prog w) (ktrTop dp un gd cn cs L a ccd cl outer) (call (.ref 467) [.str x tx]) Q E s := by
  have kM := kstMark
  k_with_none
  k_with "pyIter str" => k_state (fun pre one other total => (one, other, total) = pre.foldl stepW (1, 2, 0)) "one" "other" "total"
  k_with "state" => (first | exact rfl | exact st_wT (by assumption) (by assumption) | exact st_wF (by assumption) (by assumption))
  refine wpAny_call ?_
  k_dflt ktr_enter
  k_steps
  rename _ = List.foldl _ _ _ => hP
  rw [codes_rev] at hP
  rename News _ _ _ _ => nN
  have e9 := congrArg (·.2.2) hP
  dsimp only at e9
  rw [e9]
  exact hN _ _ _ (by k_asm) (dropL (ns := [_]) nN)

end
section
variable {prog p : Program} {loose : List PySem.Str} {w : World} {dp un : Nat} {gd : Option (List Code)} {cn : PySem.Str} {cs : Scope} {a : Addr} {ccd : Value} {cl : List (PySem.Str × Addr)} {outer : List Env} {A₀ : Around} {base h₀ : Heap} {L : Addr} {m : PySem.Str → Option Value} {news : List (Addr × Obj)} {s : Shared} {Q E : Value → Shared → Prop} {mean : ExcName → Option Value} {mg mb : PySem.Str → Option Value}
def stepG (a : PySem.Str × Int) (n : Int) : PySem.Str × Int := if n ≤ a.2 then (a.1 ++ PySem.Str.ofString "1", a.2 - n) else (a.1 ++ PySem.Str.ofString "0", a.2)
def fibs : List Int := [1, 2, 3, 5, 8, 13, 21, 34]
def greedyS (W : Int) (n : Nat) : PySem.Str := ((fibs.take n).reverse.foldl stepG (PySem.Str.ofString "", W)).1
theorem st_g {W n l l' : Int} {f f' : PySem.Str} {pre : List Int} (h : f.length = pre.length ∧ (f, l) = pre.foldl stepG (PySem.Str.ofString "", W))
    (e : (n ≤ l ∧ f' = f ++ PySem.Str.ofString "1" ∧ l' = l - n) ∨ (¬ n ≤ l ∧ f' = f ++ PySem.Str.ofString "0" ∧ l' = l - 0)) : f'.length = (pre ++ [n]).length ∧ (f', l') = (pre ++ [n]).foldl stepG (PySem.Str.ofString "", W) := by
  have e1 : (PySem.Str.ofString "1").length = 1 := by decide +kernel
  have e0 : (PySem.Str.ofString "0").length = 1 := by decide +kernel
  have ea : ∀ a b : PySem.Str, (a ++ b).length = a.length + b.length := fun a b => by
    show (a.cps ++ b.cps).size = _
    rw [Array.size_append]; rfl
  rw [List.foldl_append, ← h.2, List.length_append, ← h.1]
  rcases e with ⟨h1, rfl, rfl⟩ | ⟨h1, rfl, rfl⟩
  · refine ⟨by rw [ea, e1]; rfl, ?_⟩
    show _ = if n ≤ l then _ else _
    rw [if_pos h1]
  · refine ⟨by rw [ea, e0]; rfl, ?_⟩
    show _ = if n ≤ l then _ else _
    rw [if_neg h1, Int.sub_zero]
theorem fib_ints {its : List Value} {i : Nat} {t : Tok} (h : IntsAre its (fibs.take i)) (h2 : 2 ≤ i) (h8 : i < 8) : IntsAre (its ++ [.int ((fibs.take i).getD (-1 + ((fibs.take i).length : Int)).toNat 0 + (fibs.take i).getD (-2 + ((fibs.take i).length : Int)).toNat 0) t]) (fibs.take (i + 1)) := by
  have e : fibs.take (i + 1) = fibs.take i ++ [(fibs.take i).getD (-1 + ((fibs.take i).length : Int)).toNat 0 + (fibs.take i).getD (-2 + ((fibs.take i).length : Int)).toNat 0] := by
    have : i = 2 ∨ i = 3 ∨ i = 4 ∨ i = 5 ∨ i = 6 ∨ i = 7 := by omega
    rcases this with rfl | rfl | rfl | rfl | rfl | rfl <;> decide +kernel
  rw [e]
  exact h.append (.cons _ _ .nil)
theorem greedy_end {W : Int} {n i : Nat} (h1 : 1 ≤ n) (h8 : n ≤ 8) (h2 : 2 ≤ i) (hi8 : i ≤ 8) (hin : i = 2 ∨ i ≤ n) (h : ¬ i < n) : (List.foldl stepG (PySem.Str.ofString "", W) (List.take ((n : Int)).toNat (List.take i fibs)).reverse).1 = greedyS W n := by
  unfold greedyS
  rw [Int.toNat_natCast, List.take_take, Nat.min_eq_left (by omega)]
theorem mapForm4 {m : PySem.Str → Option Value} {x1 x2 x3 x4 : PySem.Str} {v1 v2 v3 v4 : Value} (h1 : m x1 = some v1) (h2 : m x2 = some v2) (h3 : m x3 = some v3) (h4 : m x4 = some v4) :
    m = fun y => if y = x1 then some v1 else if y = x2 then some v2 else if y = x3 then some v3 else if y = x4 then some v4 else m y := by
  funext y
  (repeat' split) <;> (first | (subst_vars; assumption) | rfl)
local macro_rules | `(tactic| walk_at "call builtin:len") => `(tactic| (k_here; (with_reducible show wpAny _ _ (call (Value.builtin "len") [Value.ref _]) _ _ _); k_dflt (refine' kst_len ?k1 ?k2 ?k3 ?k4 ?_; (case k1 => k_asm); (case k2 => k_mem); (case k3 => assumption); (case k4 => omega))))
local macro_rules | `(tactic| walk_at "WhlRest") => `(tactic| ((with_reducible show WhlRest _ _ _ _ _ (PySem.Expr.Compare (PySem.Expr.Call _ _ _ _) _ _ _) _ _ _ _ _); refine hold ?_))
theorem greedy_spec {W : Int} {n : Nat} {tx ty : Tok} {fz : List (Addr × Obj)}
    (B : Below A₀ base outer h₀) (F : Fr h₀ L s.heap m) (X : (hd.heap_39 w.params).In h₀)
    (N : News h₀ L s.heap fz)
    (T : Top p loose mean mg mb h₀) (hk : cs.kind = .function)
    (hdp : dp + 10 < recursionLimit) (hun : un + 60 < cLine) (hn1 : 1 ≤ n) (hn8 : n ≤ 8)
    (hN : ∀ tv h' tk', Fr h₀ L h' m → News h₀ L h' fz → Q (.str (greedyS W n) tv) { s with heap := h', toks := tk' }) :
    wpAny (model prog w) (ktrTop dp un gd cn cs L a ccd cl outer) (call (.ref 474) [.int W tx, .int (n : Int) ty]) Q E s := by
  have kM := kstMark
  k_with_none
  k_with "pyIter ref" => (refine hold ?_)
  k_with "state" => (first | exact ⟨rfl, rfl⟩ | (refine st_g ⟨by assumption, by assumption⟩ ?_; first | exact .inl ⟨by assumption, rfl, rfl⟩ | exact .inr ⟨by assumption, rfl, rfl⟩ | exact .inr ⟨by omega, rfl, rfl⟩) | (refine hold ?_))
  refine wpAny_call ?_
  k_dflt ktr_enter
  k_steps
  refine unhold ?_
  refine whl_any (k := 100) ?_
  rename Fr _ _ _ _ => kF
  rename News _ _ _ _ => nN
  refine whl_indF (fun q m' led => ∃ (i : Nat) (its : List Value) (np : Nat) (tf : Tok) (ll : Addr) (u : PySem.Str → Option Value),
    m' = (fun z => if z = PySem.Str.ofString "numbers" then some (Value.ref ll) else if z = PySem.Str.ofString "found" then some (Value.str (PySem.Str.ofString "") tf) else if z = PySem.Str.ofString "left" then some (Value.int W tx) else if z = PySem.Str.ofString "many" then some (Value.int (n : Int) ty) else u z) ∧
    led = (ll, PySem.W.listOf its.toArray np) :: fz ∧ IntsAre its (fibs.take i) ∧ 2 ≤ i ∧ i ≤ 8 ∧ (i = 2 ∨ i ≤ n) ∧ q = 8 - i ∧ (∀ p ∈ fz, @LT.lt Nat _ p.1 ll)) 6 kF (dropL (ns := [_]) nN) ?j ?stp
  case j =>
    refine ⟨2, [_, _], _, _, _, _, mapForm4 rfl rfl rfl rfl, rfl, .cons _ _ (.cons _ _ .nil), by omega, by omega, .inl rfl, rfl, ?_⟩
    first | assumption | exact kst_ltOf (by assumption) | exact kst_ltOf (And.right (by assumption))
  case stp =>
  clear nN kF
  intro q9 m9 led9 h9 tk9 hJ F' N' ih
  obtain ⟨i, its, np, tf, ll, u, rfl, rfl, hI, hi2, hi8, hin, hq, hlt1⟩ := hJ
  have hLen : its.length = i := by
    have h9 := hI.length
    rw [List.length_take] at h9
    have : fibs.length = 8 := rfl
    omega
  k_dflt (refine' whl_turn ?hE9 ?_; (case hE9 => first | passes_own | with_unfolding_all passes_own))
  k_steps
  by_cases hlt : i < n
  · refine WhlIf.yes (decide_eq_true (by omega)) ?_
    k_steps
    refine unhold ?_
    refine whl_any (k := 100) ?_
    rename Fr _ _ _ _ => kF
    rename News _ _ _ _ => nN
    simp only [List.push_toArray] at nN
    exact ih (8 - (i + 1)) _ _ _ _ (by omega) ⟨i + 1, _, _, _, _, _, mapForm4 rfl rfl rfl rfl, rfl, fib_ints hI hi2 (by omega), by omega, by omega, .inr hlt, rfl, hlt1⟩ kF nN
  · refine WhlIf.no (decide_eq_false (by omega)) ?_
    k_steps
    refine unhold ?_
    rename IntsAre _ (List.reverse _) => hI9
    have hL9 : ((List.take ((n : Int)).toNat (List.take i fibs)).reverse).length ≤ 8 := by
      rw [List.length_reverse, List.length_take]; omega
    have hE9 := greedy_end (W := W) hn1 hn8 hi2 hi8 hin hlt
    generalize (List.take ((n : Int)).toNat (List.take i fibs)).reverse = L9 at hI9 hL9 hE9
    clear ih hI hlt hin hLen hi2 hi8 hq
    repeat (rename (List.length (List.take _ _) ≤ _) => l9; clear l9)
    repeat (rename (List.length _ = _) => l9; clear l9)
    k_state (fun pre left found => found.length = pre.length ∧ (found, left) = pre.foldl stepG (PySem.Str.ofString "", W)) "left" "found"
    k_steps
    rename _ = List.foldl _ _ _ => hP
    rename News _ _ _ _ => nN
    have e9 := (congrArg Prod.fst hP).trans hE9
    dsimp only at e9
    rw [e9]
    exact hN _ _ _ (by k_asm) (dropL (ns := [_, _, _]) nN)

end
end
def fig (b : Bool) : Nat := if b then 49 else 48
def toS (l : List Bool) : PySem.Str := ⟨(l.map fig).toArray⟩
theorem toS_len (l : List Bool) : (toS l).length = l.length := by
  show (List.toArray _).size = _
  simp
theorem toS_list (l : List Bool) : (toS l).cps.toList = l.map fig := rfl
theorem map_fig : ∀ a b : List Bool, a.map fig = b.map fig → a = b
  | [], [], _ => rfl
  | [], _ :: _, h => nomatch h
  | _ :: _, [], h => nomatch h
  | x :: a, y :: b, h => by
    injection h with h1 h2
    rw [map_fig a b h2]
    cases x <;> cases y <;> first | rfl | exact absurd h1 (by decide)
theorem toS_inj {a b : List Bool} (h : toS a = toS b) : a = b := by
  have h1 : (toS a).cps.toList = (toS b).cps.toList := by rw [h]
  rw [toS_list, toS_list] at h1
  exact map_fig a b h1
theorem str_ext {a b : PySem.Str} (h : a.cps.toList = b.cps.toList) : a = b := by
  cases a; cases b
  exact congrArg PySem.Str.mk (Array.toList_inj.mp h)
theorem app_l (a b : PySem.Str) : (a ++ b).cps.toList = a.cps.toList ++ b.cps.toList := by
  rw [PySem.Str.cps_append, Array.toList_append]
theorem toS_app (a b : List Bool) : toS a ++ toS b = toS (a ++ b) := str_ext (by rw [app_l, toS_list, toS_list, toS_list, List.map_append])
theorem s011 : PySem.Str.ofString "011" = toS [false, true, true] := by decide +kernel
theorem s100 : PySem.Str.ofString "100" = toS [true, false, false] := by decide +kernel
theorem s0 : PySem.Str.ofString "0" = toS [false] := by decide +kernel
theorem s1 : PySem.Str.ofString "1" = toS [true] := by decide +kernel
theorem sE : PySem.Str.ofString "" = toS [] := by decide +kernel
theorem sl_to (l : List Bool) (i : Nat) (h : i ≤ l.length) : Txt.slice (toS l) none (some (i : Int)) = toS (l.take i) := by
  have h1 := beq_iff_eq.mp (slice_closes_toL (x := toS l) (j := (i : Int)) (by omega) (by rw [toS_len]; omega))
  rw [h1]
  refine str_ext ?_
  show List.take _ (List.drop _ (l.map fig)) = (l.take i).map fig
  have : ((i : Int) - 0).toNat = i := by omega
  rw [this, List.map_take]
  rfl
theorem sl_from (l : List Bool) (i : Nat) (h : i ≤ l.length) : Txt.slice (toS l) (some (i : Int)) none = toS (l.drop i) := by
  have h1 := slice_from_eq (x := toS l) (i := (i : Int)) (b := ((toS l).length : Int)) (by omega) (by rw [toS_len]; omega) rfl
  rw [h1]
  refine str_ext ?_
  show List.take _ (List.drop _ (l.map fig)) = (l.drop i).map fig
  have h2 : (((toS l).length : Int) - (i : Int)).toNat = l.length - i := by rw [toS_len]; omega
  rw [h2, Int.toNat_natCast, List.map_drop, List.take_of_length_le (by simp)]
theorem sl_mid (l : List Bool) (i j : Nat) (h1 : i ≤ j) (h : j ≤ l.length) : Txt.slice (toS l) (some (i : Int)) (some (j : Int)) = toS ((l.drop i).take (j - i)) := by
  have h2 := beq_iff_eq.mp (slice_closesL (x := toS l) (i := (i : Int)) (j := (j : Int)) (by omega) (by omega) (by rw [toS_len]; omega))
  rw [h2]
  refine str_ext ?_
  show List.take _ (List.drop _ (l.map fig)) = ((l.drop i).take (j - i)).map fig
  have h3 : ((j : Int) - (i : Int)).toNat = j - i := by omega
  rw [h3, Int.toNat_natCast, List.map_take, List.map_drop]
open PySem.Builtin PySem.Builtin.Str in
theorem sl_over (x : PySem.Str) (i j : Nat) (h : x.length ≤ j) : Txt.slice x (some (i : Int)) (some (j : Int)) = Txt.slice x (some (i : Int)) (some (x.length : Int)) := by
  have e : strSliceIndices (some (i : Int)) (some (j : Int)) 1 x.length = strSliceIndices (some (i : Int)) (some (x.length : Int)) 1 x.length := by
    have h0 : ¬ ((i : Int) < 0) := by omega
    have h1 : ¬ ((j : Int) < 0) := by omega
    have h2 : ¬ ((x.length : Int) < 0) := by omega
    have h3 : (1 : Int) > 0 := by decide
    have h4 : min (j : Int) (x.length : Int) = (x.length : Int) := by omega
    simp only [strSliceIndices, h0, h1, h2, h3, if_false, if_true, h4, Int.min_self]
  unfold Txt.slice
  rw [e]
def hitL (l : List Bool) (i : Nat) : Bool := (l.drop i).take 3 == [false, true, true]
theorem hit_is (l : List Bool) (i : Nat) (h : i ≤ l.length) : hit (toS l) (i : Int) = hitL l i := by
  unfold hit hitL
  have e : ((i : Int) + 3) = ((i + 3 : Nat) : Int) := by omega
  have key : Txt.slice (toS l) (some (i : Int)) (some ((i : Int) + 3)) = toS ((l.drop i).take 3) := by
    rw [e]
    by_cases h3 : i + 3 ≤ l.length
    · rw [sl_mid l i (i + 3) (by omega) h3]
      congr 2
      omega
    · rw [sl_over _ _ _ (by rw [toS_len]; omega), toS_len, sl_mid l i l.length h (Nat.le_refl _)]
      congr 1
      rw [List.take_of_length_le (by simp), List.take_of_length_le (by simp; omega)]
  rw [key, s011]
  by_cases q : (l.drop i).take 3 = [false, true, true]
  · rw [q]; decide +kernel
  · rw [beq_eq_false_iff_ne.mpr q]
    exact beq_eq_false_iff_ne.mpr fun e => q (toS_inj e)
theorem hit_cut {l : List Bool} {i : Nat} (h : hitL l i = true) : l = l.take i ++ [false, true, true] ++ l.drop (i + 3) ∧ i + 3 ≤ l.length := by
  have h1 : (l.drop i).take 3 = [false, true, true] := by unfold hitL at h; exact beq_iff_eq.mp h
  have h2 : i + 3 ≤ l.length := by
    have := congrArg List.length h1
    simp at this
    omega
  refine ⟨?_, h2⟩
  have h3 : l.take i ++ ((l.drop i).take 3 ++ (l.drop i).drop 3) = l := by rw [List.take_append_drop, List.take_append_drop]
  rw [h1, List.drop_drop] at h3
  rw [List.append_assoc]
  exact h3.symm
def turnL (l : List Bool) (i : Nat) : List Bool := l.take i ++ [true, false, false] ++ l.drop (i + 3)
theorem turnAt_is {l : List Bool} {i : Nat} (h : i + 3 ≤ l.length) : turnAt (toS l) i = toS (turnL l i) := by
  unfold turnAt turnL
  have e : ((i : Int) + 3) = ((i + 3 : Nat) : Int) := by omega
  rw [e, sl_to _ _ (by omega), sl_from _ _ h, s100, toS_app, toS_app]
theorem turnArb_is {l : List Bool} {i : Nat} (h : i + 3 ≤ l.length) : turnArb (toS l) i = toS (turnL l i) := by
  unfold turnArb turnL
  have e : ((i : Int) + 3) = ((i + 3 : Nat) : Int) := by omega
  have e0 := sl_to l 0 (by omega)
  have e1 := sl_mid l 0 i (by omega) (by omega)
  rw [show ((0 : Nat) : Int) = 0 from rfl] at e0 e1
  rw [e, e0, e1, sl_from _ _ h, s100, toS_app, toS_app, toS_app]
  simp
theorem turn_len {l : List Bool} {i : Nat} (h : i + 3 ≤ l.length) : (turnL l i).length = l.length := by
  unfold turnL
  simp
  omega
theorem row_is {e : Int → Int} (he : ∀ a, 0 ≤ e a ∧ e a < 2) (n : Nat) (hn : n ≤ 7) :
    ∃ l : List Bool, l.length ≤ 7 ∧ PySem.Str.ofString "0" ++ Txt.join (PySem.Str.ofString "") (List.map (fun a => if (Txt.item (PySem.Str.ofString "01") (e a)).length = 1 then Txt.item (PySem.Str.ofString "01") (e a) else PySem.Str.empty) (rangeKs 0 n)) = toS (false :: l) := by
  refine ⟨(rangeKs 0 n).map (fun a => decide (e a = 1)), by rw [List.length_map, rangeKs_length]; exact hn, ?_⟩
  have h : List.map (fun a => if (Txt.item (PySem.Str.ofString "01") (e a)).length = 1 then Txt.item (PySem.Str.ofString "01") (e a) else PySem.Str.empty) (rangeKs 0 n) = (((rangeKs 0 n).map (fun a => decide (e a = 1))).map fig).map (fun k => (⟨#[k]⟩ : PySem.Str)) := by
    rw [List.map_map, List.map_map]
    refine List.map_congr_left fun a _ => ?_
    have := he a
    simp only [Function.comp]
    rcases (show e a = 0 ∨ e a = 1 by omega) with q | q <;> rw [q] <;> decide +kernel
  rw [h]
  have e0 : PySem.Str.ofString "" = ⟨#[]⟩ := by decide +kernel
  have e1 : Txt.join (PySem.Str.ofString "") ((((rangeKs 0 n).map (fun a => decide (e a = 1))).map fig).map (fun k => (⟨#[k]⟩ : PySem.Str))) = toS ((rangeKs 0 n).map (fun a => decide (e a = 1))) := by
    show Builtin.Str.glued (PySem.Str.ofString "") _ = _
    rw [StrLaws.glued_eq_join, e0, PyProof.Rows.join_ones]
    rfl
  rw [e1, s0, toS_app]
  rfl
/-- worth by Bool, from behind -/
def stepB (a : Nat × Nat × Nat) (c : Bool) : Nat × Nat × Nat := (a.2.1, a.1 + a.2.1, a.2.2 + if c then a.1 else 0)
def wB (l : List Bool) : Nat := (l.reverse.foldl stepB (1, 2, 0)).2.2
def up (a : Nat × Nat × Nat) : Int × Int × Int := ((a.1 : Int), (a.2.1 : Int), (a.2.2 : Int))
theorem fold_up : ∀ (l : List Bool) (a : Nat × Nat × Nat), (l.map fun b => ((fig b : Nat) : Int)).foldl stepW (up a) = up (l.foldl stepB a)
  | [], a => rfl
  | b :: l, a => by
    rw [List.map_cons, List.foldl_cons, List.foldl_cons, ← fold_up l (stepB a b)]
    congr 1
    cases b <;> simp [stepW, stepB, up, fig]
theorem worth_is (l : List Bool) : worthS (toS l) = (wB l : Int) := by
  unfold worthS wB
  rw [toS_list, ← List.map_reverse, List.map_map]
  have h := fold_up l.reverse (1, 2, 0)
  exact congrArg (fun a => a.2.2) h
theorem worth_turn (a b : List Bool) : wB (a ++ [false, true, true] ++ b) = wB (a ++ [true, false, false] ++ b) := by
  unfold wB
  simp only [List.reverse_append, List.foldl_append]
  congr 3
  generalize List.foldl stepB (1, 2, 0) b.reverse = z
  obtain ⟨p, q, t⟩ := z
  simp [stepB]
  omega
theorem wB_turn {l : List Bool} {i : Nat} (h : hitL l i = true) : wB (turnL l i) = wB l := by
  have h1 := (hit_cut h).1
  unfold turnL
  conv => rhs; rw [h1]
  exact (worth_turn _ _).symm
theorem cnt_turn {l : List Bool} {i : Nat} (h : hitL l i = true) : (turnL l i).count true + 1 = l.count true := by
  have h1 := (hit_cut h).1
  have h2 : l.count true = (l.take i ++ [false, true, true] ++ l.drop (i + 3)).count true := by rw [← h1]
  rw [h2]
  unfold turnL
  simp only [List.count_append]
  have e1 : List.count true [true, false, false] = 1 := by decide
  have e2 : List.count true [false, true, true] = 2 := by decide
  omega
theorem count_is9 (l : List Bool) : Txt.count (toS l) (PySem.Str.ofString "1") = (l.count true : Int) := by
  have e : PySem.Str.ofString "1" = ⟨#[49]⟩ := by decide +kernel
  rw [e, count_cnt, toS_list]
  induction l with
  | nil => rfl
  | cons b l ih =>
    rw [List.map_cons, cnt_cons, ih, List.count_cons]
    cases b
    · simp [fig]
    · simp [fig]; omega
/-- greedy by Bool -/
def stepGB (a : List Bool × Nat) (n : Nat) : List Bool × Nat := if n ≤ a.2 then (a.1 ++ [true], a.2 - n) else (a.1 ++ [false], a.2)
def fibB : List Nat := [1, 2, 3, 5, 8, 13, 21, 34]
def gB (W n : Nat) : List Bool := ((fibB.take n).reverse.foldl stepGB ([], W)).1
theorem foldG : ∀ (ns : List Nat) (a : List Bool × Nat), (ns.map fun (k : Nat) => (k : Int)).foldl stepG (toS a.1, (a.2 : Int)) = (toS (ns.foldl stepGB a).1, ((ns.foldl stepGB a).2 : Int))
  | [], a => rfl
  | n :: ns, a => by
    rw [List.map_cons, List.foldl_cons, List.foldl_cons, ← foldG ns (stepGB a n)]
    congr 1
    unfold stepG stepGB
    by_cases h : n ≤ a.2
    · rw [if_pos h, if_pos (show ((n : Int) ≤ (a.2 : Int)) by omega), s1, toS_app]
      dsimp only
      rw [Int.ofNat_sub h]
    · rw [if_neg h, if_neg (show ¬ ((n : Int) ≤ (a.2 : Int)) by omega), s0, toS_app]
theorem greedy_is (W n : Nat) : greedyS (W : Int) n = toS (gB W n) := by
  unfold greedyS gB
  have e : (fibs.take n).reverse = (fibB.take n).reverse.map fun (k : Nat) => (k : Int) := by
    rw [show fibs = fibB.map fun (k : Nat) => (k : Int) from rfl, ← List.map_take, List.map_reverse]
  rw [e, sE]
  have h := foldG (fibB.take n).reverse ([], W)
  exact congrArg Prod.fst h
/-- all rows of n figures -/
def allB : Nat → List (List Bool)
  | 0 => [[]]
  | n + 1 => (allB n).map (false :: ·) ++ (allB n).map (true :: ·)
theorem mem_allB : ∀ l : List Bool, l ∈ allB l.length
  | [] => .head _
  | false :: l => List.mem_append.mpr (.inl (List.mem_map.mpr ⟨l, mem_allB l, rfl⟩))
  | true :: l => List.mem_append.mpr (.inr (List.mem_map.mpr ⟨l, mem_allB l, rfl⟩))
def noHit : List Bool → Bool
  | false :: true :: true :: _ => false
  | _ :: l => noHit l
  | [] => true
/-- one more than the greatest worth of a row of n figures with a 0 ahead -/
def lim (n : Nat) : Nat := (fibB ++ [55]).getD n 0 - 1
def chk (n : Nat) : Bool := (allB n).all fun l => if wB l < lim n then (if noHit l then l == gB (wB l) n else decide ((gB (wB l) n).count true < l.count true)) else true
theorem chk_all : ∀ n : Nat, n ≤ 8 → chk n = true := by
  intro n hn
  have : n = 0 ∨ n = 1 ∨ n = 2 ∨ n = 3 ∨ n = 4 ∨ n = 5 ∨ n = 6 ∨ n = 7 ∨ n = 8 := by omega
  rcases this with rfl | rfl | rfl | rfl | rfl | rfl | rfl | rfl | rfl <;> decide +kernel
def chk2 (n : Nat) : Bool := (allB n).all fun l => decide (wB (false :: l) < lim (n + 1))
theorem chk2_all : ∀ n : Nat, n ≤ 7 → chk2 n = true := by
  intro n hn
  have : n = 0 ∨ n = 1 ∨ n = 2 ∨ n = 3 ∨ n = 4 ∨ n = 5 ∨ n = 6 ∨ n = 7 := by omega
  rcases this with rfl | rfl | rfl | rfl | rfl | rfl | rfl | rfl <;> decide +kernel
theorem row_lim (l : List Bool) (h : l.length ≤ 7) : wB (false :: l) < lim (l.length + 1) := by
  have h1 := List.all_eq_true.mp (chk2_all l.length h) l (mem_allB l)
  exact of_decide_eq_true h1
theorem hit_succ (b : Bool) (l : List Bool) (j : Nat) : hitL (b :: l) (j + 1) = hitL l j := rfl
theorem hit_zero (l : List Bool) : hitL (false :: true :: true :: l) 0 = true := by
  unfold hitL
  simp
theorem noHit_of : ∀ l : List Bool, (∀ j : Nat, j ≤ l.length → hitL l j = false) → noHit l = true
  | [], _ => rfl
  | b :: l, h => by
    have ih := noHit_of l (fun j hj => h (j + 1) (by simp; omega))
    have h0 := h 0 (Nat.zero_le _)
    unfold noHit
    split
    · rename_i e
      rw [e, hit_zero] at h0
      cases h0
    · rename_i e
      injection e with e1 e2
      rw [← e2]
      exact ih
    · rfl
theorem noHit_hit : ∀ (l : List Bool) (j : Nat), noHit l = true → hitL l j = false
  | [], 0, _ => rfl
  | [], j + 1, _ => rfl
  | b :: l, 0, h => by
    cases hh : hitL (b :: l) 0 with
    | false => rfl
    | true =>
      exfalso
      have h1 : (b :: l).take 3 = [false, true, true] := by
        unfold hitL at hh
        exact beq_iff_eq.mp hh
      match b, l, h1, h with
      | false, true :: true :: r, _, h => cases h
  | b :: l, j + 1, h => by
    rw [hit_succ]
    refine noHit_hit l j ?_
    unfold noHit at h
    split at h
    · cases h
    · rename_i e
      injection e with e1 e2
      rw [e2]
      exact h
    · rename_i e
      cases e
theorem key {l : List Bool} (h8 : l.length ≤ 8) (hw : wB l < lim l.length) : (noHit l = true → l = gB (wB l) l.length) ∧ (noHit l = false → (gB (wB l) l.length).count true < l.count true) := by
  have h1 := List.all_eq_true.mp (chk_all l.length h8) l (mem_allB l)
  rw [if_pos hw] at h1
  constructor
  · intro h
    rw [if_pos h] at h1
    exact beq_iff_eq.mp h1
  · intro h
    rw [if_neg (by rw [h]; exact Bool.false_ne_true)] at h1
    exact of_decide_eq_true h1
theorem ok_toS (l : List Bool) : PySem.PyData.strOk (toS l) = true := by
  unfold PySem.PyData.strOk
  rw [← Array.all_toList, toS_list, List.all_map, List.all_eq_true]
  intro b _
  cases b <;> rfl
theorem greedyW_ok (W : Nat) (n : Nat) : PySem.PyData.strOk (greedyS (W : Int) n) = true := by
  rw [greedy_is]
  exact ok_toS _
def Row (R : PySem.Str) : Prop := ∃ l : List Bool, R = toS (false :: l) ∧ l.length ≤ 7
def manyS (R : PySem.Str) : Int := Txt.count R (PySem.Str.ofString "1") - Txt.count (greedyS (worthS R) R.length) (PySem.Str.ofString "1")
def Seen (R : PySem.Str) (turn : Int) (s : PySem.Str) : Prop := ∃ l : List Bool, s = toS l ∧ s.length = R.length ∧ worthS s = worthS R ∧ Txt.count s (PySem.Str.ofString "1") + turn = Txt.count R (PySem.Str.ofString "1")
theorem turned_inv {r : List Bool} {c : Nat} {y : PySem.Str} (h : Turned (toS r) c y) : ∃ l : List Bool, y = toS l ∧ l.length = r.length ∧ wB l = wB r ∧ l.count true + c = r.count true := by
  induction h with
  | zero => exact ⟨r, rfl, rfl, rfl, rfl⟩
  | succ h hi hf ht ih =>
    rename_i n i y
    obtain ⟨l, rfl, h1, h2, h3⟩ := ih
    rw [toS_len] at hi
    have hl : hitL l i = true := by rw [← hit_is l i hi]; exact ht
    have hc := (hit_cut hl).2
    refine ⟨turnL l i, turnAt_is hc, by rw [turn_len hc, h1], by rw [wB_turn hl, h2], ?_⟩
    have := cnt_turn hl
    omega
theorem no_of {l : List Bool} (h : ∀ j : Nat, j ≤ (toS l).length → hit (toS l) j = false) : noHit l = true := noHit_of l fun j hj => by
  rw [← hit_is l j hj]
  exact h j (by rw [toS_len]; exact hj)
theorem pl_T {R : PySem.Str} (h : Row R) (c : Nat) (y : PySem.Str) (ht : Turned R c y) : y.length ≤ 8 ∧ c ≤ 8 := by
  obtain ⟨l, rfl, hl⟩ := h
  obtain ⟨l', rfl, h1, h2, h3⟩ := turned_inv ht
  have h4 : (false :: l).count true ≤ (false :: l).length := List.count_le_length
  rw [List.length_cons] at h1 h4
  rw [toS_len]
  exact ⟨by omega, by omega⟩
theorem row_good {l : List Bool} (hl : l.length ≤ 7) : (false :: l).length ≤ 8 ∧ wB (false :: l) < lim (false :: l).length := ⟨by rw [List.length_cons]; omega, row_lim l hl⟩
theorem many_is (r : List Bool) : manyS (toS r) = (r.count true : Int) - ((gB (wB r) r.length).count true : Int) := by
  unfold manyS
  rw [count_is9, worth_is, toS_len, greedy_is, count_is9]
theorem g_le {l : List Bool} (h8 : l.length ≤ 8) (hw : wB l < lim l.length) : (gB (wB l) l.length).count true ≤ l.count true := by
  cases h : noHit l with
  | true => exact Nat.le_of_eq (congrArg (List.count true) ((key h8 hw).1 h).symm)
  | false => exact Nat.le_of_lt ((key h8 hw).2 h)
theorem pl_E {R y : PySem.Str} {c : Nat} (h : Row R) (ht : Turned R c y) (hn : ∀ j : Nat, j ≤ y.length → hit y j = false) : y = greedyS (worthS R) R.length ∧ (c : Int) = manyS R := by
  obtain ⟨l, rfl, hl⟩ := h
  obtain ⟨l', rfl, h1, h2, h3⟩ := turned_inv ht
  obtain ⟨g8, gw⟩ := row_good hl
  have k1 := (key (l := l') (by rw [h1]; exact g8) (by rw [h1, h2]; exact gw)).1 (no_of hn)
  rw [h1, h2] at k1
  rw [many_is, worth_is, toS_len, greedy_is, ← k1]
  exact ⟨rfl, by omega⟩
theorem pl_many {R : PySem.Str} (h : Row R) : 0 ≤ manyS R ∧ manyS R ≤ 8 := by
  obtain ⟨l, rfl, hl⟩ := h
  obtain ⟨g8, gw⟩ := row_good hl
  have h1 := g_le g8 gw
  have h4 : (false :: l).count true ≤ (false :: l).length := List.count_le_length
  rw [many_is]
  exact ⟨by omega, by omega⟩
theorem seen_0 {R : PySem.Str} (h : Row R) : Seen R 0 R := by
  obtain ⟨l, rfl, hl⟩ := h
  exact ⟨_, rfl, rfl, rfl, Int.add_zero _⟩
theorem seen_len {R s : PySem.Str} {t : Int} (h : Seen R t s) : s.length = R.length := by
  obtain ⟨_, _, h, _⟩ := h
  exact h
theorem seen_in {l0 : List Bool} {s : PySem.Str} {t : Int} (hl : l0.length ≤ 7) (hs : Seen (toS (false :: l0)) t s) : ∃ l : List Bool, s = toS l ∧ l.length = (false :: l0).length ∧ wB l = wB (false :: l0) ∧ (l.count true : Int) + t = ((false :: l0).count true : Int) ∧ l.length ≤ 8 ∧ wB l < lim l.length := by
  obtain ⟨l, rfl, h1, h2, h3⟩ := hs
  rw [toS_len, toS_len] at h1
  rw [worth_is, worth_is] at h2
  rw [count_is9, count_is9] at h3
  obtain ⟨g8, gw⟩ := row_good hl
  have h2' : wB l = wB (false :: l0) := by omega
  exact ⟨l, rfl, h1, h2', h3, by rw [h1]; exact g8, by rw [h1, h2']; exact gw⟩
theorem seen_end {R s : PySem.Str} (h : Row R) (hs : Seen R (manyS R) s) : (∀ j : Nat, j ≤ s.length → hit s j = false) ∧ s = greedyS (worthS R) R.length := by
  obtain ⟨l0, rfl, hl⟩ := h
  obtain ⟨l, rfl, h1, h2, h3, h4, h5⟩ := seen_in hl hs
  rw [many_is] at h3
  have k := key h4 h5
  have hn : noHit l = true := by
    cases hh : noHit l with
    | true => rfl
    | false =>
      have := k.2 hh
      rw [h1, h2] at this
      omega
  refine ⟨fun j hj => ?_, ?_⟩
  · rw [toS_len] at hj
    rw [hit_is l j hj]
    exact noHit_hit l j hn
  · rw [worth_is, toS_len, greedy_is, ← h1, ← h2]
    exact congrArg toS (k.1 hn)
theorem seen_more {R s : PySem.Str} {t : Int} (h : Row R) (hs : Seen R t s) (ht : t ≠ manyS R) (hn : ∀ j : Nat, j ≤ s.length → hit s j = false) : False := by
  obtain ⟨l0, rfl, hl⟩ := h
  obtain ⟨l, rfl, h1, h2, h3, h4, h5⟩ := seen_in hl hs
  have k := (key h4 h5).1 (no_of hn)
  have k2 := congrArg (List.count true) k
  rw [h1, h2] at k2
  rw [many_is] at ht
  exact ht (by omega)
theorem seen_over {R s : PySem.Str} (h : Row R) (hs : Seen R (manyS R + 1) s) : False := by
  obtain ⟨l0, rfl, hl⟩ := h
  obtain ⟨l, rfl, h1, h2, h3, h4, h5⟩ := seen_in hl hs
  have k := g_le h4 h5
  rw [h1, h2] at k
  rw [many_is] at h3
  omega
theorem seen_step {R s : PySem.Str} {t : Int} {i : Nat} (hs : Seen R t s) (hi : i ≤ s.length) (hh : hit s i = true) : Seen R (t + 1) (turnArb s i) ∧ worthS (turnArb s i) = worthS R ∧ Txt.count (turnArb s i) (PySem.Str.ofString "1") = Txt.count s (PySem.Str.ofString "1") - 1 := by
  obtain ⟨l, rfl, h1, h2, h3⟩ := hs
  rw [toS_len] at hi
  have hl : hitL l i = true := by rw [← hit_is l i hi]; exact hh
  have hc := (hit_cut hl).2
  have hw : worthS (turnArb (toS l) i) = worthS R := by rw [turnArb_is hc, worth_is, wB_turn hl, ← worth_is]; exact h2
  have hk : Txt.count (turnArb (toS l) i) (PySem.Str.ofString "1") = Txt.count (toS l) (PySem.Str.ofString "1") - 1 := by
    have := cnt_turn hl
    rw [turnArb_is hc, count_is9, count_is9]
    omega
  refine ⟨⟨turnL l i, turnArb_is hc, ?_, hw, by rw [hk]; omega⟩, hw, hk⟩
  rw [turnArb_is hc, toS_len, turn_len hc, ← toS_len]
  exact h1
theorem ok_greedy {R : PySem.Str} (h : Row R) : PySem.PyData.strOk (greedyS (worthS R) R.length) = true := by
  obtain ⟨l0, rfl, hl⟩ := h
  rw [worth_is]
  exact greedyW_ok _ _
theorem ne_pair {prog : Program} {w : World} {A : Around} {E : Value → Shared → Prop} {s : Shared} {Q : Value → Shared → Prop} {h₀ : Heap} {L a b : Addr} {news : List (Addr × Obj)} {x : PySem.Str} {n : Int} {t u t' u' : Tok} (N : News h₀ L s.heap news)
    (ha : (a, tupOf [.str x t, .int n u]) ∈ news) (hb : (b, tupOf [.str x t', .int n u']) ∈ news) (hs : PySem.PyData.strOk x = true) (hu : A.units + 64 < cLine) (h : Q (.bool false) s) :
    wpAny (model prog w) A (compareOp .NotEq (.ref a) (.ref b)) Q E s := by
  have hsh : SeqAt.shaped (PyData.tuple [PyData.str x, PyData.int n]) = true := by
    simp [SeqAt.shaped, PyData.canLay0, PyData.canLayAll0, PyData.depth, PyData.depthAll, hs]
  refine ne_dataH (reads_tuple_at (News.get N ha) rfl rfl (.cons (.str _ _) (.cons (.int _ _) .nil))) (reads_tuple_at (News.get N hb) rfl rfl (.cons (.str _ _) (.cons (.int _ _) .nil))) hsh hsh hu ?_
  simp only [PyData.eqv, PyData.eqvAll, beq_self_eq_true, Bool.and_true, Bool.true_and, Bool.not_true, decide_true]
  exact h
theorem frOne {g : Heap} {L : Addr} {h : Heap} {m : PySem.Str → Option Value} {x1 : PySem.Str} {v1 : Value} (F : Fr g L h m) (h1 : m x1 = some v1) :
    ∃ u : PySem.Str → Option Value, Fr g L h (fun y => if y = x1 then some v1 else u y) := by
  refine ⟨m, ?_⟩
  have e : m = fun y => if y = x1 then some v1 else m y := by
    funext y
    split <;> (first | (subst_vars; assumption) | rfl)
  rw [← e]
  exact F
theorem kst_lenZ {prog : Program} {w : World} {A : Around} {E : Value → Shared → Prop} {s : Shared} {h₀ : Heap} {L l : Addr} {news : List (Addr × Obj)} {us : List Value} {k c : Nat} {z : Int} {Q : Value → Shared → Prop} (N : News h₀ L s.heap news) (hm : (l, PySem.W.listOf us.toArray c) ∈ news) (e : us.length = k) (hz : (k : Int) = z) (hfit : z < 2 ^ 63)
    (h : Q (.int z (s.toks + 1)) { s with toks := s.toks + 1 + 1 }) : wpAny (model prog w) A (call (.builtin "len") [.ref l]) Q E s := by
  subst hz
  exact kst_len N hm e hfit h
theorem ints_nil {ys : List Value} (h : IntsAre ys []) : ys = [] := by cases h; rfl
theorem ints_cons {ys : List Value} {n : Int} {ns : List Int} (h : IntsAre ys (n :: ns)) : ∃ t zs, ys = .int n t :: zs ∧ IntsAre zs ns := by cases h; exact ⟨_, _, rfl, by assumption⟩
theorem abs_nn (a : Int) : 0 ≤ (if a < 0 then -a else a) := by split <;> omega
theorem ys4 {ns : List Int} {ys ws : List Value} (h1 : IntsAre ys (List.map (fun k' : Int => if k' < 0 then -k' else k') (List.take 3 ns))) (h2 : IntsAre ws (List.take 3 ns)) :
    (ys = [] ∧ ws.length = 0) ∨ (∃ a t, 0 ≤ a ∧ ys = [.int a t] ∧ ws.length = 1) ∨ (∃ a t b u, 0 ≤ a ∧ 0 ≤ b ∧ ys = [.int a t, .int b u] ∧ ws.length = 2) ∨ (∃ a t b u c v, 0 ≤ a ∧ 0 ≤ b ∧ 0 ≤ c ∧ ys = [.int a t, .int b u, .int c v] ∧ ws.length = 3) := by
  have hl := h2.length
  rcases ns with _ | ⟨a, _ | ⟨b, _ | ⟨c, r⟩⟩⟩
  · exact .inl ⟨ints_nil h1, hl⟩
  · obtain ⟨t, zs, rfl, h3⟩ := ints_cons h1
    cases ints_nil h3
    exact .inr (.inl ⟨_, _, abs_nn a, rfl, hl⟩)
  · obtain ⟨t, zs, rfl, h3⟩ := ints_cons h1
    obtain ⟨t2, zs2, rfl, h4⟩ := ints_cons h3
    cases ints_nil h4
    exact .inr (.inr (.inl ⟨_, _, _, _, abs_nn a, abs_nn b, rfl, hl⟩))
  · obtain ⟨t, zs, rfl, h3⟩ := ints_cons h1
    obtain ⟨t2, zs2, rfl, h4⟩ := ints_cons h3
    obtain ⟨t3, zs3, rfl, h5⟩ := ints_cons h4
    cases ints_nil h5
    exact .inr (.inr (.inr ⟨_, _, _, _, _, _, abs_nn a, abs_nn b, abs_nn c, rfl, hl⟩))
def JCells (g : Heap) (L : Addr) (s s' : Shared) : Prop := ∃ h tk m D o ca cb cc ta tb tc, s' = { s with heap := h, toks := tk } ∧ Fr g L h m ∧ News g L h [(D, PySem.W.listOf #[.int ca ta, .int cb tb, .int cc tc] 0), (L + 1, o)] ∧ o.data = .cell (some (.ref D)) ∧ 0 ≤ ca ∧ 0 ≤ cb ∧ 0 ≤ cc ∧ @Ne Nat (L + 1) D
def JRow (g : Heap) (L : Addr) (s s' : Shared) (D : Addr) (oD o : Obj) : Prop := ∃ (h : Heap) (tk : Nat) (u : PySem.Str → Option Value) (l : List Bool) (t : Tok), s' = { s with heap := h, toks := tk } ∧ Fr g L h (fun y => if y = PySem.Str.ofString "row" then some (.str (toS (false :: l)) t) else u y) ∧ l.length ≤ 7 ∧ News g L h [(D, oD), (L + 1, o)]
theorem mapForm5 {m : PySem.Str → Option Value} {x1 x2 x3 x4 x5 : PySem.Str} {v1 v2 v3 v4 v5 : Value} (h1 : m x1 = some v1) (h2 : m x2 = some v2) (h3 : m x3 = some v3) (h4 : m x4 = some v4) (h5 : m x5 = some v5) :
    m = fun y => if y = x1 then some v1 else if y = x2 then some v2 else if y = x3 then some v3 else if y = x4 then some v4 else if y = x5 then some v5 else m y := by
  funext y
  (repeat' split) <;> (first | (subst_vars; assumption) | rfl)
theorem fr_at {g : Heap} {L : Addr} {h : Heap} {m m' : PySem.Str → Option Value} (F : Fr g L h m) (e : m = m') : Fr g L h m' := e ▸ F
theorem frm5 {g : Heap} {L : Addr} {h : Heap} {m : PySem.Str → Option Value} {R S : PySem.Str} {M : Int} {t1 t2 t3 t4 : Tok} {nm : Addr} (F : Fr g L h m) (h1 : m (PySem.Str.ofString "seen") = some (.str R t1)) (h2 : m (PySem.Str.ofString "many") = some (.int M t2)) (h3 : m (PySem.Str.ofString "end") = some (.str S t3)) (h4 : m (PySem.Str.ofString "row") = some (.str R t4)) (h5 : m (PySem.Str.ofString "name") = some (.ref nm)) :
    ∃ (w6 w7 w8 w9 : Tok) (u6 : PySem.Str → Option Value), Fr g L h (fun y => if y = PySem.Str.ofString "seen" then some (.str R w6) else if y = PySem.Str.ofString "many" then some (.int M w7) else if y = PySem.Str.ofString "end" then some (.str S w8) else if y = PySem.Str.ofString "row" then some (.str R w9) else if y = PySem.Str.ofString "name" then some (.ref nm) else u6 y) := ⟨_, _, _, _, _, fr_at F (mapForm5 h1 h2 h3 h4 h5)⟩
theorem newsm {g : Heap} {L : Addr} {h : Heap} {D nm nd : Addr} {oD : Obj} {P : PySem.Params} {a1 a2 a3 a4 a5 : Tok} {l : List (Addr × Obj)} (N : News g L h ((D, oD) :: (nm, instObj 145 nd) :: (nd, refDict P a1 a2 a3 a4 a5) :: l)) : ∃ w1 w2 w3 w4 w5, News g L h ((nm, instObj 145 nd) :: (nd, refDict P w1 w2 w3 w4 w5) :: l) := ⟨_, _, _, _, _, dropL (ns := [_]) N⟩
theorem mapForm6 {m : PySem.Str → Option Value} {x1 x2 x3 x4 x5 x6 : PySem.Str} {v1 v2 v3 v4 v5 v6 : Value} (h1 : m x1 = some v1) (h2 : m x2 = some v2) (h3 : m x3 = some v3) (h4 : m x4 = some v4) (h5 : m x5 = some v5) (h6 : m x6 = some v6) :
    m = fun y => if y = x1 then some v1 else if y = x2 then some v2 else if y = x3 then some v3 else if y = x4 then some v4 else if y = x5 then some v5 else if y = x6 then some v6 else m y := by
  funext y
  (repeat' split) <;> (first | (subst_vars; assumption) | rfl)
theorem frm6 {g : Heap} {L : Addr} {h : Heap} {m : PySem.Str → Option Value} {R S Z : PySem.Str} {M K : Int} {t1 t2 t3 t4 t5 : Tok} {nm : Addr} (F : Fr g L h m) (h1 : m (PySem.Str.ofString "turn") = some (.int K t5)) (h6 : m (PySem.Str.ofString "seen") = some (.str Z t1)) (h2 : m (PySem.Str.ofString "many") = some (.int M t2)) (h3 : m (PySem.Str.ofString "end") = some (.str S t3)) (h4 : m (PySem.Str.ofString "row") = some (.str R t4)) (h5 : m (PySem.Str.ofString "name") = some (.ref nm)) :
    ∃ (w5 w6 w7 w8 w9 : Tok) (u6 : PySem.Str → Option Value), Fr g L h (fun y => if y = PySem.Str.ofString "turn" then some (.int K w5) else if y = PySem.Str.ofString "seen" then some (.str Z w6) else if y = PySem.Str.ofString "many" then some (.int M w7) else if y = PySem.Str.ofString "end" then some (.str S w8) else if y = PySem.Str.ofString "row" then some (.str R w9) else if y = PySem.Str.ofString "name" then some (.ref nm) else u6 y) := ⟨_, _, _, _, _, _, fr_at F (mapForm6 h1 h6 h2 h3 h4 h5)⟩
theorem prep {g : Heap} {L : Addr} {h : Heap} {n6 n5 lg hx hdt rf vd : Addr} {o6 o5 olg ohx odt orf ov : Obj} {l : List (Addr × Obj)} (N : News g L h ((n6, o6) :: (n5, o5) :: (lg, olg) :: (hx, ohx) :: (hdt, odt) :: (rf, orf) :: (vd, ov) :: l))
    (h6 : ∀ p ∈ (n5, o5) :: (lg, olg) :: (hx, ohx) :: (hdt, odt) :: (rf, orf) :: (vd, ov) :: l, @LT.lt Nat _ p.1 n6) (h5 : ∀ p ∈ (lg, olg) :: (hx, ohx) :: (hdt, odt) :: (rf, orf) :: (vd, ov) :: l, @LT.lt Nat _ p.1 n5)
    (hg : ∀ p ∈ (hx, ohx) :: (hdt, odt) :: (rf, orf) :: (vd, ov) :: l, @LT.lt Nat _ p.1 lg) (hx1 : @LT.lt Nat _ hdt hx) (hd1 : ∀ p ∈ (rf, orf) :: (vd, ov) :: l, @LT.lt Nat _ p.1 hdt) (hr1 : @LT.lt Nat _ vd rf) (hv1 : ∀ p ∈ l, @Ne Nat p.1 vd) :
    OwnOff ((n6, o6) :: (n5, o5) :: (hx, ohx) :: (rf, orf) :: l) [hdt, vd, lg] ∧ (@Ne Nat hdt vd ∧ @Ne Nat hdt lg ∧ @Ne Nat vd lg) ∧ News g L h ((hdt, odt) :: (vd, ov) :: (lg, olg) :: (n6, o6) :: (n5, o5) :: (hx, ohx) :: (rf, orf) :: l) := by
  have a1 : @LT.lt Nat _ vd hdt := hd1 _ (.tail _ (.head _))
  have a2 : @LT.lt Nat _ hx lg := hg _ (.head _)
  have a3 : @LT.lt Nat _ rf hdt := hd1 _ (.head _)
  have a4 : @LT.lt Nat _ lg n5 := h5 _ (.head _)
  have a5 : @LT.lt Nat _ n5 n6 := h6 _ (.head _)
  refine ⟨?_, ⟨by omega, by omega, by omega⟩, fun q hq => N q (by simp only [List.mem_cons] at hq ⊢; rcases hq with h | h | h | h | h | h | h | h <;> simp [h])⟩
  have mem : ∀ {z : Addr} {b : Addr}, @Ne Nat z hdt → @Ne Nat z vd → @Ne Nat z lg → b ∈ [hdt, vd, lg] → @Ne Nat z b := fun c1 c2 c3 hb => by
    simp only [List.mem_cons, List.not_mem_nil, or_false] at hb
    rcases hb with rfl | rfl | rfl
    · exact c1
    · exact c2
    · exact c3
  refine off_cons (fun b hb => mem ?_ ?_ ?_ hb) (off_cons (fun b hb => mem ?_ ?_ ?_ hb) (off_cons (fun b hb => mem ?_ ?_ ?_ hb) (off_cons (fun b hb => mem ?_ ?_ ?_ hb) fun q hq b hb => ?_)))
  all_goals first | (dsimp only; omega) | skip
  have c1 := hd1 q (.tail _ (.tail _ hq))
  exact mem (Nat.ne_of_lt c1) (hv1 q hq) (Nat.ne_of_lt (by omega)) hb
theorem seen_at {R s : PySem.Str} {k : Int} {pre : List Int} (h : Seen R (k + 1) s) (e : (pre.length : Int) = k) : Seen R ((pre ++ [k]).length : Int) s := by
  have : ((pre ++ [k]).length : Int) = k + 1 := by simp; omega
  rw [this]
  exact h
theorem unrw {h₀ : Heap} {L : Addr} {s₁ : Shared} {h' : Heap} {tk : Nat} {m' : PySem.Str → Option Value} {i T : Addr} {oi oT : Obj} {l : List (Addr × Obj)} {rest : (PySem.Str → Option Value) → List (Addr × Obj) → Prop} (F : Fr h₀ L h' m') (N : News h₀ L h' ((i, oi) :: (T, oT) :: l)) (lt : ∀ p ∈ (T, oT) :: l, @LT.lt Nat _ p.1 i) (r : rest m' ((T, oT) :: l)) : UnrEndW h₀ L s₁ [(i, oi)] rest { s₁ with heap := h', toks := tk } :=
  ⟨h', tk, m', _, rfl, F, N, fun p hp q hq => by rw [List.mem_singleton.mp hq]; exact Nat.ne_of_lt (lt p hp), r⟩
def JLater (g : Heap) (L : Addr) (s s' : Shared) (m : PySem.Str → Option Value) (led : List (Addr × Obj)) (sn : PySem.Str) : Prop := ∃ (h : Heap) (tk : Nat) (u : PySem.Str → Option Value) (v : Value), s' = { s with heap := h, toks := tk } ∧ Fr g L h (fun y => if y = PySem.Str.ofString "later" then some v else if y = PySem.Str.ofString "place" then u y else if y = PySem.Str.ofString "ahead" then u y else if y = PySem.Str.ofString "host" then u y else m y) ∧ News g L h led ∧ ((v = .none ∧ ∀ j : Nat, j ≤ sn.length → hit sn j = false) ∨ ∃ i t, v = .str (turnArb sn i) t ∧ i ≤ sn.length ∧ hit sn i = true)
theorem mono_later {M : Model} {A : Around} {E : Value → Shared → Prop} {s : Shared} {g : Heap} {L : Addr} {m : PySem.Str → Option Value} {led : List (Addr × Obj)} {sn : PySem.Str} {k : Int} {R : PySem.Str} {t : Sem Flow} {Q : Flow → Shared → Prop} (_h : Seen R k sn) (F : Fr g L s.heap m) (N : News g L s.heap led) (h1 : wpAny M A t (fun f s' => Hold (f = .next ∧ JLater g L s s' m led sn)) E s) (h2 : ∀ s', JLater g L s s' m led sn → Q .next s') : wpAny M A t Q E s := wpAny_mono h1 (fun f s' h => h.1 ▸ h2 s' h.2) (fun _ _ h => h)
theorem fr_later {g : Heap} {L : Addr} {h : Heap} {m m' : PySem.Str → Option Value} {v : Value} (F : Fr g L h m') (h1 : m' (PySem.Str.ofString "later") = some v) (h2 : ∀ y, y ≠ PySem.Str.ofString "later" → y ≠ PySem.Str.ofString "place" → y ≠ PySem.Str.ofString "ahead" → y ≠ PySem.Str.ofString "host" → m' y = m y) :
    Fr g L h (fun y => if y = PySem.Str.ofString "later" then some v else if y = PySem.Str.ofString "place" then m' y else if y = PySem.Str.ofString "ahead" then m' y else if y = PySem.Str.ofString "host" then m' y else m y) := by
  refine fr_at F (funext fun y => ?_)
  by_cases a : y = PySem.Str.ofString "later"
  · rw [if_pos a, a, h1]
  rw [if_neg a]
  by_cases b : y = PySem.Str.ofString "place"
  · rw [if_pos b]
  rw [if_neg b]
  by_cases c : y = PySem.Str.ofString "ahead"
  · rw [if_pos c]
  rw [if_neg c]
  by_cases d : y = PySem.Str.ofString "host"
  · rw [if_pos d]
  rw [if_neg d]
  exact h2 y a b c d
theorem mono_row {M : Model} {A : Around} {E : Value → Shared → Prop} {s : Shared} {g : Heap} {L : Addr} {m : PySem.Str → Option Value} {t : Sem Flow} {Q : Flow → Shared → Prop} {D : Addr} {oD o : Obj} (F : Fr g L s.heap m) (N : News g L s.heap [(D, oD), (L + 1, o)]) (h1 : wpAny M A t (fun f s' => Hold (f = .next ∧ JRow g L s s' D oD o)) E s) (h2 : ∀ s', JRow g L s s' D oD o → Q .next s') : wpAny M A t Q E s := wpAny_mono h1 (fun f s' h => h.1 ▸ h2 s' h.2) (fun _ _ h => h)
theorem mono_cells {M : Model} {A : Around} {E : Value → Shared → Prop} {s : Shared} {g : Heap} {L : Addr} {m : PySem.Str → Option Value} {t : Sem Flow} {Q : Flow → Shared → Prop} (F : Fr g L s.heap m) (h1 : wpAny M A t (fun f s' => Hold (f = .next ∧ JCells g L s s')) E s) (h2 : ∀ s', JCells g L s s' → Q .next s') : wpAny M A t Q E s := wpAny_mono h1 (fun f s' h => h.1 ▸ h2 s' h.2) (fun _ _ h => h)
def Seen9 : Prop := True
local macro_rules | `(tactic| walk_at "exec Assign") => `(tactic| ((fail_if_success (rename Seen9 => z9)); (with_reducible first | show wpAny _ _ (exec (Stmt.Assign [PySem.Expr.Name (PySem.Str.ofString "cells") _] _ _) _) _ _ _ | show wpAny _ _ (exec (Stmt.Assign [PySem.Expr.Name (PySem.Str.ofString "row") _] _ _) _) _ _ _); refine hold ?_))
local macro_rules | `(tactic| walk_at "CompSrc") => `(tactic| (k_here; (rename IsRange _ _ _ _ _ _ _ _ => rgK9); (try k_fmods); k_dflt (refine LCg.CompSrc.range (by rfl) (by k_asm) (by k_asm) (by assumption) (by first | decide | exact small_one (by l_bnd) (by l_bnd) (by l_bnd) (by l_bnd)) (by first | exact rangeSize_nat _ _ | rfl) (by first | exact Nat.le_of_ble_eq_true rfl | (rw [PySem.sizeLine_eq]; first | omega | ((have hb9 := len_ints_list (by lay_of)); omega)) | size_fits) ?_; intro g'; (refine' kct_range _ (fun k' t' I' oI' C' oC' D' m' ys' h' tk' E' hlo' hhi' hC' hx' F' N' off' ne' => ?_) ?_); (all_goals (try (simp only [LCg.Off3, and_true] at off'))); (all_goals (try ((show KPfMark → _); intro hMark'))); kcf_last)))
local macro_rules | `(tactic| walk_at "compareOp NotEq ref ref") => `(tactic| refine hold ?_)
local macro_rules | `(tactic| walk_at "exec For Name Tuple cons nil") => `(tactic| refine hold ?_)
theorem main : PySem.Challenge.rw_tk0110_01.Holds := hd (by
  k_with_none
  k_go0
  (all_goals try k_fold)
  rename Fr _ _ _ _ => kF0
  obtain ⟨u0, kF1⟩ := frOne kF0 (x1 := PySem.Str.ofString "script") rfl
  clear kF0
  rename Obj.data _ = Data.cell _ => hC0
  replace hC0 := hC0.trans (show Data.cell _ = Data.cell none from rfl)
  (try (rename Heap.CodeRec _ _ _ => z9; clear z9))
  (try (rename Dflts _ _ _ _ _ _ => z9; clear z9))
  (try (rename CellsAre _ _ _ => z9; clear z9))
  (try (rename Hook.says _ _ _ => z9; clear z9))
  k_steps
  refine unhold ?_
  rename Fr _ _ _ _ => kF
  refine mono_cells kF ?zA ?zB
  case zA =>
    have seen9 : Seen9 := True.intro
    clear_value qk ek
    clear qk
    k_with "call builtin:len" => (refine hold ?_)
    k_steps
    refine unhold ?_
    rename News _ _ _ _ => nN
    rename IntsAre _ (List.take 3 _) => hI9
    rename IntsAre _ (List.map _ _) => hI8
    rcases ys4 hI8 hI9 with ⟨rfl, hl9⟩ | ⟨a9, t9, ha9, rfl, hl9⟩ | ⟨a9, t9, b9, u9, ha9, hb9, rfl, hl9⟩ | ⟨a9, t9, b9, u9, c9, v9, ha9, hb9, hc9, rfl, hl9⟩
    all_goals clear hI8 hI9
    · refine kst_lenZ (z := 0) nN (.head _) hl9 rfl (by decide) ?_
      k_steps
      refine unhold ?_
      rename News _ _ _ _ => nN2
      exact ⟨True.intro, _, _, _, _, _, _, _, _, _, _, _, rfl, by assumption, news_take nN2 (.head _) (news_take nN2 (.tail _ (.tail _ (.tail _ (.tail _ (.tail _ (.tail _ (.head _))))))) (fun _ h => nomatch h)), by assumption, by first | assumption | decide, by first | assumption | decide, by first | assumption | decide, by omega⟩
    · refine kst_lenZ (z := 1) nN (.head _) hl9 rfl (by decide) ?_
      k_steps
      refine unhold ?_
      rename News _ _ _ _ => nN2
      exact ⟨True.intro, _, _, _, _, _, _, _, _, _, _, _, rfl, by assumption, news_take nN2 (.head _) (news_take nN2 (.tail _ (.tail _ (.tail _ (.tail _ (.tail _ (.tail _ (.head _))))))) (fun _ h => nomatch h)), by assumption, by first | assumption | decide, by first | assumption | decide, by first | assumption | decide, by omega⟩
    · refine kst_lenZ (z := 2) nN (.head _) hl9 rfl (by decide) ?_
      k_steps
      refine unhold ?_
      rename News _ _ _ _ => nN2
      exact ⟨True.intro, _, _, _, _, _, _, _, _, _, _, _, rfl, by assumption, news_take nN2 (.head _) (news_take nN2 (.tail _ (.tail _ (.tail _ (.tail _ (.tail _ (.tail _ (.head _))))))) (fun _ h => nomatch h)), by assumption, by first | assumption | decide, by first | assumption | decide, by first | assumption | decide, by omega⟩
    · refine kst_lenZ (z := 3) nN (.head _) hl9 rfl (by decide) ?_
      k_steps
      refine unhold ?_
      rename News _ _ _ _ => nN2
      exact ⟨True.intro, _, _, _, _, _, _, _, _, _, _, _, rfl, by assumption, news_take nN2 (.head _) (news_take nN2 (.tail _ (.tail _ (.tail _ (.tail _ (.tail _ (.tail _ (.head _))))))) (fun _ h => nomatch h)), by assumption, by first | assumption | decide, by first | assumption | decide, by first | assumption | decide, by omega⟩
  case zB =>
    clear kF
    repeat (rename Fr _ _ _ _ => z9; clear z9)
    repeat (rename News _ _ _ _ => z9; clear z9)
    rename IntsAre _ _ => z9; clear z9
    (try (rename ReadsAll _ _ _ _ => z9; clear z9))
    (try (rename Well _ _ _ _ => z9; clear z9))
    (try (rename Reads _ _ _ _ => z9; clear z9))
    (try (rename Heap.IsList _ _ _ => z9; clear z9))
    intro s9 hJ
    obtain ⟨h9, tk9, m9, D9, o9, ca, cb, cc, ta, tb, tc, rfl, kF9, kN9, hD9, hca, hcb, hcc, hne9⟩ := hJ
    k_steps
    refine unhold ?_
    rename Fr _ _ _ _ => kF
    rename News _ _ _ _ => kN
    refine mono_row kF kN ?zC ?zD
    case zC =>
      have seen9 : Seen9 := True.intro
      clear_value qk ek
      clear qk
      k_steps
      refine unhold ?_
      rename News _ _ _ _ => kN2
      rename Fr _ _ _ _ => kF2
      have hm9 : 0 ≤ ([ca, cb, cc].getD (Int.toNat 1) 0).fmod 8 := fmod_lo _ (by decide)
      have hm8 : ([ca, cb, cc].getD (Int.toNat 1) 0).fmod 8 < 8 := fmod_hi _ (by decide)
      obtain ⟨l9, hl9, he9⟩ := row_is (e := fun a => (([ca, cb, cc].getD (Int.toNat 0) 0).fdiv (2 ^ a.toNat)).fmod 2) (fun a => ⟨fmod_lo _ (by decide), fmod_hi _ (by decide)⟩) (([ca, cb, cc].getD (Int.toNat 1) 0).fmod 8 - 0).toNat (by omega)
      rw [he9] at kF2
      exact ⟨True.intro, _, _, _, l9, _, rfl, kF2, hl9, dropL (ns := [_]) kN2⟩
    case zD =>
      clear kF kN
      intro s9 hJ
      obtain ⟨h9, tk9, u9, l9, t9, rfl, kF9, hl9, kN9⟩ := hJ
      obtain ⟨R, hR⟩ : ∃ R, R = toS (false :: l9) := ⟨_, rfl⟩
      rw [← hR] at kF9
      have hR8 : R.length ≤ 8 := by rw [hR, toS_len, List.length_cons]; omega
      have hR1 : 1 ≤ R.length := by rw [hR, toS_len, List.length_cons]; omega
      have kM := kstMark
      have seen9 : Seen9 := True.intro
      k_with_none
      k_with "call ref" => ((with_reducible show wpAny _ _ (call (Value.ref 467) _) _ _ _); refine hold ?_)
      k_with "call ref" => ((with_reducible show wpAny _ _ (call (Value.ref 474) _) _ _ _); refine hold ?_)
      k_with "call ref" => ((with_reducible show wpAny _ _ (call (Value.ref 49) _) _ _ _); refine hold ?_)
      k_with "call ref" => ((with_reducible show wpAny _ _ (call (Value.ref 42) _) _ _ _); refine hold ?_)
      k_steps
      refine unhold ?_
      rename News _ _ _ _ => nN
      k_dflt (refine' worth_spec ?B_1 ?F_1 ?X_1 nN ?T_1 ?hk_1 ?hd_1 ?hu_1 hR8 ?hN_1)
      case B_1 => k_asm
      case F_1 => k_asm
      case X_1 => k_asm
      case T_1 => k_asm
      case hk_1 => exact rfl
      case hd_1 => ktr_room
      case hu_1 => ktr_units
      intro tv1 h1 tk1 F1 N1
      clear nN kF9
      (try dsimp only)
      (try k_fold)
      k_steps
      refine unhold ?_
      rename News _ _ _ _ => nN
      k_dflt (refine' greedy_spec ?B_2 ?F_2 ?X_2 nN ?T_2 ?hk_2 ?hd_2 ?hu_2 hR1 hR8 ?hN_2)
      case B_2 => k_asm
      case F_2 => k_asm
      case X_2 => k_asm
      case T_2 => k_asm
      case hk_2 => exact rfl
      case hd_2 => ktr_room
      case hu_2 => ktr_units
      intro tv2 h2 tk2 F2 N2
      clear nN F1
      (try dsimp only)
      (try k_fold)
      k_steps
      refine unhold ?_
      rename News _ _ _ _ => nN
      k_dflt (refine' often_spec (keep := [_, _]) ?B_3 ?F_3 ?X_3 (news_take nN (.tail _ (.tail _ (.head _))) (news_take nN (.tail _ (.tail _ (.tail _ (.head _)))) (news_take nN (.head _) (dropL (ns := [_, _, _, _, _, _]) nN)))) ?T_3 ?hk_3 ?hd_3 ?hu_3 (pl_T ⟨l9, hR, hl9⟩) ?hn1_3 ?hn2_3 ?hn3_3 ?ho_3 ?hS_3)
      case B_3 => k_asm
      case F_3 => k_asm
      case X_3 => k_asm
      case T_3 => k_asm
      case hk_3 => exact rfl
      case hd_3 => ktr_room
      case hu_3 => ktr_units
      case hn1_3 => omega
      case hn2_3 => omega
      case hn3_3 => omega
      case ho_3 =>
        intro q hq b hb
        simp only [List.mem_cons, List.not_mem_nil, or_false] at hq hb
        rcases hq with rfl | rfl <;> rcases hb with rfl | rfl | rfl <;> (refine Nat.ne_of_lt ?_; dsimp only; omega)
      intro c3 y3 r3 ty3 tn3 k3 ts3 h3 tk3 hT3 hno3 F3 N3
      clear nN
      (try clear F2)
      obtain ⟨rfl, hc3⟩ := pl_E ⟨l9, hR, hl9⟩ hT3 hno3
      clear hT3 hno3
      rw [hc3] at N3
      clear hc3
      replace N3 := news_take N3 (.head _) (dropL (ns := [_, _, _, _]) N3)
      (try dsimp only)
      (try k_fold)
      k_steps
      refine unhold ?_
      rename News _ _ _ _ => nN
      refine ne_pair nN (.tail _ (.head _)) (.head _) (ok_greedy ⟨l9, hR, hl9⟩) (by ktr_units) ?_
      have nN4 := dropL (ns := [_, _]) nN
      rename Fr _ _ _ _ => kF4
      have hmany : Txt.count R (PySem.Str.ofString "1") - Txt.count (greedyS (worthS R) R.length) (PySem.Str.ofString "1") = manyS R := rfl
      rw [hmany] at kF4
      have hm0 := (pl_many ⟨l9, hR, hl9⟩).1
      have hm8 := (pl_many ⟨l9, hR, hl9⟩).2
      repeat (rename News _ _ _ [(_, _), (_, _), (_, _), (_, _), (_, _)] => z9; clear z9)
      clear nN
      k_with "pyIter ref" => (refine hold ?_)
      k_steps
      refine unhold ?_
      rename Fr _ _ _ _ => kF5
      rename News _ _ _ _ => nN5
      obtain ⟨w1, w2, w3, w4, w5, kN6⟩ := newsm nN5
      obtain ⟨w6, w7, w8, w9, u6, kF6⟩ := frm5 kF5 rfl rfl rfl rfl rfl
      clear kF5 nN5
      (try clear nN4)
      (try clear kF4)
      repeat (rename News _ _ _ [(_, _), (_, _), (_, _), (_, _), (_, _)] => z9; clear z9)
      k_with "pyIter ref" => (k_of "turn" => k_state (fun pre seen => Seen R (pre.length : Int) seen) "seen")
      k_with "state" => (first | exact seen_0 ⟨l9, hR, hl9⟩ | (refine hold ?_))
      k_state (fun pre seen => Seen R (pre.length : Int) seen) "seen"
      rotate_left
      focus
        rename Seen _ _ _ => hS9
        rw [rangeKs_length, show (((manyS R + 1 - 0).toNat : Nat) : Int) = manyS R + 1 by omega] at hS9
        exact (seen_over ⟨l9, hR, hl9⟩ hS9).elim
      k_with_none
      k_with "state" => exact seen_at (by assumption) (by assumption)
      k_with "call ref" => ((with_reducible show wpAny _ _ (call (Value.ref 467) _) _ _ _); refine hold ?_)
      k_with "call ref" => ((with_reducible show wpAny _ _ (call (Value.ref 42) _) _ _ _); refine hold ?_)
      rename Seen _ _ _ => hS9
      rw [show (kPre.length : Int) = kN by omega] at hS9
      have hk9 : (kPre.length : Int) = kN := by omega
      have hN9 : kN ≤ manyS R := by omega
      have hN0 : 0 ≤ kN := by omega
      clear kLt kEq
      (try clear kF6)
      (try clear kN6)
      repeat (rename IsRange _ _ _ _ _ _ _ _ => z9; clear z9)
      have hsl := seen_len hS9
      k_steps
      refine unhold ?_
      rename Fr _ _ _ _ => kF8
      rename News _ _ _ _ => kN8
      refine mono_later hS9 kF8 kN8 ?zE ?zF
      case zE =>
        rename Fr _ _ _ _ => lF'
        (with_unfolding_all refine' For_turns lF' ?_)
        k_steps
        have hf0 := Int.fmod_nonneg_of_pos ([ca, cb, cc].getD (Int.toNat 2) 0 + 2 * kN) (show (0 : Int) < (R.length : Int) + 1 by omega)
        have hf1 := Int.fmod_lt_of_pos ([ca, cb, cc].getD (Int.toNat 2) 0 + 2 * kN) (show (0 : Int) < (R.length : Int) + 1 by omega)
        obtain ⟨pl0, hpl⟩ := Int.eq_ofNat_of_zero_le hf0
        rw [hpl] at hf1
        have hpl9 : pl0 ≤ R.length := by omega
        clear hf0 hf1
        rename Fr _ _ _ _ => lF'
        rename News _ _ _ _ => nN
        rw [hpl] at nN
        clear hpl
        with_unfolding_all refine iter_tupTurns (vs := [_, _]) (by rfl) lF' nN (.head _) (by rfl) (by rfl) ?_
        clear lF' nN
        intro i' l1
        k_steps
        refine unhold ?_
        rename News _ _ _ _ => nN
        obtain ⟨hof_4, hne_4, nM⟩ := prep nN (kst_ltOf (by assumption)) (kst_ltOf (by assumption)) (kst_ltOf (by assumption)) (by assumption) (kst_ltOf (by assumption)) (by first | assumption | exact And.left (by assumption)) (by assumption)
        clear nN
        k_dflt (refine' once_arb (pl0 := pl0) (k := 0) (ls := #[]) (nl := 0) ?B_4 ?F_4 ?X_4 nM ?T_4 ?hk_4 ?hd_4 ?hu_4 (.head _) (.tail _ (.head _)) (.tail _ (.tail _ (.tail _ (.tail _ (.head _))))) (.tail _ (.tail _ (.tail _ (.tail _ (.tail _ (.head _)))))) (.tail _ (.tail _ (.tail _ (.tail _ (.tail _ (.tail _ (.head _))))))) (.tail _ (.tail _ (.tail _ (.tail _ (.tail _ (.tail _ (.tail _ (.head _)))))))) (.tail _ (.tail _ (.head _))) (.tail _ (.tail _ (.tail _ (.head _)))) (.tail _ (.tail _ (.tail _ (.tail _ (.tail _ (.tail _ (.tail _ (.tail _ (.tail _ (.tail _ (.head _))))))))))) (.tail _ (.tail _ (.tail _ (.tail _ (.tail _ (.tail _ (.tail _ (.tail _ (.tail _ (.tail _ (.tail _ (.head _)))))))))))) hof_4 hne_4 (by assumption) (by decide) ?hx_4 ?hp_4 (by decide) (by decide) ?hM_4 ?hS_4)
        case B_4 => k_asm
        case F_4 => k_asm
        case X_4 => k_asm
        case T_4 => k_asm
        case hk_4 => exact rfl
        case hd_4 => ktr_room
        case hu_4 => ktr_units
        case hx_4 => omega
        case hp_4 => omega
        case hS_4 =>
          intro i9 t9 h' tk' hi1 hi2 hi3 hi4 F' N'
          clear nM
          (try dsimp only)
          (try k_fold)
          k_steps
          rename Fr _ _ _ _ => kF8
          rename News _ _ _ _ => nN
          refine unrw kF8 (dropL (ns := [_, _, _, _, _, _, _, _]) nN) l1 ⟨⟨.head _, trivial⟩, ?_⟩
          clear kF8 nN
          k_steps
          rename Fr _ _ _ _ => kF8
          rename News _ _ _ _ => nN
          refine unrw kF8 nN l1 ⟨⟨.head _, trivial⟩, ?_⟩
          clear kF8 nN
          k_steps
          refine unhold ?_
          rename Fr _ _ _ _ => kF9
          rename News _ _ _ _ => nN9
          refine ⟨by first | exact True.intro | rfl, _, _, _, _, rfl, fr_later kF9 rfl (fun y a b c d => by simp only [if_neg a, if_neg b, if_neg c, if_neg d]), dropL (ns := [_]) nN9, ?_⟩
          exact .inr ⟨i9, _, rfl, hi2, hi4⟩
        intro h' tk' hno F' N'
        clear nM
        (try dsimp only)
        (try k_fold)
        k_steps
        rename Fr _ _ _ _ => kF8
        rename News _ _ _ _ => nN
        refine unrw kF8 (dropL (ns := [_, _, _, _, _, _, _, _]) nN) l1 ⟨⟨.head _, trivial⟩, ?_⟩
        clear kF8 nN
        k_steps
        refine unhold ?_
        rename News _ _ _ _ => nN
        obtain ⟨hof_5, hne_5, nM⟩ := prep nN (kst_ltOf (by assumption)) (kst_ltOf (by assumption)) (kst_ltOf (by assumption)) (by assumption) (kst_ltOf (by assumption)) (by first | assumption | exact And.left (by assumption)) (by assumption)
        clear nN
        k_dflt (refine' once_arb (pl0 := 0) (k := 0) (ls := #[]) (nl := 0) ?B_5 ?F_5 ?X_5 nM ?T_5 ?hk_5 ?hd_5 ?hu_5 (.head _) (.tail _ (.head _)) (.tail _ (.tail _ (.tail _ (.tail _ (.head _))))) (.tail _ (.tail _ (.tail _ (.tail _ (.tail _ (.head _)))))) (.tail _ (.tail _ (.tail _ (.tail _ (.tail _ (.tail _ (.head _))))))) (.tail _ (.tail _ (.tail _ (.tail _ (.tail _ (.tail _ (.tail _ (.head _)))))))) (.tail _ (.tail _ (.head _))) (.tail _ (.tail _ (.tail _ (.head _)))) (.tail _ (.tail _ (.tail _ (.tail _ (.tail _ (.tail _ (.tail _ (.tail _ (.tail _ (.tail _ (.head _))))))))))) (.tail _ (.tail _ (.tail _ (.tail _ (.tail _ (.tail _ (.tail _ (.tail _ (.tail _ (.tail _ (.tail _ (.head _)))))))))))) hof_5 hne_5 (by assumption) (by decide) ?hx_5 ?hp_5 (by decide) (by decide) ?hM_5 ?hS_5)
        case B_5 => k_asm
        case F_5 => k_asm
        case X_5 => k_asm
        case T_5 => k_asm
        case hk_5 => exact rfl
        case hd_5 => ktr_room
        case hu_5 => ktr_units
        case hx_5 => omega
        case hp_5 => omega
        case hS_5 =>
          intro i9 t9 h' tk' hi1 hi2 hi3 hi4 F' N'
          clear nM
          (try dsimp only)
          (try k_fold)
          k_steps
          rename Fr _ _ _ _ => kF8
          rename News _ _ _ _ => nN
          refine unrw kF8 (dropL (ns := [_, _, _, _, _, _, _, _]) nN) l1 ⟨⟨.head _, trivial⟩, ?_⟩
          clear kF8 nN
          k_steps
          refine unhold ?_
          rename Fr _ _ _ _ => kF9
          rename News _ _ _ _ => nN9
          refine ⟨by first | exact True.intro | rfl, _, _, _, _, rfl, fr_later kF9 rfl (fun y a b c d => by simp only [if_neg a, if_neg b, if_neg c, if_neg d]), dropL (ns := [_]) nN9, ?_⟩
          exact .inr ⟨i9, _, rfl, hi2, hi4⟩
        intro h' tk' hno5 F' N'
        clear nM
        (try dsimp only)
        (try k_fold)
        k_steps
        rename Fr _ _ _ _ => kF8
        rename News _ _ _ _ => nN
        refine unrw kF8 (dropL (ns := [_, _, _, _, _, _, _, _]) nN) l1 ⟨⟨.head _, trivial⟩, ?_⟩
        clear kF8 nN
        k_steps
        refine unhold ?_
        rename Fr _ _ _ _ => kF9
        rename News _ _ _ _ => nN9
        refine ⟨by first | exact True.intro | rfl, _, _, _, _, rfl, fr_later kF9 rfl (fun y a b c d => by simp only [if_neg a, if_neg b, if_neg c, if_neg d]), dropL (ns := [_]) nN9, ?_⟩
        exact .inl ⟨rfl, fun j hj => hno5 j (Nat.zero_le _) hj⟩
      case zF =>
        clear kF8 kN8
        intro s10 hJ
        obtain ⟨h10, tk10, u10, v10, rfl, kF10, kN10, hv10⟩ := hJ
        rcases hv10 with ⟨rfl, hno⟩ | ⟨i9, t9, rfl, hi2, hi4⟩
        focus
          by_cases hq : kN = manyS R
          rotate_left
          focus
            exact (seen_more ⟨l9, hR, hl9⟩ hS9 hq hno).elim
          obtain ⟨_, hE9⟩ := seen_end ⟨l9, hR, hl9⟩ (hq ▸ hS9)
          subst hq
          subst hE9
          k_steps
        have hq : kN ≠ manyS R := fun hq => by
          have := (seen_end ⟨l9, hR, hl9⟩ (hq ▸ hS9)).1 i9 hi2
          rw [this] at hi4
          cases hi4
        obtain ⟨hS8, hw8, hc8⟩ := seen_step hS9 hi2 hi4
        clear hi4
        have hx8 := seen_len hS8
        k_steps
        refine unhold ?_
        rename News _ _ _ _ => nN
        k_dflt (refine' worth_spec ?B_11 ?F_11 ?X_11 nN ?T_11 ?hk_11 ?hd_11 ?hu_11 ?hx_11 ?hN_11)
        case B_11 => k_asm
        case F_11 => k_asm
        case X_11 => k_asm
        case T_11 => k_asm
        case hk_11 => exact rfl
        case hd_11 => ktr_room
        case hu_11 => ktr_units
        case hx_11 => omega
        intro tv11 h11 tk11 F11 N11
        clear nN
        (try rw [hw8])
        (try dsimp only)
        (try k_fold)
        k_steps
        refine unhold ?_
        rename News _ _ _ _ => nN
        k_dflt (refine' worth_spec ?B_12 ?F_12 ?X_12 nN ?T_12 ?hk_12 ?hd_12 ?hu_12 ?hx_12 ?hN_12)
        case B_12 => k_asm
        case F_12 => k_asm
        case X_12 => k_asm
        case T_12 => k_asm
        case hk_12 => exact rfl
        case hd_12 => ktr_room
        case hu_12 => ktr_units
        case hx_12 => omega
        intro tv12 h12 tk12 F12 N12
        clear nN
        (try dsimp only)
        (try k_fold)
        k_steps)
end Mine
theorem PySem.Challenge.cw_tk0110_01_holds : PySem.Challenge.rw_tk0110_01.Holds := by
  exact Mine.main
