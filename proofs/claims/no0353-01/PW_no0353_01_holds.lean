import PyProof.Rows.All
import Wide.All
import OpenK.AllK
import Wide.FinOn
import PyProof.FactsAll.str_3
import PyProof.FactsAll.set_1
import PySem.Challenge.RW_no0353_01
set_option Elab.async false
set_option maxRecDepth 100000
set_option maxHeartbeats 8000000
set_option linter.all false
set_option rowWalk.seconds 0
namespace Mine
name_quick tw7232422423428716515 for PySem.W.S.findZ by PySem.W.S.findZ_eq
name_quick tw9011979029575296479 for PySem.W.S.findZ by PySem.W.S.findZ_eq
name_quick tw1291980286583624508 for PySem.W.S.findZ by PySem.W.S.findZ_eq
name_quick tw282004115355043989 for PySem.W.S.findZ by PySem.W.S.findZ_eq
name_quick tw7275051467321613617 for PySem.W.S.findZ by PySem.W.S.findZ_eq
name_quick tw12233582284571471492 for PySem.W.S.findZ by PySem.W.S.findZ_eq
name_quick tw3619232141914619222 for PySem.W.S.findZ by PySem.W.S.findZ_eq
name_quick tw1829445100760108279 for PySem.W.S.findZ by PySem.W.S.findZ_eq
name_quick tw1355338860687761863 for PySem.W.S.findZ by PySem.W.S.findZ_eq
name_quick tw682011567655089306 for PySem.W.S.findZ by PySem.W.S.findZ_eq
name_quick tw4011157648589011858 for PySem.W.S.findZ by PySem.W.S.findZ_eq
name_quick tw12268644228514654432 for PySem.W.S.findZ by PySem.W.S.findZ_eq
name_quick tw5978237884098788730 for PySem.W.S.findZ by PySem.W.S.findZ_eq
name_quick tw704327219915372674 for PySem.W.S.findZ by PySem.W.S.findZ_eq
name_quick tw18350330562280901221 for PySem.W.S.findZ by PySem.W.S.findZ_eq
name_quick tw10010936943081839664 for PySem.W.S.findZ by PySem.W.S.findZ_eq
name_quick tw151948405760981731 for PySem.W.S.findZ by PySem.W.S.findZ_eq
name_quick tw14311459727803291754 for PySem.W.S.findZ by PySem.W.S.findZ_eq
name_quick tw13607416678640721797 for PySem.W.S.findZ by PySem.W.S.findZ_eq
name_quick tw13215998728584607739 for PySem.W.S.findZ by PySem.W.S.findZ_eq
name_quick tw15007238320947547705 for PySem.W.S.findZ by PySem.W.S.findZ_eq
name_quick tw15168306246750427876 for PySem.W.S.findZ by PySem.W.S.findZ_eq
name_quick tw951843321253372498 for PySem.W.S.findZ by PySem.W.S.findZ_eq
name_quick tw14386061602966655976 for PySem.W.S.findZ by PySem.W.S.findZ_eq
name_quick tw3891137856419664920 for PySem.W.S.findZ by PySem.W.S.findZ_eq
name_quick tw4658958612460137192 for PySem.W.S.findZ by PySem.W.S.findZ_eq
name_quick tw17964007177503468958 for PySem.W.S.findZ by PySem.W.S.findZ_eq
name_quick tw17888162413812561239 for PySem.W.S.findZ by PySem.W.S.findZ_eq
name_quick tw14537914154153760125 for PySem.W.S.findZ by PySem.W.S.findZ_eq
name_quick tw14108194823987119177 for PySem.W.S.findZ by PySem.W.S.findZ_eq
name_quick tw14126943448341045398 for PySem.W.S.findZ by PySem.W.S.findZ_eq
name_quick tw18335945587353432394 for PySem.W.S.findZ by PySem.W.S.findZ_eq
name_quick tw6589095468515690095 for PySem.W.S.findZ by PySem.W.S.findZ_eq
name_quick tw10948738476641704880 for PySem.W.S.findZ by PySem.W.S.findZ_eq
name_quick tw17975652961387846372 for PySem.W.S.findZ by PySem.W.S.findZ_eq
name_quick tw4527066259768149269 for PySem.W.S.findZ by PySem.W.S.findZ_eq
name_quick tw14333388528381170442 for PySem.W.S.findZ by PySem.W.S.findZ_eq
name_quick tw2731037660246672878 for PySem.W.S.findZ by PySem.W.S.findZ_eq
name_quick tw8579058602437062094 for PySem.W.S.findZ by PySem.W.S.findZ_eq
name_quick tw17111948838632640456 for PySem.W.S.findZ by PySem.W.S.findZ_eq
name_quick tw16817318245366136608 for PySem.W.S.findZ by PySem.W.S.findZ_eq
name_quick tw10690313237802994826 for PySem.W.S.findZ by PySem.W.S.findZ_eq
name_quick tw10007627690174824804 for PySem.W.S.findZ by PySem.W.S.findZ_eq
name_quick tw16531745337717519161 for PySem.W.S.findZ by PySem.W.S.findZ_eq
name_quick tw17069979004554194336 for PySem.W.S.findZ by PySem.W.S.findZ_eq
name_quick tw14834023430324568649 for PySem.W.S.findZ by PySem.W.S.findZ_eq
name_quick tw13016732220969518872 for PySem.W.S.findZ by PySem.W.S.findZ_eq
name_quick tw15263041282635125899 for PySem.W.S.findZ by PySem.W.S.findZ_eq
name_quick tw13317431791736044220 for PySem.W.S.findZ by PySem.W.S.findZ_eq
name_quick tw1537898542681612871 for PySem.W.S.findZ by PySem.W.S.findZ_eq
name_quick tw14714103240675001986 for PySem.W.S.findZ by PySem.W.S.findZ_eq
name_quick tw8860024209350480642 for PySem.W.S.findZ by PySem.W.S.findZ_eq
name_quick tw3778451253796500701 for PySem.W.S.findZ by PySem.W.S.findZ_eq
name_quick tw17476080006546285661 for PySem.W.S.findZ by PySem.W.S.findZ_eq
name_quick tw3282434896037501709 for PySem.W.S.findZ by PySem.W.S.findZ_eq
name_quick tw2627984346626558326 for PySem.W.S.findZ by PySem.W.S.findZ_eq
name_quick tw2283851925072248500 for PySem.W.S.findZ by PySem.W.S.findZ_eq
name_quick tw4302124980754421698 for PySem.W.S.findZ by PySem.W.S.findZ_eq
name_quick tw11588390666370768167 for PySem.W.S.findZ by PySem.W.S.findZ_eq
name_quick tw17000155066101142889 for PySem.W.S.findZ by PySem.W.S.findZ_eq
name_quick tw16593013826814733010 for PySem.W.S.findZ by PySem.W.S.findZ_eq
name_quick tw5349121933718820234 for PySem.W.S.findZ by PySem.W.S.findZ_eq
name_quick tw15980859228951719591 for PySem.W.S.findZ by PySem.W.S.findZ_eq
name_quick tw2478078296215019888 for PySem.W.S.findZ by PySem.W.S.findZ_eq
name_quick tw3105397867545767578 for PySem.W.S.findZ by PySem.W.S.findZ_eq
name_quick tw17988542015724977305 for PySem.W.S.findZ by PySem.W.S.findZ_eq
name_quick tw17672482021469178181 for PySem.W.S.findZ by PySem.W.S.findZ_eq
name_quick tw3972328310683599613 for PySem.W.S.findZ by PySem.W.S.findZ_eq
name_quick tw6679490504615227074 for PySem.W.S.findZ by PySem.W.S.findZ_eq
name_quick tw14168537005229113720 for PySem.W.S.findZ by PySem.W.S.findZ_eq
name_quick tw8693227569615203950 for PySem.W.S.findZ by PySem.W.S.findZ_eq
name_quick tw8753696776887207221 for PySem.W.S.findZ by PySem.W.S.findZ_eq
name_quick tw6380047634161181297 for PySem.W.S.findZ by PySem.W.S.findZ_eq
name_quick tw13678640442995254988 for PySem.W.S.findZ by PySem.W.S.findZ_eq
name_quick tw1702518465993881591 for PySem.W.S.findZ by PySem.W.S.findZ_eq
name_quick tw8075568018651887793 for PySem.W.S.findZ by PySem.W.S.findZ_eq
name_quick tw5268983451555188008 for PySem.W.S.findZ by PySem.W.S.findZ_eq
name_quick tw17100903815162463580 for PySem.W.S.findZ by PySem.W.S.findZ_eq
name_quick tw15066959818950650227 for PySem.W.S.findZ by PySem.W.S.findZ_eq
name_quick tw4090926877573551719 for PySem.W.S.findZ by PySem.W.S.findZ_eq
name_quick tw13335737130258781183 for PySem.W.S.findZ by PySem.W.S.findZ_eq
name_quick tw18213545369034332514 for PySem.W.S.findZ by PySem.W.S.findZ_eq
name_quick tw16018607276475445134 for PySem.W.S.findZ by PySem.W.S.findZ_eq
name_quick tw3152983702415266003 for PySem.W.S.findZ by PySem.W.S.findZ_eq
name_quick tw10942035263794033107 for PySem.W.S.findZ by PySem.W.S.findZ_eq
name_quick tw2862820112641550484 for PySem.W.S.findZ by PySem.W.S.findZ_eq
name_quick tw7269565832213808900 for PySem.W.S.findZ by PySem.W.S.findZ_eq
name_quick tw12945451867199242903 for PySem.W.S.findZ by PySem.W.S.findZ_eq
name_quick tw5770868932273138760 for PySem.W.S.findZ by PySem.W.S.findZ_eq
name_quick tw1962928258387122110 for PySem.W.S.findZ by PySem.W.S.findZ_eq
name_quick tw16241802466949684156 for PySem.W.S.findZ by PySem.W.S.findZ_eq
name_quick tw1333364371103165705 for PySem.W.S.findZ by PySem.W.S.findZ_eq
name_quick tw8603108125212654177 for PySem.W.S.findZ by PySem.W.S.findZ_eq
name_quick tw1218959903707654005 for PySem.W.S.findZ by PySem.W.S.findZ_eq
name_quick tw16916688483869632129 for PySem.W.S.findZ by PySem.W.S.findZ_eq
name_quick tw8703263022893421829 for PySem.W.S.findZ by PySem.W.S.findZ_eq
name_quick tw369529430317351170 for PySem.W.S.findZ by PySem.W.S.findZ_eq
name_quick tw10833955939284561965 for PySem.W.S.findZ by PySem.W.S.findZ_eq
name_quick tw17532718790514356516 for PySem.W.S.findZ by PySem.W.S.findZ_eq
name_quick tw9948023125614773506 for PySem.W.S.findZ by PySem.W.S.findZ_eq
name_quick tw4933834842325187142 for PySem.W.S.findZ by PySem.W.S.findZ_eq
name_quick tw10938465397075749097 for PySem.W.S.findZ by PySem.W.S.findZ_eq
name_quick tw17730428716208468724 for PySem.W.S.findZ by PySem.W.S.findZ_eq
name_quick tw1414301608579184545 for PySem.W.S.findZ by PySem.W.S.findZ_eq
name_quick tw14223099787259518943 for PySem.W.S.findZ by PySem.W.S.findZ_eq
name_quick tw17018628822417861297 for PySem.W.S.findZ by PySem.W.S.findZ_eq
name_quick tw11985326045990495214 for PySem.W.S.findZ by PySem.W.S.findZ_eq
name_quick tw13236226663087606529 for PySem.W.S.findZ by PySem.W.S.findZ_eq
name_quick tw392140993173905013 for PySem.W.S.findZ by PySem.W.S.findZ_eq
name_quick tw18056578402003937789 for PySem.W.S.findZ by PySem.W.S.findZ_eq
name_quick tw8537084889766193716 for PySem.W.S.findZ by PySem.W.S.findZ_eq
name_quick tw17497748084772794779 for PySem.W.S.findZ by PySem.W.S.findZ_eq
name_quick tw662354867322794072 for PySem.W.S.findZ by PySem.W.S.findZ_eq
name_quick tw15112985482279097393 for PySem.W.S.findZ by PySem.W.S.findZ_eq
name_quick tw18340240734955500558 for PySem.W.S.findZ by PySem.W.S.findZ_eq
name_quick tw4219291521624284030 for PySem.W.S.findZ by PySem.W.S.findZ_eq
name_quick tw4558998842232669794 for PySem.W.S.findZ by PySem.W.S.findZ_eq
name_quick tw7892128664451923741 for PySem.W.S.findZ by PySem.W.S.findZ_eq
name_quick tw18220123701641295943 for PySem.W.S.findZ by PySem.W.S.findZ_eq
name_quick tw4552823106982906706 for PySem.W.S.findZ by PySem.W.S.findZ_eq
name_quick tw6448080314894763839 for PySem.W.S.findZ by PySem.W.S.findZ_eq
name_quick tw9908251947323293946 for PySem.W.S.findZ by PySem.W.S.findZ_eq
name_quick tw18345786424863182364 for PySem.W.S.findZ by PySem.W.S.findZ_eq
name_quick tw505943868828395459 for PySem.W.S.findZ by PySem.W.S.findZ_eq
name_quick tw9407582987413476825 for PySem.W.S.findZ by PySem.W.S.findZ_eq
name_quick tw7276740287692124622 for PySem.W.S.findZ by PySem.W.S.findZ_eq
name_quick tw14904524295806243326 for PySem.W.S.findZ by PySem.W.S.findZ_eq
name_quick tw11317593695737139937 for PySem.W.S.findZ by PySem.W.S.findZ_eq
name_quick tw12866136484021002089 for PySem.W.S.findZ by PySem.W.S.findZ_eq
name_quick tw11420187438672877268 for PySem.W.S.findZ by PySem.W.S.findZ_eq
name_quick tw7745614565497352828 for PySem.W.S.findZ by PySem.W.S.findZ_eq
name_quick tw4797165386629745026 for PySem.W.S.findZ by PySem.W.S.findZ_eq
name_quick tw14979626087600564940 for PySem.W.S.findZ by PySem.W.S.findZ_eq
name_quick tw8424611434330503625 for PySem.W.S.findZ by PySem.W.S.findZ_eq
name_quick tw13900631225919944168 for PySem.W.S.findZ by PySem.W.S.findZ_eq
name_quick tw9862997608875712007 for PySem.W.S.findZ by PySem.W.S.findZ_eq
name_quick tw8376441433122354887 for PySem.W.S.findZ by PySem.W.S.findZ_eq
name_quick tw15894407043143930727 for PySem.W.S.findZ by PySem.W.S.findZ_eq
name_quick tw11729385059970357855 for PySem.W.S.findZ by PySem.W.S.findZ_eq
name_quick tw10227693086864044499 for PySem.W.S.findZ by PySem.W.S.findZ_eq
name_quick tw6245536207120538393 for PySem.W.S.findZ by PySem.W.S.findZ_eq
name_quick tw16414604833108395602 for PySem.W.S.findZ by PySem.W.S.findZ_eq
name_quick tw16349804527192203551 for PySem.W.S.findZ by PySem.W.S.findZ_eq
name_quick tw1377046205977697930 for PySem.W.S.findZ by PySem.W.S.findZ_eq
name_quick tw9564595351457756722 for PySem.W.S.findZ by PySem.W.S.findZ_eq
name_quick tw17000458434675057986 for PySem.W.S.findZ by PySem.W.S.findZ_eq
name_quick tw16049961110935095269 for PySem.W.S.findZ by PySem.W.S.findZ_eq
name_quick tw9467589175468403638 for PySem.W.S.findZ by PySem.W.S.findZ_eq
name_quick tw117213463901210413 for PySem.W.S.findZ by PySem.W.S.findZ_eq
name_quick tw5902227825499142635 for PySem.W.S.findZ by PySem.W.S.findZ_eq
name_quick tw2859041830047134086 for PySem.W.S.findZ by PySem.W.S.findZ_eq
name_quick tw10424941004445345732 for PySem.W.S.findZ by PySem.W.S.findZ_eq
name_quick tw13512673800721320934 for PySem.W.S.findZ by PySem.W.S.findZ_eq
section
open PySem PySem.W PyProof.Rows
open_top hd for PySem.Challenge.rw_no0353_01
end
open PySem PySem.Spec PySem.Calls PySem.W PyProof.Rows
set_option compiler.extract_closed false
local macro_rules | `(tactic| k_ne) => `(tactic| k_extra "own k_ne")
local macro_rules | `(tactic| k_room) => `(tactic| k_extra "own k_room")
local macro_rules | `(tactic| k_all) => `(tactic| k_extra "own k_all")
local macro_rules | `(tactic| walk_at "exec For Name Name cons nil") => `(tactic| k_extra "own exec For Name Name cons nil")
local macro_rules | `(tactic| walk_at "call ref") => `(tactic| k_extra "own call ref")
local macro_rules | `(tactic| walk_at "exec While") => `(tactic| k_extra "own exec While")
local macro_rules | `(tactic| walk_at "exec While BoolOp") => `(tactic| k_extra "own exec While BoolOp")
local macro_rules | `(tactic| walk_at "subscriptTail") => `(tactic| k_extra "own subscriptTail")
local macro_rules | `(tactic| walk_at "call builtin:len") => `(tactic| k_extra "own call builtin:len")
local macro_rules | `(tactic| walk_at "execs cons Assign cons") => `(tactic| k_extra "own execs cons Assign cons")
local macro_rules | `(tactic| walk_at "execs cons") => `(tactic| k_extra "own execs cons")
local macro_rules | `(tactic| walk_at "getMethod bytes") => `(tactic| k_extra "own getMethod bytes")
local macro_rules | `(tactic| walk_at "call builtin:bytes.find") => `(tactic| k_extra "own call builtin:bytes.find")
local macro_rules | `(tactic| walk_at "binaryOp Add bytes bytes") => `(tactic| k_extra "own binaryOp Add bytes bytes")
local macro_rules | `(tactic| walk_at "call builtin:list.append") => `(tactic| k_extra "own call builtin:list.append")
local macro_rules | `(tactic| walk_at "exec While Compare cons nil") => `(tactic| k_extra "own exec While Compare cons nil")
local macro_rules | `(tactic| walk_at "eval ListComp") => `(tactic| k_extra "own eval ListComp")
local macro_rules | `(tactic| walk_at "exec Assign cons ListComp") => `(tactic| k_extra "own exec Assign cons ListComp")
local macro_rules | `(tactic| walk_at "CompSrc") => `(tactic| k_extra "own CompSrc")
local macro_rules | `(tactic| walk_at "CompSrcT") => `(tactic| k_extra "own CompSrcT")
local macro_rules | `(tactic| walk_at "exec For Name Call cons nil") => `(tactic| k_extra "own exec For Name Call cons nil")
local macro_rules | `(tactic| walk_at "call type:range") => `(tactic| k_extra "own call type:range")
local macro_rules | `(tactic| walk_at "getMethod str") => `(tactic| k_extra "own getMethod str")
local macro_rules | `(tactic| walk_at "call builtin:str.encode") => `(tactic| k_extra "own call builtin:str.encode")
local macro_rules | `(tactic| walk_at "call builtin:bytes.join") => `(tactic| k_extra "own call builtin:bytes.join")
local macro_rules | `(tactic| walk_at "compareOp NotEq ref ref") => `(tactic| k_extra "own compareOp NotEq ref ref")
local macro_rules | `(tactic| walk_at "compareOp NotEq bytes bytes") => `(tactic| k_extra "own compareOp NotEq bytes bytes")
local macro_rules | `(tactic| walk_at "binaryOp Add ref ref") => `(tactic| k_extra "own binaryOp Add ref ref")
local macro_rules | `(tactic| walk_at "exec For Name BinOp cons nil") => `(tactic| k_extra "own exec For Name BinOp cons nil")
local macro_rules | `(tactic| walk_at "compareOp In int ref") => `(tactic| k_extra "own compareOp In int ref")
local macro_rules | `(tactic| walk_at "subscriptTail Name Slice ref ref") => `(tactic| k_extra "own subscriptTail Name Slice ref ref")
local macro_rules | `(tactic| walk_at "compareOp Eq ref ref") => `(tactic| k_extra "own compareOp Eq ref ref")
local macro_rules | `(tactic| walk_at "call type:set") => `(tactic| k_extra "own call type:set")
local macro_rules | `(tactic| walk_at "call builtin:sorted") => `(tactic| k_extra "own call builtin:sorted")
local macro_rules | `(tactic| walk_at "compareOp NotIn") => `(tactic| k_extra "own compareOp NotIn")
local macro_rules | `(tactic| walk_at "compareOp NotIn int bytes") => `(tactic| k_extra "own compareOp NotIn int bytes")
local macro_rules | `(tactic| walk_at "pyIter bytes") => `(tactic| k_extra "own pyIter bytes")
/-! text Base -/
section
theorem off_Base : True := by
  w_top off
  trivial
theorem kw_Base_0 : True := by
  k_with_none
  trivial
noncomputable abbrev Km (w : World) : Frag := Mine.hd.heap_39 w.params
abbrev TopM (mean : ExcName → Option Value) (mg mb : Str → Option Value) (h : Heap) : Prop := Top Mine.hd.view_39 (looseW Mine.hd.view_39 []) mean mg mb h
abbrev Mm (w : World) : Model := model PySem.Challenge.rw_no0353_01.row.prog w

/-- all that lies in h but at fp lies in h' as it was -/
structure Kept (fp : List Addr) (h h' : Heap) : Prop where
  same : ∀ b o, h.get? b = some o → b ∉ fp → h'.get? b = some o
  grows : h.objs.size ≤ h'.objs.size

theorem Kept.refl {fp : List Addr} {h : Heap} : Kept fp h h := ⟨fun _ _ e _ => e, Nat.le_refl _⟩
theorem Kept.trans {fp : List Addr} {h h' h'' : Heap} (a : Kept fp h h') (b : Kept fp h' h'') : Kept fp h h'' :=
  ⟨fun x o e n => b.same x o (a.same x o e n) n, Nat.le_trans a.grows b.grows⟩
theorem Kept.more {fp fp' : List Addr} {h h' : Heap} (a : Kept fp h h') (s : ∀ x ∈ fp, x ∈ fp') : Kept fp' h h' :=
  ⟨fun x o e n => a.same x o e fun q => n (s x q), a.grows⟩

/-- the caller's ground: a def may be called here, its footprint is fp -/
structure Ctx (w : World) (A : Around) (h : Heap) (fp : List Addr) (base : Heap) (env : Env) (outer : List Env) (A₀ : Around) (h₀ : Heap) (L : Addr) (m : Str → Option Value) (mean : ExcName → Option Value) (mg mb : Str → Option Value) : Prop where
  B : Below A₀ base outer h₀
  F : Fr h₀ L h m
  X : (Km w).In h₀
  T : TopM mean mg mb h₀
  frames : A.frames = some (env :: outer)
  frame : env.frame = some L
  kind : env.scope.kind = .function
  handled : A.handled = none
  off : ∀ a ∈ fp, h₀.get? a = none ∧ a ≠ L

theorem Ctx.fr {w : World} {A : Around} {h h' : Heap} {fp : List Addr} {base : Heap} {env : Env} {outer : List Env} {A₀ : Around} {h₀ : Heap} {L : Addr} {m : Str → Option Value} {mean : ExcName → Option Value} {mg mb : Str → Option Value}
    (C : Ctx w A h fp base env outer A₀ h₀ L m mean mg mb) (k : Kept fp h h') : Fr h₀ L h' m := by
  obtain ⟨oL, es, ep, hL, r⟩ := C.F.ns
  refine ⟨⟨oL, es, ep, k.same _ _ hL fun q => (C.off _ q).2 rfl, r⟩, fun b o e => k.same _ _ (C.F.keep b o e) fun q => ?_, C.F.above⟩
  rw [(C.off _ q).1] at e; cases e
theorem news_kept {h₀ h h' : Heap} {L : Addr} {fp : List Addr} {news : List (Addr × Obj)} (N : News h₀ L h news) (k : Kept fp h h') (d : ∀ p ∈ news, p.1 ∉ fp) : News h₀ L h' news :=
  fun p hp => ⟨k.same _ _ (N p hp).1 (d p hp), (N p hp).2⟩

theorem hideAll_getEq : ∀ (l : List Addr) {h : Heap} {b : Addr}, b ∉ l → (hideAll h l).get? b = h.get? b := by
  intro l h b n
  cases q : h.get? b with
  | some o => exact hideAll_get l q n
  | none =>
    cases q' : (hideAll h l).get? b with
    | none => rfl
    | some o => have := of_hideAll l q'; rw [q] at this; cases this

/-- what a body's end has to show: the frame at the end, then the rest with all else kept -/
def Done (g : Heap) (fp : List Addr) (h : Heap) (Q : Value → Shared → Prop) (v : Value) (s' : Shared) : Prop := ∃ L' m', Fr g L' s'.heap m' ∧ (Kept fp h s'.heap → Q v s')

theorem enter {w : World} {A : Around} {s : Shared} {fp : List Addr} {base : Heap} {env : Env} {outer : List Env} {A₀ : Around} {h₀ : Heap} {L : Addr} {m : Str → Option Value} {mean : ExcName → Option Value} {mg mb : Str → Option Value}
    {name qual : Str} {params : Arguments} {body : List Stmt} {scope : Scope} {dV kV doc pm cdv ct oc : Value} {an od : Option Addr} {osl : Array (Option Value)} {f : Addr} {pos : List Value} {binds : List (Str × Value)} {Q : Value → Shared → Prop} {E : Value → Shared → Prop} {news : List (Addr × Obj)}
    (C : Ctx w A s.heap fp base env outer A₀ h₀ L m mean mg mb) (hn : ∀ p ∈ news, s.heap.get? p.1 = some p.2) (hfp : news.map (·.1) = fp)
    (ho : (Km w).lookup f = some ⟨oc, od, .func (fnOf name qual params body scope dV kV doc pm an cdv ct), osl⟩) (hcd : codeIn (Km w) cdv qual = true) (hroom : A.depth < recursionLimit)
    (hbind : BindsTo s (fnOf name qual params body scope dV kV doc pm an cdv ct) ⟨pos, []⟩ binds) (hloc : ∀ y ∈ binds, scope.names.lookup y.1 = some .local)
    (hcell : ∀ x ∈ scope.names, x.2 ≠ .cell) (hco : scope.isCoroutine = false) (hgen : scope.isGenerator = false) (hk : scope.kind = .function)
    (h : ∀ g L' h₁ gd outer', (∀ b, b ∉ fp → g.get? b = s.heap.get? b) → Fr g L' h₁ (fun y => binds.reverse.lookup y) → News g L' h₁ news → Below A base outer' g → (Km w).In g → TopM mean mg mb g → 
      wpAny (Mm w) (ktrTop (A.depth + 1) (A.units + 3) gd qual scope L' f cdv [] outer') (execs body (envOf qual scope L' f cdv))
        (fun fl s' => Done g fp s.heap Q (match fl with | .ret v => v | _ => .none) s')
        (fun _ _ => False)
        { s with heap := h₁, toks := s.toks + binds.length }) :
    wpAny (Mm w) A (call (.ref f) pos) Q E s := by
  subst hfp
  have N : News h₀ L s.heap news := fun p hp => ⟨hn p hp, (C.off _ (List.mem_map_of_mem hp)).2, (C.off _ (List.mem_map_of_mem hp)).1⟩
  obtain ⟨FG, BG, st, _⟩ := groundX (R := fun _ _ => True) C.B C.F N C.frames C.frame C.kind
  refine wpAny_call (codeAny_call_def (fd := fnOf name qual params body scope dV kV doc pm an cdv ct) (body := body) (binds := binds) hroom ((C.X.keeps C.F.keep) _ _ ho) rfl (C.T.nolimit.keeps C.F.keep) (codeRec_of (C.X.keeps C.F.keep) hcd) rfl hbind hcell hloc (fun h₁ hns hk₁ => ?_) hco hgen hk)
  have hA : A.deeper (envOf qual scope s.heap.objs.size f cdv) = ktrTop (A.depth + 1) (A.units + 3) A.guards qual scope s.heap.objs.size f cdv [] (env :: outer) := by
    obtain ⟨hd, dp, fr, gd, un⟩ := A
    have e1 : fr = some (env :: outer) := C.frames
    have e2 : hd = none := C.handled
    subst e1 e2
    rfl
  have X' : (Km w).In (hideAll s.heap (news.map (·.1))) := C.X.keeps st
  have T' : TopM mean mg mb (hideAll s.heap (news.map (·.1))) := C.T.keeps st
  have x := h (hideAll s.heap (news.map (·.1))) s.heap.objs.size h₁ A.guards (env :: outer) (fun b nb => hideAll_getEq _ nb)
    ⟨hns, fun b o e => hk₁ b o (of_hideAll _ e), Nat.le_of_eq (hideAll_size _ _)⟩ (fun p hp => ⟨hk₁ _ _ (hn p hp), Nat.ne_of_lt (Heap.lt_size (hn p hp)), hideAll_none _ (List.mem_map_of_mem hp)⟩) BG X' T'
  change wpAny (Mm w) (A.deeper (envOf qual scope s.heap.objs.size f cdv)) (execs body (envOf qual scope s.heap.objs.size f cdv)) _ _ _
  rw [hA]
  refine wpAny_mono x (fun fl s' hl => ?_) fun _ _ y => y.elim
  obtain ⟨L', m', F', k⟩ := hl
  have kk : Kept (news.map (·.1)) s.heap s'.heap := ⟨fun b o e n => F'.keep _ _ (hideAll_get _ e n), by
    have h1 := F'.above
    have h2 : L' < s'.heap.objs.size := F'.ns.lt
    rw [hideAll_size] at h1
    exact Nat.le_of_lt (Nat.lt_of_le_of_lt h1 h2)⟩
  cases fl <;> exact k kk
/-- a block cut in two at what holds between -/
theorem execs_join {M : Model} {A : Around} {env : Env} {E : Value → Shared → Prop} {rest : List Stmt} {R : Shared → Prop} {Q : Flow → Shared → Prop} (h2 : ∀ s', R s' → wpAny M A (execs rest env) Q E s') :
    ∀ (pre : List Stmt) (s : Shared), wpAny M A (execs pre env) (fun f s' => match f with | .next => R s' | f => Q f s') E s → wpAny M A (execs (pre ++ rest) env) Q E s := by
  intro pre s h1 Γ p hΓ
  have h := h1 Γ p hΓ
  clear h1
  revert s p
  induction pre with
  | nil => intro s p h; exact h2 s h Γ p hΓ
  | cons a pre ih =>
    intro s p h
    rw [execs_cons, Sem.wp_bind'] at h
    rw [List.cons_append, execs_cons, Sem.wp_bind']
    refine Sem.wp_mono M Γ _ (fun f p' s' h' => ?_) (fun _ _ _ h' => h') _ _ h
    cases f with
    | next => exact ih s' p' h'
    | _ => exact h'
/-- the goal behind a letter, so that what is taken apart ahead of it bears no copy of it -/
theorem hide {G : Prop} (h : ∀ X : Prop, (G → X) → X) : G := h G id
theorem room_up {a b c n : Nat} (h : a + b < n) (e : Nat.ble c b = true) : a + c < n := Nat.lt_of_le_of_lt (Nat.add_le_add_left (Nat.le_of_ble_eq_true e) _) h
theorem room_0 {a b n : Nat} (h : a + b < n) : a < n := Nat.lt_of_le_of_lt (Nat.le_add_right _ _) h
theorem kw_Base_1 : True := by
  k_with "pick" =>
    (with_reducible (first
    | assumption | exact And.left (by assumption) | exact And.left (And.right (by assumption)) | exact And.left (And.right (And.right (by assumption)))
    | exact And.left (And.right (And.right (And.right (by assumption)))) | exact And.left (And.right (And.right (And.right (And.right (by assumption))))) | exact And.left (And.right (And.right (And.right (And.right (And.right (by assumption)))))) | exact And.right (by assumption)))
  k_with "ne1" =>
    first
    | (with_reducible assumption) | exact _root_.Ne.symm (by with_reducible assumption) | exact Nat.ne_of_lt (by k_extra "pick") | exact Nat.ne_of_gt (by k_extra "pick")
  k_with "ar" =>
    first
    | (with_reducible assumption)
    | exact room_up (by with_reducible assumption) rfl
    | ((repeat (first | (rename _ ≠ _ => hz9; clear hz9) | (rename (_ ≠ _ ∧ _) => hz9; clear hz9))); omega)
    | omega
  k_with "own k_ne" =>
    (refine neN ?_; (try dsimp only); first | k_extra "ne1" | omega)
  trivial
end
/-! text Draw -/
section
theorem off_Draw : True := by
  w_top off
  trivial
/-- the pen's list object -/
def PenO (cells : Addr) (B : Int) (po : Obj) : Prop := ∃ great state place t1 t2 t3 n, po = PySem.W.listOf (List.toArray [.ref cells, .int great t1, .int state t2, .int place t3]) n ∧ 0 ≤ great ∧ 0 ≤ state ∧ state < 2147483647 ∧ 0 ≤ place ∧ place ≤ B

theorem isList_of {h g : Heap} {fp : List Addr} {l : Addr} {a : Array Value} (H : h.IsList l a) (e : ∀ b, b ∉ fp → g.get? b = h.get? b) (n : l ∉ fp) : g.IsList l a := H.at fun _ q => (e l n).trans q

theorem fmod_lo {a b : Int} (h : 0 < b) : 0 ≤ a.fmod b := by rw [Int.fmod_eq_emod_of_nonneg _ (by k_extra "ar")]; exact Int.emod_nonneg _ (by k_extra "ar")
theorem fmod_hi {a b : Int} (h : 0 < b) : a.fmod b < b := by rw [Int.fmod_eq_emod_of_nonneg _ (by k_extra "ar")]; exact Int.emod_lt_of_pos _ h

theorem draw_spec {w : World} {A : Around} {s : Shared} {base : Heap} {env : Env} {outer : List Env} {A₀ : Around} {h₀ : Heap} {L : Addr} {m : Str → Option Value} {mean : ExcName → Option Value} {mg mb : Str → Option Value} {pen cells : Addr} {vs : List Value} {xs : List Int} {po : Obj} {B limit : Int} {t4 : Tok} {Q E : Value → Shared → Prop}
    (C : Ctx w A s.heap [pen] base env outer A₀ h₀ L m mean mg mb) (hd : A.depth + 5 < recursionLimit) (hu : A.units + 60 < cLine) (hpo : s.heap.get? pen = some po) (hP : PenO cells B po) (hcl : s.heap.IsList cells (List.toArray vs)) (hi : IntsAre vs xs) (hlen : xs.length ≤ 63) (hne : cells ≠ pen) (hB : B < 10000) (hl : 0 < limit) (hl' : limit < 100000)
    (h : ∀ r t po' h' tk', 0 ≤ r → r < limit → Kept [pen] s.heap h' → h'.get? pen = some po' → PenO cells (B + 1) po' → Q (.int r t) { s with heap := h', toks := tk' }) :
    wpAny (Mm w) A (call (.ref 138) [.ref pen, .int limit t4]) Q E s := by
  have KX : (Mine.hd.heap_39 w.params).In h₀ := C.X
  revert KX
  delta Mm
  k_fill
  intro KX
  obtain ⟨great, state, place, t1, t2, t3, n, rfl, hg0, hs0, hs1, hp0, hp1⟩ := hP
  refine enter C (news := [(pen, PySem.W.listOf (List.toArray [.ref cells, .int great t1, .int state t2, .int place t3]) n)]) (binds := [(Str.ofString "pen", .ref pen), (Str.ofString "limit", .int limit t4)])
    (fun p hp => by rw [List.mem_singleton.mp hp]; exact hpo) rfl (by delta Km; k_is) (by delta Km; k_is) (by k_extra "ar") (BindsTo.of_eq rfl) (locs rfl) (by decide) rfl rfl rfl ?_
  delta Km TopM Mm
  intro g L' h₁ gd outer' hg F N B' X T
  have hcl' := isList_of hcl hg (by simpa using hne)
  have hdep : A.depth + 1 < recursionLimit := by k_extra "ar"
  have hun : A.units + 3 + 8 < cLine := by k_extra "ar"
  clear hd hu C KX
  have fin : ∀ great state place r t tk t1 t2 t3 n h' m', Fr g L' h' m' → News g L' h' [(pen, PySem.W.listOf (List.toArray [.ref cells, .int great t1, .int state t2, .int place t3]) n)] → 0 ≤ great → 0 ≤ state → state < 2147483647 → 0 ≤ place → place ≤ B + 1 → 0 ≤ r → r < limit →
      Done g [pen] s.heap Q (.int r t) { s with heap := h', toks := tk } := fun great state place r t tk t1 t2 t3 n h' m' F N hg0 hs0 hs1 hp0 hp1 hr0 hr1 =>
    ⟨_, _, F, fun kk => h _ _ _ _ _ hr0 hr1 kk (N _ (List.mem_singleton.mpr rfl)).1 ⟨great, state, place, t1, t2, t3, n, rfl, hg0, hs0, hs1, hp0, hp1⟩⟩
  clear hcl h
  try dsimp only
  show wpAny _ _ _ _ _ _
  k_fold
  k_steps
  all_goals (try dsimp only)
  · refine fin _ _ _ _ _ _ _ _ _ _ _ _ (by assumption) (by assumption) ?_ hs0 hs1 (by k_extra "ar") (by k_extra "ar") (fmod_lo hl) (fmod_hi hl)
    rw [Int.fdiv_eq_ediv_of_nonneg _ (by k_extra "ar")]
    exact Int.ediv_nonneg hg0 (by k_extra "ar")
  · exact fin _ _ _ _ _ _ _ _ _ _ _ _ (by assumption) (by assumption) hg0 (fmod_lo (by decide)) (fmod_hi (by decide)) (by k_extra "ar") (by k_extra "ar") (fmod_lo hl) (fmod_hi hl)
  · exact fin _ _ _ _ _ _ _ _ _ _ _ _ (by assumption) (by assumption) hg0 (fmod_lo (by decide)) (fmod_hi (by decide)) (by k_extra "ar") (by k_extra "ar") (fmod_lo hl) (fmod_hi hl)
end
/-! text ByFind -/
section
theorem off_ByFind : True := by
  w_top off
  trivial
abbrev Bs := List UInt8

/-- the first place from k on of a line's end -/
noncomputable def findCR (x : Bs) (k : Nat) : Option Nat := ((List.range (x.length + 1 - (k + 2))).map (· + k)).find? fun i => decide (x[i]? = some 13 ∧ x[i + 1]? = some 10)

noncomputable def findV (o : Option Nat) : Int := match o with | some i => (i : Int) | none => -1

theorem extract_two (x : Bs) (i : Nat) : (x.toArray.extract i (i + 2) == #[13, 10]) = decide (x[i]? = some 13 ∧ x[i + 1]? = some 10) := by
  have e : x.toArray.extract i (i + 2) = ((x.drop i).take 2).toArray := by
    rw [List.extract_toArray, List.extract_eq_take_drop]
    simp
  rw [e]
  have h1 : x[i]? = (x.drop i)[0]? := by simp
  have h2 : x[i + 1]? = (x.drop i)[1]? := by simp
  rw [h1, h2]
  generalize x.drop i = y
  match y with
  | [] => simp
  | [a] => simp
  | a :: b :: r =>
    rw [Bool.eq_iff_iff]
    simp

section
open Builtin
theorem slot_find : Slot "bytes" "find" "bytes.find" :=
  .of (owner := "bytes") (n := "find") (by rw [typeLookup_type, builtinLookup_eq_fast]; kernel_rfl) (by decide +kernel) (by decide +kernel) (by decide +kernel)
    (by first | exact .inl (by decide +kernel) | exact .inr (by decide +kernel)) (by rw [isSubtype_type]; kernel_rfl)
theorem type_find : typeOf (.builtin "bytes.find") = pure (.type "method_descriptor") := by show builtinType _ = _; rw [builtinType_eq_fast]; kernel_rfl
theorem entry_find : entryFor table "bytes.find" = some Builtin.«bytes.find» := entryFor_of_tree (by kernel_rfl)
theorem args_find_2 (a b : Value) : argsOk "bytes.find" ⟨[a, b], []⟩ := by
  unfold argsOk; rw [signature?_of (id := "bytes.find") (n := ['d', 'n', 'i', 'f']) (o := ['s', 'e', 't', 'y', 'b']) (by kernel_rfl) FB.owner_bytes]; kernel_rfl
theorem args_find_3 (a b c : Value) : argsOk "bytes.find" ⟨[a, b, c], []⟩ := by
  unfold argsOk; rw [signature?_of (id := "bytes.find") (n := ['d', 'n', 'i', 'f']) (o := ['s', 'e', 't', 'y', 'b']) (by kernel_rfl) FB.owner_bytes]; kernel_rfl

theorem find_is (x : Bs) (k : Nat) :
    ((if ((min (x.toArray.size : Int) x.toArray.size) : Int) - (k : Int) < ((#[13, 10] : Array UInt8).size : Int) then none else some (((k : Int)).toNat, ((min (x.toArray.size : Int) x.toArray.size) : Int).toNat) : Option (Nat × Nat)).bind fun (lo, hi) => Bytes.find? x.toArray #[13, 10] lo hi) = findCR x k := by
  have hs : x.toArray.size = x.length := by simp
  have h2 : (#[13, 10] : Array UInt8).size = 2 := rfl
  rw [hs, h2]
  unfold Bytes.find? findCR
  have hf : ∀ i, (x.toArray.extract i (i + (#[13, 10] : Array UInt8).size) == #[13, 10]) = decide (x[i]? = some 13 ∧ x[i + 1]? = some 10) := fun i => extract_two x i
  by_cases h : (min (x.length : Int) x.length) - (k : Int) < ((2 : Nat) : Int)
  · rw [if_pos h]
    have : x.length + 1 - (k + 2) = 0 := by k_extra "ar"
    rw [this]
    rfl
  · rw [if_neg h]
    have e1 : ((k : Int)).toNat = k := by k_extra "ar"
    have e2 : ((min (x.length : Int) x.length)).toNat = x.length := by k_extra "ar"
    show (((List.range ((min (x.length : Int) x.length).toNat + 1 - ((k : Int).toNat + 2))).map (· + (k : Int).toNat)).find? fun i => x.toArray.extract i (i + (#[13, 10] : Array UInt8).size) == #[13, 10]) = _
    rw [e1, e2]
    congr 1
    funext i
    exact hf i

theorem bound_int {M : Model} {A : Around} {E : Value → Shared → Prop} {s : Shared} {k : Int} {v : Tok} {Q : Option Int → Shared → Prop} (h : Q (some k) s) : wpAny M A (Bytes.bound? (some (.int k v))) Q E s := by
  unfold Bytes.bound?
  dsimp only
  refine wpAny_bind (wpAny_specialOf (T := "int") (typeIs_int _ _ _) F.slot_int_index.lookup ?_)
  refine wpAny_ite (KBy.ite_no (show ¬ (Option.isNone (some _) = true) from Bool.false_ne_true) ?_)
  exact wpAny_bind (wpAny_of_eq rfl (wpAny_pure h))

theorem window_is {n : Nat} {start : Option Int} {k : Nat} (hs : start = some (k : Int) ∨ (start = none ∧ k = 0)) : Bytes.window n start none = ((k : Int), (min (n : Int) n)) := by
  unfold Bytes.window
  rcases hs with rfl | ⟨rfl, rfl⟩
  · have h1 : ¬ ((k : Int) < 0) := by k_extra "ar"
    have h2 : ¬ ((n : Int) < 0) := by k_extra "ar"
    simp only [Option.getD_some, Option.getD_none, if_neg h1, if_neg h2]
  · have h2 : ¬ ((n : Int) < 0) := by k_extra "ar"
    simp only [Option.getD_none, if_neg h2]
    rfl

theorem find_end {prog : Program} {w : World} {A : Around} {R : Result → Shared → Prop} {s : Shared} (x : Bs) (k : Nat) (start : Option Int) (hs : start = some (k : Int) ∨ (start = none ∧ k = 0)) (tag : String) (no : Sem Fin)
    (h : ∀ t' k', R (.ok (.ret (.int (findV (findCR x k)) t'))) { s with toks := k' }) :
    wpAny (model prog w) A
      (match (if (Bytes.window x.toArray.size start none).2 - (Bytes.window x.toArray.size start none).1 < (((#[13, 10] : Array UInt8).size : Nat) : Int) then none else some ((Bytes.window x.toArray.size start none).1.toNat, (Bytes.window x.toArray.size start none).2.toNat) : Option (Nat × Nat)).bind fun p => if false = true then Bytes.rfind? x.toArray #[13, 10] p.1 p.2 else Bytes.find? x.toArray #[13, 10] p.1 p.2 with
        | some i => retInt i
        | none => do
          rule tag
          if false = true then no else retInt (-1))
      (fun fin s' => ∃ v, fin = Fin.done (Flow.ret v) ∧ R (Except.ok (Flow.ret v)) s') (fun e s' => R (Except.error e) s') s := by
  rw [window_is hs]
  have e := find_is x k
  simp only [Bool.false_eq_true, if_false]
  dsimp only at e ⊢
  rw [e]
  cases hc : findCR x k with
  | some i =>
    rw [hc] at h
    exact wpAny_bind (wpAny_mkInt (wpAny_pure ⟨_, rfl, h _ _⟩))
  | none =>
    rw [hc] at h
    exact wpAny_bind (wpAny_rule (wpAny_bind (wpAny_mkInt (wpAny_pure ⟨_, rfl, h _ _⟩))))

theorem meets_find3 (x : Bs) (k : Nat) (t u v : Tok) :
    Meets («bytes.find» ⟨[.bytes x.toArray t, .bytes #[13, 10] u, .int (k : Int) v], []⟩) (fun _ R s => ∀ t' k', R (.ok (.ret (.int (findV (findCR x k)) t'))) { s with toks := k' }) := by
  refine .of_wp fun prog w A R s h => ?_
  show wpAny _ _ (Bytes.searchArgs .bytes "find" _ >>= fun r => _) _ _ s
  refine wpAny_bind ?_
  unfold Bytes.searchArgs
  refine wpAny_bind (wpAny_of_eq (a := (Value.bytes x.toArray t, [Value.bytes #[13, 10] u, Value.int (k : Int) v])) (by kernel_rfl) ?_)
  dsimp only
  refine wpAny_bind ?_
  show wpAny _ _ (Bytes.bound? (some (.int (k : Int) v))) _ _ s
  refine bound_int ?_
  refine wpAny_bind (wpAny_of_eq (a := none) rfl ?_)
  show wpAny _ _ (Bytes.buffer? _ (.bytes #[13, 10] u) >>= fun r => _) _ _ s
  refine wpAny_bind (wpAny_of_eq KBy.buffer_eq ?_)
  refine wpAny_bind (wpAny_pure ?_)
  refine wpAny_bind (wpAny_of_eq (a := x.toArray) rfl ?_)
  refine wpAny_pure ?_
  exact find_end x k _ (.inl rfl) _ _ h
theorem meets_find2 (x : Bs) (t u : Tok) :
    Meets («bytes.find» ⟨[.bytes x.toArray t, .bytes #[13, 10] u], []⟩) (fun _ R s => ∀ t' k', R (.ok (.ret (.int (findV (findCR x 0)) t'))) { s with toks := k' }) := by
  refine .of_wp fun prog w A R s h => ?_
  show wpAny _ _ (Bytes.searchArgs .bytes "find" _ >>= fun r => _) _ _ s
  refine wpAny_bind ?_
  unfold Bytes.searchArgs
  refine wpAny_bind (wpAny_of_eq (a := (Value.bytes x.toArray t, [Value.bytes #[13, 10] u])) (by kernel_rfl) ?_)
  dsimp only
  refine wpAny_bind (wpAny_of_eq (a := none) rfl ?_)
  refine wpAny_bind (wpAny_of_eq (a := none) rfl ?_)
  show wpAny _ _ (Bytes.buffer? _ (.bytes #[13, 10] u) >>= fun r => _) _ _ s
  refine wpAny_bind (wpAny_of_eq KBy.buffer_eq ?_)
  refine wpAny_bind (wpAny_pure ?_)
  refine wpAny_bind (wpAny_of_eq (a := x.toArray) rfl ?_)
  refine wpAny_pure ?_
  exact find_end x 0 _ (.inr ⟨rfl, rfl⟩) _ _ h

section
variable {prog : Program} {w : World} {A : Around} {E : Value → Shared → Prop} {s : Shared} {x : Bs} {t u v : Tok} {Q : Value → Shared → Prop}
theorem find3 {i : Int} {k : Nat} (e : i = (k : Int)) (h : ∀ t' k', Q (.int (findV (findCR x k)) t') { s with toks := k' }) : wpAny (model prog w) A (call (.builtin "bytes.find") [.bytes x.toArray t, .bytes #[13, 10] u, .int i v]) Q E s := by
  subst e
  exact call_meets slot_find (typeIs_bytes _ _ _) entry_find (args_find_3 _ _ _) (meets_find3 x k t u v) h
theorem find2 (h : ∀ t' k', Q (.int (findV (findCR x 0)) t') { s with toks := k' }) : wpAny (model prog w) A (call (.builtin "bytes.find") [.bytes x.toArray t, .bytes #[13, 10] u]) Q E s :=
  call_meets slot_find (typeIs_bytes _ _ _) entry_find (args_find_2 _ _) (meets_find2 x t u) h
theorem method_find {M : Model} {b : Array UInt8} {pl : Sem Bool} {Q : Value × List Value → Shared → Prop} (h : Q (.builtin "bytes.find", [.bytes b t]) s) : wpAny M A (getMethod (.bytes b t) "find" pl) Q E s := by
  with_reducible exact KBd.method_of (.bytes b t) (typeIs_bytes _ _ _) slot_find type_find KBd.noRef h
end
end

theorem findCR_some {x : Bs} {k i : Nat} (h : findCR x k = some i) : k ≤ i ∧ i + 2 ≤ x.length ∧ x[i]? = some 13 ∧ x[i + 1]? = some 10 ∧ ∀ j, k ≤ j → j < i → ¬ (x[j]? = some 13 ∧ x[j + 1]? = some 10) := by
  unfold findCR at h
  rw [List.find?_map, Option.map_eq_some_iff] at h
  obtain ⟨a, ha, rfl⟩ := h
  have h1 := List.find?_some ha
  have h2 := List.mem_range.mp (List.mem_of_find?_eq_some ha)
  simp only [Function.comp, decide_eq_true_eq] at h1
  refine ⟨by k_extra "ar", by k_extra "ar", h1.1, h1.2, fun j hj hji hc => ?_⟩
  rw [List.find?_range_eq_some] at ha
  have := ha.2.2 (j - k) (by k_extra "ar")
  simp only [Function.comp, Bool.not_eq_true', decide_eq_false_iff_not] at this
  have e : j - k + k = j := by k_extra "ar"
  rw [e] at this
  exact this hc
theorem findCR_none {x : Bs} {k : Nat} (h : findCR x k = none) : ∀ j, k ≤ j → ¬ (x[j]? = some 13 ∧ x[j + 1]? = some 10) := by
  unfold findCR at h
  rw [List.find?_map, Option.map_eq_none_iff, List.find?_eq_none] at h
  intro j hj hc
  have hl : j + 1 < x.length := by
    rcases List.getElem?_eq_some_iff.mp hc.2 with ⟨q, _⟩
    exact q
  have := h (j - k) (List.mem_range.mpr (by k_extra "ar"))
  simp only [Function.comp, decide_eq_true_eq] at this
  have e : j - k + k = j := by k_extra "ar"
  rw [e] at this
  exact this hc
theorem findCR_is {x : Bs} {k i : Nat} (hk : k ≤ i) (h1 : x[i]? = some 13) (h2 : x[i + 1]? = some 10) (h : ∀ j, k ≤ j → j < i → ¬ (x[j]? = some 13 ∧ x[j + 1]? = some 10)) : findCR x k = some i := by
  cases hc : findCR x k with
  | none => exact absurd ⟨h1, h2⟩ (findCR_none hc i hk)
  | some j =>
    obtain ⟨a, _, c, d, e⟩ := findCR_some hc
    rcases Nat.lt_trichotomy j i with q | q | q
    · exact absurd ⟨c, d⟩ (h j a q)
    · rw [q]
    · exact absurd ⟨h1, h2⟩ (e i hk q)
theorem findCR_no {x : Bs} {k : Nat} (h : ∀ j, k ≤ j → ¬ (x[j]? = some 13 ∧ x[j + 1]? = some 10)) : findCR x k = none := by
  cases hc : findCR x k with
  | none => rfl
  | some j =>
    obtain ⟨a, _, c, d, e⟩ := findCR_some hc
    exact absurd ⟨c, d⟩ (h j a)
end
/-! text NumFig -/
section
theorem off_NumFig : True := by
  w_top off
  trivial
def Stop (P : Prop) : Prop := P
theorem Stop.out {P : Prop} (h : Stop P) : P := h

section
variable {prog : Program} {w : World} {A : Around} {E : Value → Shared → Prop} {s : Shared} {env : Env} {h₀ : Heap} {nm : Str} {body : List Stmt} {Q : Flow → Shared → Prop}
theorem iter_bytesG {x : Bs} {tb : Tok} {m₀ : Str → Option Value} {news : List (Addr × Obj)} (J : Nat → (Str → Option Value) → List (Addr × Obj) → Prop)
    (hh : A.handled = none) (F : Fr h₀ env.locals s.heap m₀) (N : News h₀ env.locals s.heap news) (hj : J 0 m₀ news)
    (turn : ∀ i c t m₁ nx h tk own, x[i]? = some c → OwnOff own (nx.map (·.1)) → J i m₁ nx → Fr h₀ env.locals h (fun y => if y = nm then some (.int (c.toNat : Int) t) else m₁ y) → News h₀ env.locals h (nx ++ own) →
      wpAny (model prog w) A (execs body env) (InvPostG h₀ env.locals (J (i + 1)) own { s with heap := h, toks := tk } Q) E { s with heap := h, toks := tk })
    (done : ∀ m₁ nx h tk, J x.length m₁ nx → Fr h₀ env.locals h m₁ → News h₀ env.locals h nx → Q .next { s with heap := h, toks := tk }) :
    wpAny (model prog w) A (pyIter (.bytes x.toArray tb)) (fun it s₂ => LoopAtV prog w A h₀ env nm body Q E it s₂) E s := by
  refine KBw.pyIter_bytes ?_
  have W := KBw.walks (prog := prog) (w := w) hh s.heap.objs.size x.toArray tb
  refine kdr_loop J W (fun _ h => h) (fun _ h => h) ?_ ?_ ?_ ?_ ⟨_, Heap.get?_push_size _ rfl, rfl, rfl⟩ (F.push _) (fun p hp => ⟨Heap.get?_push_of_some _ (N p hp).1, (N p hp).2⟩) hj ?_ ?_
  · rintro i h ⟨o, ho, _⟩ b hb
    rw [List.mem_singleton.mp hb]
    exact ⟨o, ho⟩
  · intro hm
    exact absurd F.ns.lt ((List.mem_singleton.mp hm) ▸ Nat.lt_irrefl _)
  · intro b' hb
    rw [List.mem_singleton.mp hb]
    exact next_is_new F
  · intro p hp hI
    exact absurd (Heap.lt_size (N p hp).1) ((List.mem_singleton.mp hI) ▸ Nat.lt_irrefl _)
  · rintro i v m₁ nx h tk own hi ⟨n, u, hn, rfl⟩ hoff hJ F₁ N₁
    exact turn i n u m₁ nx h tk own (by simpa using hn) hoff hJ F₁ N₁
  · intro m₁ nx h tk hJ F₁ N₁
    exact done m₁ nx h tk (by simpa using hJ) F₁ N₁
end

theorem known {m : Str → Option Value} {a : Str} {v : Value} (h : m a = some v) : m = fun y => if y = a then some v else m y := by
  funext y
  split
  · rename_i e
    rw [e, h]
  · rfl

noncomputable def numF (x : Bs) : Int := x.foldl (fun n c => n * 10 + (c.toNat : Int) - 48) 0

theorem numF_take {x : Bs} {i : Nat} {c : UInt8} (h : x[i]? = some c) : numF (x.take (i + 1)) = numF (x.take i) * 10 + (c.toNat : Int) - 48 := by
  rw [List.take_add_one, h]
  simp [numF, List.foldl_append]

theorem kw_NumFig_1 : True := by
  k_with "own exec For Name Name cons nil" =>
    (refine Stop.out ?_)
  trivial

theorem numfig_spec {w : World} {A : Around} {s : Shared} {base : Heap} {env : Env} {outer : List Env} {A₀ : Around} {h₀ : Heap} {L : Addr} {m : Str → Option Value} {mean : ExcName → Option Value} {mg mb : Str → Option Value} {x : Bs} {tb : Tok} {Q E : Value → Shared → Prop}
    (C : Ctx w A s.heap [] base env outer A₀ h₀ L m mean mg mb) (hd : A.depth + 5 < recursionLimit) (hu : A.units + 60 < cLine)
    (h : ∀ t h' tk', Kept [] s.heap h' → Q (.int (numF x) t) { s with heap := h', toks := tk' }) :
    wpAny (Mm w) A (call (.ref 56) [.bytes x.toArray tb]) Q E s := by
  have KX : (Mine.hd.heap_39 w.params).In h₀ := C.X
  revert KX
  delta Mm
  k_fill
  intro KX
  refine enter C (news := []) (binds := [(Str.ofString "octets", .bytes x.toArray tb)])
    (fun p hp => nomatch hp) rfl (by delta Km; k_is) (by delta Km; k_is) (by k_extra "ar") (BindsTo.of_eq rfl) (locs rfl) (by decide) rfl rfl rfl ?_
  delta Km TopM Mm
  intro g L' h₁ gd outer' hg F N B' X T
  have hdep : A.depth + 1 < recursionLimit := by k_extra "ar"
  have hun : A.units + 3 + 8 < cLine := by k_extra "ar"
  clear hd hu C KX
  try dsimp only
  show wpAny _ _ _ _ _ _
  k_fold
  k_steps
  show wpAny _ _ _ _ _ _
  rename Fr _ _ _ _ => F₁
  rename News _ _ _ _ => N₁
  refine For_invV g rfl rfl ?_ (fun _ => rfl) PassesOwn.never
  refine wpAny_Name (wpAny_loadName_local rfl rfl F₁.ns rfl ?_) rfl
  refine iter_bytesG (fun i m nx => nx = [] ∧ ∃ t, m (Str.ofString "number") = some (.int (numF (x.take i)) t)) rfl F₁ N₁ ⟨rfl, _, rfl⟩ ?_ ?_
  · rintro i c t m₁ nx hh tk own hx ho ⟨rfl, t', hm⟩ F₂ N₂
    clear F₁ N₁
    rw [known hm] at F₂
    k_steps
    (try dsimp only)
    rename Fr _ _ _ _ => Fe
    rename News _ _ _ _ => Ne
    refine InvEndG.intro (nx := []) Fe Ne ⟨rfl, ?_⟩ (fun p hp b hb => nomatch hb) (fun p hp => nomatch hp) (fun p hp => hp)
    rw [numF_take hx]
    exact ⟨_, rfl⟩
  · rintro m₁ nx hh tk ⟨rfl, t', hm⟩ F₂ N₂
    clear F₁ N₁
    rw [known hm] at F₂
    (try dsimp only)
    k_steps
    (try dsimp only)
    rename Fr _ _ _ _ => Fe
    rw [List.take_length]
    exact ⟨_, _, Fe, fun kk => h _ _ _ kk⟩
end
/-! text ByRules -/
section
theorem off_ByRules : True := by
  w_top off
  trivial
theorem kw_ByRules_0 : True := by
  k_with_none
  k_with "pick" =>
    (with_reducible (first
    | assumption | exact And.left (by assumption) | exact And.left (And.right (by assumption)) | exact And.left (And.right (And.right (by assumption)))
    | exact And.left (And.right (And.right (And.right (by assumption)))) | exact And.left (And.right (And.right (And.right (And.right (by assumption))))) | exact And.left (And.right (And.right (And.right (And.right (And.right (by assumption)))))) | exact And.right (by assumption)))
  k_with "ne1" =>
    first
    | (with_reducible assumption) | exact _root_.Ne.symm (by with_reducible assumption) | exact Nat.ne_of_lt (by k_extra "pick") | exact Nat.ne_of_gt (by k_extra "pick")
  k_with "ar" =>
    first
    | (with_reducible assumption)
    | exact room_up (by with_reducible assumption) rfl
    | ((repeat (first | (rename _ ≠ _ => hz9; clear hz9) | (rename (_ ≠ _ ∧ _) => hz9; clear hz9))); omega)
    | omega
  k_with "own k_ne" =>
    (refine neN ?_; (try dsimp only); first | k_extra "ne1" | omega)
  trivial
noncomputable def cut (x : Bs) (i j : Nat) : Bs := (x.drop i).take (j - i)

theorem drop_min {α : Type} (x : List α) (i : Nat) : x.drop (min i x.length) = x.drop i := by
  rcases Nat.le_total i x.length with h | h
  · rw [Nat.min_eq_left h]
  · rw [Nat.min_eq_right h, List.drop_of_length_le (Nat.le_refl _), List.drop_of_length_le h]

theorem picked_both (x : Bs) (i j : Nat) : KBy.picked x.toArray (some (i : Int)) (some (j : Int)) = (cut x i j).toArray := by
  rw [KBc.picked_eq]
  simp only [Option.elim, clipAt_nat, List.size_toArray]
  unfold cut
  rw [drop_min]
  congr 1
  rcases Nat.le_total i x.length with h | h
  · rw [Nat.min_eq_left h]
    rcases Nat.le_total j x.length with h' | h'
    · rw [Nat.min_eq_left h']
    · rw [Nat.min_eq_right h', List.take_of_length_le (by simp), List.take_of_length_le (by simp; k_extra "ar")]
  · rw [List.drop_of_length_le h]
    simp
theorem picked_to (x : Bs) (j : Nat) : KBy.picked x.toArray none (some (j : Int)) = (x.take j).toArray := by
  rw [KBc.picked_eq]
  simp only [Option.elim, clipAt_nat, List.size_toArray, List.drop_zero, Nat.sub_zero]
  congr 1
  rcases Nat.le_total j x.length with h' | h'
  · rw [Nat.min_eq_left h']
  · rw [Nat.min_eq_right h', List.take_length, List.take_of_length_le h']
theorem picked_from (x : Bs) (i : Nat) : KBy.picked x.toArray (some (i : Int)) none = (x.drop i).toArray := by
  rw [KBc.picked_eq]
  simp only [Option.elim, clipAt_nat, List.size_toArray]
  rw [drop_min]
  congr 1
  rw [List.take_of_length_le (by simp; k_extra "ar")]

section
variable {prog : Program} {w : World} {A : Around} {E : Value → Shared → Prop} {s : Shared} {value slice : PySem.Expr} {x : Bs} {t : Tok} {h₀ : Heap} {L : Addr} {m : PySem.Str → Option Value} {news : List (Addr × Obj)} {Q : Value → Shared → Prop} {i j : Int} {ti tj : Tok}
theorem slice_both (hF : Fr h₀ L s.heap m) (hN : News h₀ L s.heap news) (hz : x.length ≤ 16777216) (hi : 0 ≤ i) (hj : 0 ≤ j)
    (h : ∀ h' t' k, Fr h₀ L h' m → News h₀ L h' news → Q (.bytes (cut x i.toNat j.toNat).toArray t') { s with heap := h', toks := k })
    (hs : subscripted slice false (.bytes x.toArray t) (.ref s.heap.objs.size) = operate [.ref s.heap.objs.size, .bytes x.toArray t] (getItem (.bytes x.toArray t) (.ref s.heap.objs.size)) := by with_unfolding_all rfl)
    (ht : ∀ r, letTemporaryGo value (.bytes x.toArray t) r = pure () := by intro _; with_unfolding_all rfl) :
    wpAny (model prog w) A (subscriptTail value slice (.bytes x.toArray t) (.ref s.heap.objs.size)) Q E { s with heap := s.heap.push { cls := .type "slice", data := .fields #[.int i ti, .int j tj, .none] } } := by
  refine KBc.slice_K hF hN rfl (.int i ti) (.int j tj) (by simpa [KBw.bInts] using hz) (fun h' t' k F' N' _ => ?_) hs ht
  obtain ⟨i', rfl⟩ := Int.eq_ofNat_of_zero_le hi
  obtain ⟨j', rfl⟩ := Int.eq_ofNat_of_zero_le hj
  rw [picked_both]
  exact h h' t' k F' N'
theorem slice_to (hF : Fr h₀ L s.heap m) (hN : News h₀ L s.heap news) (hz : x.length ≤ 16777216) (hj : 0 ≤ j)
    (h : ∀ h' t' k, Fr h₀ L h' m → News h₀ L h' news → Q (.bytes (x.take j.toNat).toArray t') { s with heap := h', toks := k })
    (hs : subscripted slice false (.bytes x.toArray t) (.ref s.heap.objs.size) = operate [.ref s.heap.objs.size, .bytes x.toArray t] (getItem (.bytes x.toArray t) (.ref s.heap.objs.size)) := by with_unfolding_all rfl)
    (ht : ∀ r, letTemporaryGo value (.bytes x.toArray t) r = pure () := by intro _; with_unfolding_all rfl) :
    wpAny (model prog w) A (subscriptTail value slice (.bytes x.toArray t) (.ref s.heap.objs.size)) Q E { s with heap := s.heap.push { cls := .type "slice", data := .fields #[.none, .int j tj, .none] } } := by
  refine KBc.slice_K hF hN rfl .none (.int j tj) (by simpa [KBw.bInts] using hz) (fun h' t' k F' N' _ => ?_) hs ht
  obtain ⟨j', rfl⟩ := Int.eq_ofNat_of_zero_le hj
  rw [picked_to]
  exact h h' t' k F' N'
theorem slice_from (hF : Fr h₀ L s.heap m) (hN : News h₀ L s.heap news) (hz : x.length ≤ 16777216) (hi : 0 ≤ i)
    (h : ∀ h' t' k, Fr h₀ L h' m → News h₀ L h' news → Q (.bytes (x.drop i.toNat).toArray t') { s with heap := h', toks := k })
    (hs : subscripted slice false (.bytes x.toArray t) (.ref s.heap.objs.size) = operate [.ref s.heap.objs.size, .bytes x.toArray t] (getItem (.bytes x.toArray t) (.ref s.heap.objs.size)) := by with_unfolding_all rfl)
    (ht : ∀ r, letTemporaryGo value (.bytes x.toArray t) r = pure () := by intro _; with_unfolding_all rfl) :
    wpAny (model prog w) A (subscriptTail value slice (.bytes x.toArray t) (.ref s.heap.objs.size)) Q E { s with heap := s.heap.push { cls := .type "slice", data := .fields #[.int i ti, .none, .none] } } := by
  refine KBc.slice_K hF hN rfl (.int i ti) .none (by simpa [KBw.bInts] using hz) (fun h' t' k F' N' _ => ?_) hs ht
  obtain ⟨i', rfl⟩ := Int.eq_ofNat_of_zero_le hi
  rw [picked_from]
  exact h h' t' k F' N'
theorem len_B (hz : x.length ≤ 16777216) (h : ∀ t' k, Q (.int (x.length : Int) t') { s with toks := k }) : wpAny (model prog w) A (call (.builtin "len") [.bytes x.toArray t]) Q E s := by
  refine KBw.len_K (b := x.toArray) rfl (by simp [KBw.bInts]; k_extra "ar") ?_
  have e : (KBw.bInts x.toArray).length = x.length := by simp [KBw.bInts]
  rw [e]
  exact h _ _
theorem add_B {y : Bs} {u : Tok} (hz : x.length + y.length ≤ 16777216) (h : ∀ t' k, Q (.bytes (x ++ y).toArray t') { s with toks := k }) : wpAny (model prog w) A (binaryOp .Add (.bytes x.toArray t) (.bytes y.toArray u)) Q E s := by
  refine KBy.add_bytes (by simpa using hz) fun t' k => ?_
  rw [List.append_toArray]
  exact h t' k
end
end
/-! text LitHead -/
section
theorem off_LitHead : True := by
  w_top off
  trivial
noncomputable def isFig (c : UInt8) : Bool := decide (48 ≤ c.toNat) && decide (c.toNat ≤ 57)

theorem isfig_spec {w : World} {A : Around} {s : Shared} {base : Heap} {env : Env} {outer : List Env} {A₀ : Around} {h₀ : Heap} {L : Addr} {m : Str → Option Value} {mean : ExcName → Option Value} {mg mb : Str → Option Value} {c : Int} {t : Tok} {Q E : Value → Shared → Prop}
    (C : Ctx w A s.heap [] base env outer A₀ h₀ L m mean mg mb) (hd : A.depth + 5 < recursionLimit) (hu : A.units + 60 < cLine)
    (h : ∀ h' tk', Kept [] s.heap h' → Q (.bool (decide (48 ≤ c) && decide (c ≤ 57))) { s with heap := h', toks := tk' }) :
    wpAny (Mm w) A (call (.ref 49) [.int c t]) Q E s := by
  have KX : (Mine.hd.heap_39 w.params).In h₀ := C.X
  revert KX
  delta Mm
  k_fill
  intro KX
  refine enter C (news := []) (binds := [(Str.ofString "code", .int c t)])
    (fun p hp => nomatch hp) rfl (by delta Km; k_is) (by delta Km; k_is) (by k_extra "ar") (BindsTo.of_eq rfl) (locs rfl) (by decide) rfl rfl rfl ?_
  delta Km TopM Mm
  intro g L' h₁ gd outer' hg F N B' X T
  have hdep : A.depth + 1 < recursionLimit := by k_extra "ar"
  have hun : A.units + 3 + 8 < cLine := by k_extra "ar"
  have hb : ∀ b h' tk', b = (decide (48 ≤ c) && decide (c ≤ 57)) → Kept [] s.heap h' → Q (.bool b) { s with heap := h', toks := tk' } := fun b h' tk' e kk => e ▸ h h' tk' kk
  clear hd hu C KX
  try dsimp only
  show wpAny _ _ _ _ _ _
  k_fold
  k_steps
  all_goals (try dsimp only)
  · rename_i h48
    exact ⟨_, _, F, fun kk => hb _ _ _ (by simp [h48]) kk⟩
  · rename_i h48
    exact ⟨_, _, F, fun kk => hb _ _ _ (by simp [h48]) kk⟩

theorem isfig_K {w : World} {A : Around} {s : Shared} {base : Heap} {env : Env} {outer : List Env} {A₀ : Around} {h₀ : Heap} {L : Addr} {m : Str → Option Value} {mean : ExcName → Option Value} {mg mb : Str → Option Value} {news : List (Addr × Obj)} {c : Int} {t : Tok} {Q E : Value → Shared → Prop}
    (F : Fr h₀ L s.heap m) (N : News h₀ L s.heap news) (B : Below A₀ base outer h₀) (X : (Mine.hd.heap_39 w.params).In h₀) (T : Top Mine.hd.view_39 (looseW Mine.hd.view_39 []) mean mg mb h₀) (hA : A.frames = some (env :: outer)) (hf : env.frame = some L) (hk : env.scope.kind = .function) (hh : A.handled = none)
    (hd : A.depth + 5 < recursionLimit) (hu : A.units + 60 < cLine)
    (h : ∀ h' tk', Fr h₀ L h' m → News h₀ L h' news → Q (.bool (decide (48 ≤ c) && decide (c ≤ 57))) { s with heap := h', toks := tk' }) :
    wpAny (model PySem.Challenge.rw_no0353_01.row.prog w) A (call (.ref 49) [.int c t]) Q E s :=
  have C : Ctx w A s.heap [] base env outer A₀ h₀ L m mean mg mb := ⟨B, F, X, T, hA, hf, hk, hh, fun _ ha => nomatch ha⟩
  isfig_spec C hd hu fun h' tk' kk => h h' tk' (C.fr kk) (news_kept N kk fun _ _ q => nomatch q)

theorem numfig_K {w : World} {A : Around} {s : Shared} {base : Heap} {env : Env} {outer : List Env} {A₀ : Around} {h₀ : Heap} {L : Addr} {m : Str → Option Value} {mean : ExcName → Option Value} {mg mb : Str → Option Value} {news : List (Addr × Obj)} {x : Bs} {t : Tok} {Q E : Value → Shared → Prop}
    (F : Fr h₀ L s.heap m) (N : News h₀ L s.heap news) (B : Below A₀ base outer h₀) (X : (Mine.hd.heap_39 w.params).In h₀) (T : Top Mine.hd.view_39 (looseW Mine.hd.view_39 []) mean mg mb h₀) (hA : A.frames = some (env :: outer)) (hf : env.frame = some L) (hk : env.scope.kind = .function) (hh : A.handled = none)
    (hd : A.depth + 5 < recursionLimit) (hu : A.units + 60 < cLine)
    (h : ∀ t' h' tk', Fr h₀ L h' m → News h₀ L h' news → Q (.int (numF x) t') { s with heap := h', toks := tk' }) :
    wpAny (model PySem.Challenge.rw_no0353_01.row.prog w) A (call (.ref 56) [.bytes x.toArray t]) Q E s :=
  have C : Ctx w A s.heap [] base env outer A₀ h₀ L m mean mg mb := ⟨B, F, X, T, hA, hf, hk, hh, fun _ ha => nomatch ha⟩
  numfig_spec C hd hu fun t' h' tk' kk => h t' h' tk' (C.fr kk) (news_kept N kk fun _ _ q => nomatch q)

noncomputable def backF (x : Bs) (b : Nat) : Nat → Nat
  | 0 => 0
  | n + 1 => if b ≤ n ∧ isFig (x.getD n 0) = true then backF x b n else n + 1

/-- literal_head behind its figures' end -/
noncomputable def tailI (x : Bs) (b last : Nat) (waits : Bool) : Option (Int × Bool) :=
  let k := backF x b last
  if k ≤ b ∨ x.getD (k - 1) 0 ≠ 123 ∨ ¬ (0 < last - k ∧ last - k ≤ 10) then none
  else some (numF (cut x k last), waits)
noncomputable def headI (x : Bs) (b e : Nat) : Option (Int × Bool) :=
  if e ≤ b then none else
  if x.getD (e - 1) 0 ≠ 125 then none else
  if e - 1 ≤ b ∨ x.getD (e - 2) 0 ≠ 43 then tailI x b (e - 1) true else tailI x b (e - 2) false

theorem backF_le (x : Bs) (b : Nat) : ∀ n, backF x b n ≤ n
  | 0 => Nat.le_refl _
  | n + 1 => by
    unfold backF
    split
    · exact Nat.le_succ_of_le (backF_le x b n)
    · exact Nat.le_refl _
theorem backF_stop (x : Bs) {b n : Nat} (h : n ≤ b ∨ isFig (x.getD (n - 1) 0) = false) : backF x b n = n := by
  cases n with
  | zero => rfl
  | succ n =>
    unfold backF
    rw [if_neg]
    rintro ⟨h1, h2⟩
    rcases h with h | h
    · k_extra "ar"
    · rw [Nat.add_sub_cancel] at h
      rw [h] at h2
      cases h2
theorem backF_step (x : Bs) {b n : Nat} (h : b ≤ n) (hf : isFig (x.getD n 0) = true) : backF x b (n + 1) = backF x b n := by
  rw [backF, if_pos ⟨h, hf⟩]

abbrev tupleOf (vs : List Value) : Obj := { cls := .type "tuple", data := .seq vs.toArray }
/-- objects that were made on the way from h to h' -/
def NewIn (h h' : Heap) (objs : List (Addr × Obj)) : Prop := ∀ p ∈ objs, h'.get? p.1 = some p.2 ∧ h.get? p.1 = none
theorem NewIn.nil {h h' : Heap} : NewIn h h' [] := fun _ hp => nomatch hp
theorem NewIn.of_news {g h h' : Heap} {L : Addr} {news objs : List (Addr × Obj)} (N : News g L h' news) (hs : ∀ p ∈ objs, p ∈ news) (hg : ∀ b, b ∉ ([] : List Addr) → g.get? b = h.get? b) : NewIn h h' objs :=
  fun p hp => ⟨(N p (hs p hp)).1, (hg p.1 (fun q => nomatch q)) ▸ (N p (hs p hp)).2.2⟩
theorem NewIn.news {h₀ h h' : Heap} {L : Addr} {m : Str → Option Value} {objs news : List (Addr × Obj)} (n : NewIn h h' objs) (F : Fr h₀ L h m) (N : News h₀ L h' news) : News h₀ L h' (objs ++ news) := by
  intro p hp
  rcases List.mem_append.mp hp with hp | hp
  · refine ⟨(n p hp).1, fun q => ?_, ?_⟩
    · obtain ⟨oL, es, ep, hL, _⟩ := F.ns
      have := (n p hp).2
      rw [q, hL] at this
      cases this
    · cases q : h₀.get? p.1 with
      | none => rfl
      | some o => have := F.keep _ _ q; rw [(n p hp).2] at this; cases this
  · exact N p hp

def HeadObjs (r : Option (Int × Bool)) (v : Value) (objs : List (Addr × Obj)) : Prop := match r with
  | none => v = .none ∧ objs = []
  | some (n, b) => ∃ a t, v = .ref a ∧ objs = [(a, tupleOf [.int n t, .bool b])]

theorem byte_ne {c d : UInt8} {n : Int} (h : (c.toNat : Int) ≠ n) (hn : n = (d.toNat : Int) := by decide) : c ≠ d := fun q => h (by rw [q, hn])
theorem byte_is {c d : UInt8} {n : Int} (h : (c.toNat : Int) = n) (hn : n = (d.toNat : Int) := by decide) : c = d := by
  rw [hn] at h
  exact UInt8.toNat.inj (by k_extra "ar")
theorem kw_LitHead_1 : True := by
  k_with "room" =>
    ((try dsimp only [ktrTop]); (first | k_extra "ar" | (simp only [ktrTop, Around.in1, Around.deeper, Around.mark]; k_extra "ar")))
  k_with "own call ref" =>
    (
    (with_reducible show wpAny _ _ (call (Value.ref 49) _) _ _ _);
    (refine isfig_K (by k_asm) (by k_asm) (by k_asm) (by k_asm) (by k_asm) rfl rfl rfl rfl (by k_extra "room") (by k_extra "room") ?_); intro _ _ _ _; (try dsimp only))
  k_with "own call ref" =>
    (
    (with_reducible show wpAny _ _ (call (Value.ref 56) _) _ _ _);
    (refine numfig_K (by k_asm) (by k_asm) (by k_asm) (by k_asm) (by k_asm) rfl rfl rfl rfl (by k_extra "room") (by k_extra "room") ?_); intro _ _ _ _ _; (try dsimp only))
  k_with "own exec While" =>
    (refine Stop.out ?_)
  k_with "own exec While BoolOp" =>
    (refine Stop.out ?_)
  k_with "own subscriptTail" =>
    (k_here; (with_reducible show wpAny _ _ (subscriptTail _ _ (Value.bytes (List.toArray _) _) (Value.int _ _)) _ _ _); (refine KBy.item_N (by k_extra "ar") (by k_extra "ar") (by k_extra "ar") ?_))
  k_with "own subscriptTail" =>
    (k_here; (with_reducible show wpAny _ _ (subscriptTail _ (Expr.Slice (some _) (some _) none _) (Value.bytes (List.toArray _) _) (Value.ref _)) _ _ _); (with_reducible rename Fr _ _ _ _ => F'); (with_reducible rename News _ _ _ _ => N'); (refine slice_both (s := ⟨_, _, _, _, _⟩) F' N' (by k_extra "ar") (by k_extra "ar") (by k_extra "ar") ?_); intro _ _ _ _ _)
  k_with "own subscriptTail" =>
    (k_here; (with_reducible show wpAny _ _ (subscriptTail _ (Expr.Slice none (some _) none _) (Value.bytes (List.toArray _) _) (Value.ref _)) _ _ _); (with_reducible rename Fr _ _ _ _ => F'); (with_reducible rename News _ _ _ _ => N'); (refine slice_to (s := ⟨_, _, _, _, _⟩) F' N' (by k_extra "ar") (by k_extra "ar") ?_); intro _ _ _ _ _)
  k_with "own subscriptTail" =>
    (k_here; (with_reducible show wpAny _ _ (subscriptTail _ (Expr.Slice (some _) none none _) (Value.bytes (List.toArray _) _) (Value.ref _)) _ _ _); (with_reducible rename Fr _ _ _ _ => F'); (with_reducible rename News _ _ _ _ => N'); (refine slice_from (s := ⟨_, _, _, _, _⟩) F' N' (by k_extra "ar") (by k_extra "ar") ?_); intro _ _ _ _ _)
  k_with "own call builtin:len" =>
    (k_here; (with_reducible show wpAny _ _ (call (Value.builtin "len") [Value.bytes (List.toArray _) _]) _ _ _); (refine len_B (by first | k_extra "ar" | (simp only [List.length_take, List.length_drop, cut]; k_extra "ar")) ?_); intro _ _)
  trivial

def LhJ (x : Bs) (b l : Nat) (W : Bool) (n : Nat) (m : Str → Option Value) (nx : List (Addr × Obj)) : Prop :=
  nx = [] ∧ n ≤ l ∧ backF x b n = backF x b l ∧ (∃ t, m (Str.ofString "here") = some (.int ((n : Int) - 1) t)) ∧ (∃ t, m (Str.ofString "data") = some (.bytes x.toArray t)) ∧ (∃ t, m (Str.ofString "begin") = some (.int (b : Int) t)) ∧
    (∃ t, m (Str.ofString "last") = some (.int (l : Int) t)) ∧ m (Str.ofString "waits") = some (.bool W)

def LhOut (g : Heap) (L' : Addr) (s : Shared) (x : Bs) (b l : Nat) (W : Bool) (f : Flow) (s' : Shared) : Prop :=
  f = .next ∧ ∃ h' tk m' n, s' = { s with heap := h', toks := tk } ∧ Fr g L' h' m' ∧ News g L' h' [] ∧ LhJ x b l W n m' [] ∧ (n ≤ b ∨ isFig (x.getD (n - 1) 0) = false)
theorem lh_start {g h : Heap} {L' : Addr} {m : Str → Option Value} {x : Bs} {b e l : Nat} {W : Bool} (F : Fr g L' h m) (hH : headI x b e = tailI x b l W) (hl : l ≤ e) (hJ : LhJ x b l W l m []) :
    ∃ m₀ W l, Fr g L' h m₀ ∧ headI x b e = tailI x b l W ∧ l ≤ e ∧ LhJ x b l W l m₀ [] := ⟨m, W, l, F, hH, hl, hJ⟩
theorem some_int {i j : Int} {t : Tok} (h : i = j) : some (Value.int i t) = some (Value.int j t) := by rw [h]
theorem some_bool {i j : Bool} (h : i = j) : some (Value.bool i) = some (Value.bool j) := by rw [h]

theorem kw_LitHead_2 : True := by
  k_with "own execs cons Assign cons" =>
    ((with_reducible show wpAny _ _ (execs (Stmt.Assign [Expr.Name (Str.ofString "waits") _] _ _ :: _) _) _ _ _); refine Stop.out ?_)
  k_with "own execs cons" =>
    ((with_reducible show wpAny _ _ (execs (Stmt.Assign [Expr.Name (Str.ofString "waits") _] _ _ :: _) _) _ _ _); refine Stop.out ?_)
  trivial
theorem lithead_spec {w : World} {A : Around} {s : Shared} {base : Heap} {env : Env} {outer : List Env} {A₀ : Around} {h₀ : Heap} {L : Addr} {m : Str → Option Value} {mean : ExcName → Option Value} {mg mb : Str → Option Value} {x : Bs} {b e : Nat} {t t1 t2 : Tok} {Q E : Value → Shared → Prop}
    (C : Ctx w A s.heap [] base env outer A₀ h₀ L m mean mg mb) (hd : A.depth + 10 < recursionLimit) (hu : A.units + 80 < cLine) (hx : x.length ≤ 100000) (hb : b ≤ e) (he : e ≤ x.length)
    (h : ∀ v objs h' tk', Kept [] s.heap h' → NewIn s.heap h' objs → HeadObjs (headI x b e) v objs → Q v { s with heap := h', toks := tk' }) :
    wpAny (Mm w) A (call (.ref 63) [.bytes x.toArray t, .int (b : Int) t1, .int (e : Int) t2]) Q E s := by
  have KX : (Mine.hd.heap_39 w.params).In h₀ := C.X
  revert KX
  delta Mm
  k_fill
  intro KX
  refine enter C (news := []) (binds := [(Str.ofString "data", .bytes x.toArray t), (Str.ofString "begin", .int (b : Int) t1), (Str.ofString "end", .int (e : Int) t2)])
    (fun p hp => nomatch hp) rfl (by delta Km; k_is) (by delta Km; k_is) (by k_extra "ar") (BindsTo.of_eq rfl) (locs rfl) (by decide) rfl rfl rfl ?_
  delta Km TopM Mm
  intro g L' h₁ gd outer' hg F N B' X T
  have hdep : A.depth + 1 + 9 < recursionLimit := by k_extra "ar"
  have hun : A.units + 3 + 70 < cLine := by k_extra "ar"
  have fin : ∀ v h' tk m' objs news, Fr g L' h' m' → News g L' h' news → HeadObjs (headI x b e) v objs → (∀ p ∈ objs, p ∈ news) → Done g [] s.heap Q v { s with heap := h', toks := tk } := fun v h' tk m' objs news F' N' hv hs => ⟨_, _, F', fun kk => h _ _ _ _ kk (.of_news N' hs hg) hv⟩
  have e1 : ((e : Int) - 1).toNat = e - 1 := by k_extra "ar"
  have e2 : ((e : Int) - 1 - 1).toNat = e - 2 := by k_extra "ar"
  clear hd hu C KX h
  try dsimp only
  show wpAny _ _ _ _ _ _
  k_fold
  k_steps
  · refine fin _ _ _ _ [] _ (by assumption) (by assumption) ?_ (fun _ q => nomatch q)
    unfold headI
    rw [if_pos (by k_extra "ar")]
    exact ⟨rfl, rfl⟩
  · rename_i h1
    rw [e1] at h1
    refine fin _ _ _ _ [] _ (by assumption) (by assumption) ?_ (fun _ q => nomatch q)
    unfold headI
    rw [if_neg (by k_extra "ar"), if_pos (byte_ne h1)]
    exact ⟨rfl, rfl⟩
  show wpAny _ _ (execs ([_, _, _] ++ _) _) _ _ _
  rename Fr _ _ _ _ => F₀
  rename News _ _ _ _ => N₀
  rename _ = (125 : Int) => a6
  rw [e1] at a6
  refine execs_join (R := fun s' => Stop (∃ h' tk m₀ W l, s' = { s with heap := h', toks := tk } ∧ Fr g L' h' m₀ ∧ News g L' h' [] ∧ headI x b e = tailI x b l W ∧ l ≤ e ∧ LhJ x b l W l m₀ [])) ?rest _ _ ?pre
  case pre =>
    refine wpAny_execs_cons ?_
    k_steps
    all_goals (
      rename Fr _ _ _ _ => F₁
      rename News _ _ _ _ => N₁
      show ∃ _, _)
    all_goals (first
      | (rename _ ≠ (43 : Int) => a8
         rw [e2] at a8
         exact ⟨_, _, _, true, e - 1, rfl, F₁, N₁, by
           unfold headI
           rw [if_neg (by k_extra "ar"), if_neg (fun q => q (byte_is a6)), if_pos (.inr (byte_ne a8))], by k_extra "ar",
           ⟨rfl, Nat.le_refl _, rfl, ⟨_, some_int (by k_extra "ar")⟩, ⟨_, rfl⟩, ⟨_, rfl⟩, ⟨_, some_int (by k_extra "ar")⟩, some_bool (by rw [e2]; simpa using a8)⟩⟩)
      | (rename _ = (43 : Int) => a8
         rw [e2] at a8
         exact ⟨_, _, _, false, e - 2, rfl, F₁, N₁, by
           unfold headI
           rw [if_neg (by k_extra "ar"), if_neg (fun q => q (byte_is a6)), if_neg (fun q => q.elim (by k_extra "ar") (fun q => q (byte_is a8)))], by k_extra "ar",
           ⟨rfl, Nat.le_refl _, rfl, ⟨_, some_int (by k_extra "ar")⟩, ⟨_, rfl⟩, ⟨_, rfl⟩, ⟨_, some_int (by k_extra "ar")⟩, some_bool (by rw [e2]; simpa using a8)⟩⟩)
      | (rename @LT.lt Int _ _ _ => a9
         exact ⟨_, _, _, true, e - 1, rfl, F₁, N₁, by
           unfold headI
           rw [if_neg (by k_extra "ar"), if_neg (fun q => q (byte_is a6)), if_pos (.inl (by k_extra "ar"))], by k_extra "ar",
           ⟨rfl, Nat.le_refl _, rfl, ⟨_, some_int (by k_extra "ar")⟩, ⟨_, rfl⟩, ⟨_, rfl⟩, ⟨_, some_int (by k_extra "ar")⟩, some_bool (decide_eq_true a9)⟩⟩))
  rintro s' ⟨h', tk, m₀, W, l, rfl, F₂, N₁, hH, hle, hJ⟩
  clear F₀ N₀ a6
  show wpAny _ _ _ _ _ _
  k_steps
  show wpAny _ _ _ _ _ _
  refine wpAny_mono (While_inv2 (h₀ := g) (L := L') (Q := fun f s' => LhOut g L' s x b l W f s') (LhJ x b l W) (n₀ := l) F₂ N₁ hJ ?_ PassesOwn.never) ?_ (fun _ _ y => y)
  all_goals (first
  | (intro n m₁ nx hh tk₁ F₃ N₃ hJ9 
     refine hide fun X9 hX9 => ?_
     obtain ⟨rfl, hn, hbk, ⟨t5, y1⟩, ⟨t6, y2⟩, ⟨t7, y3⟩, ⟨t8, y4⟩, y5⟩ := hJ9
     refine hX9 ?_
     clear hX9 X9
     clear F₂ N₁ hJ
     rw [known y1, known y2, known y3, known y4, known y5] at F₃
     k_steps)
  | (rintro f s₁ ⟨rfl, h', tk₁, m₁, n, rfl, F₃, N₃, ⟨-, hn, hbk, ⟨t5, y1⟩, ⟨t6, y2⟩, ⟨t7, y3⟩, ⟨t8, y4⟩, y5⟩, hstop⟩
     clear F₂ N₁ hJ
     rw [known y1, known y2, known y3, known y4, known y5] at F₃
     dsimp only
     k_steps))
  all_goals (
    rename Fr _ _ _ _ => Fe
    rename News _ _ _ _ => Ne)
  all_goals (
    have en : ((n : Int) - 1).toNat = n - 1 := by k_extra "ar")
  all_goals (first
  | (rename ((_ && _) = true) => c2
     rw [en] at c2
     have hf : isFig (x.getD (n - 1) 0) = true := by simp [isFig] at c2 ⊢; k_extra "ar"
     obtain ⟨n', rfl⟩ : ∃ n', n = n' + 1 := ⟨n - 1, by k_extra "ar"⟩
     exact ⟨_, _, _, _, n', rfl, Fe, Ne, Nat.lt_succ_self _, rfl, by k_extra "ar", (backF_step x (by k_extra "ar") hf).symm.trans hbk, ⟨_, some_int (by k_extra "ar")⟩, ⟨_, rfl⟩, ⟨_, rfl⟩, ⟨_, rfl⟩, rfl⟩)
  | (rename ((_ && _) = false) => c2
     rw [en] at c2
     have hf : isFig (x.getD (n - 1) 0) = false := by simp [isFig] at c2 ⊢; k_extra "ar"
     exact ⟨rfl, _, _, _, n, rfl, Fe, Ne, ⟨rfl, hn, hbk, ⟨_, rfl⟩, ⟨_, rfl⟩, ⟨_, rfl⟩, ⟨_, rfl⟩, rfl⟩, .inr hf⟩)
  | exact ⟨rfl, _, _, _, n, rfl, Fe, Ne, ⟨rfl, hn, hbk, ⟨_, rfl⟩, ⟨_, rfl⟩, ⟨_, rfl⟩, ⟨_, rfl⟩, rfl⟩, .inl (by k_extra "ar")⟩
  | skip)
  all_goals (
    (try dsimp only)
    have hk : tailI x b l W = if n ≤ b ∨ x.getD (n - 1) 0 ≠ 123 ∨ ¬ (0 < l - n ∧ l - n ≤ 10) then none else some (numF (cut x n l), W) := by
      unfold tailI
      rw [← hbk, backF_stop x hstop]
    have hc : cut x ((n : Int) - 1 + 1).toNat (l : Int).toNat = cut x n l := by
      congr 1 <;> k_extra "ar"
    have hcl : (cut x ((n : Int) - 1 + 1).toNat (l : Int).toNat).length = l - n := by
      rw [hc]
      unfold cut
      rw [List.length_take, List.length_drop]
      k_extra "ar")
  all_goals (first
  | (refine fin _ _ _ _ [] _ Fe Ne ?_ (fun _ q => nomatch q)
     rw [hH, hk, if_pos (.inl (by k_extra "ar"))]
     exact ⟨rfl, rfl⟩)
  | (rename (((UInt8.toNat _ : Nat) : Int) ≠ 123) => c3
     rw [en] at c3
     refine fin _ _ _ _ [] _ Fe Ne ?_ (fun _ q => nomatch q)
     rw [hH, hk, if_pos (.inr (.inl (byte_ne c3)))]
     exact ⟨rfl, rfl⟩)
  | (refine fin _ _ _ _ [] _ Fe Ne ?_ (fun _ q => nomatch q)
     rw [hH, hk, if_pos (.inr (.inr (by k_extra "ar")))]
     exact ⟨rfl, rfl⟩)
  | (rename (((UInt8.toNat _ : Nat) : Int) = 123) => c3
     rw [en] at c3
     refine fin _ _ _ _ _ _ Fe Ne ?_ (fun p hp => by rw [List.mem_singleton.mp hp]; exact .head _)
     rw [hH, hk, if_neg (fun q => q.elim (fun q => by k_extra "ar") (fun q => q.elim (fun q => q (byte_is c3)) (fun q => by k_extra "ar"))), ← hc]
     exact ⟨_, _, rfl, rfl⟩)
  | skip)
end
/-! text CmdEnd -/
section
theorem off_CmdEnd : True := by
  w_top off
  trivial
theorem kw_CmdEnd_0 : True := by
  k_with_none
  k_with "pick" =>
    (with_reducible (first
    | assumption | exact And.left (by assumption) | exact And.left (And.right (by assumption)) | exact And.left (And.right (And.right (by assumption)))
    | exact And.left (And.right (And.right (And.right (by assumption)))) | exact And.left (And.right (And.right (And.right (And.right (by assumption))))) | exact And.left (And.right (And.right (And.right (And.right (And.right (by assumption)))))) | exact And.right (by assumption)))
  k_with "ne1" =>
    first
    | (with_reducible assumption) | exact _root_.Ne.symm (by with_reducible assumption) | exact Nat.ne_of_lt (by k_extra "pick") | exact Nat.ne_of_gt (by k_extra "pick")
  k_with "ar" =>
    first
    | (with_reducible assumption)
    | exact room_up (by with_reducible assumption) rfl
    | ((repeat (first | (rename _ ≠ _ => hz9; clear hz9) | (rename (_ ≠ _ ∧ _) => hz9; clear hz9))); omega)
    | omega
  k_with "own k_ne" =>
    (refine neN ?_; (try dsimp only); first | k_extra "ne1" | omega)
  k_with "room" =>
    ((try dsimp only [ktrTop]); (first | k_extra "ar" | (simp only [ktrTop, Around.in1, Around.deeper, Around.mark]; k_extra "ar")))
  k_with "own call ref" =>
    (
    (with_reducible show wpAny _ _ (call (Value.ref 49) _) _ _ _);
    (refine isfig_K (by k_asm) (by k_asm) (by k_asm) (by k_asm) (by k_asm) rfl rfl rfl rfl (by k_extra "room") (by k_extra "room") ?_); intro _ _ _ _; (try dsimp only))
  k_with "own call ref" =>
    (
    (with_reducible show wpAny _ _ (call (Value.ref 56) _) _ _ _);
    (refine numfig_K (by k_asm) (by k_asm) (by k_asm) (by k_asm) (by k_asm) rfl rfl rfl rfl (by k_extra "room") (by k_extra "room") ?_); intro _ _ _ _ _; (try dsimp only))
  k_with "own exec While" =>
    (refine Stop.out ?_)
  k_with "own exec While BoolOp" =>
    (refine Stop.out ?_)
  k_with "own subscriptTail" =>
    (k_here; (with_reducible show wpAny _ _ (subscriptTail _ _ (Value.bytes (List.toArray _) _) (Value.int _ _)) _ _ _); (refine KBy.item_N (by k_extra "ar") (by k_extra "ar") (by k_extra "ar") ?_))
  k_with "own subscriptTail" =>
    (k_here; (with_reducible show wpAny _ _ (subscriptTail _ (Expr.Slice (some _) (some _) none _) (Value.bytes (List.toArray _) _) (Value.ref _)) _ _ _); (with_reducible rename Fr _ _ _ _ => F'); (with_reducible rename News _ _ _ _ => N'); (refine slice_both (s := ⟨_, _, _, _, _⟩) F' N' (by k_extra "ar") (by k_extra "ar") (by k_extra "ar") ?_); intro _ _ _ _ _)
  k_with "own subscriptTail" =>
    (k_here; (with_reducible show wpAny _ _ (subscriptTail _ (Expr.Slice none (some _) none _) (Value.bytes (List.toArray _) _) (Value.ref _)) _ _ _); (with_reducible rename Fr _ _ _ _ => F'); (with_reducible rename News _ _ _ _ => N'); (refine slice_to (s := ⟨_, _, _, _, _⟩) F' N' (by k_extra "ar") (by k_extra "ar") ?_); intro _ _ _ _ _)
  k_with "own subscriptTail" =>
    (k_here; (with_reducible show wpAny _ _ (subscriptTail _ (Expr.Slice (some _) none none _) (Value.bytes (List.toArray _) _) (Value.ref _)) _ _ _); (with_reducible rename Fr _ _ _ _ => F'); (with_reducible rename News _ _ _ _ => N'); (refine slice_from (s := ⟨_, _, _, _, _⟩) F' N' (by k_extra "ar") (by k_extra "ar") ?_); intro _ _ _ _ _)
  k_with "own call builtin:len" =>
    (k_here; (with_reducible show wpAny _ _ (call (Value.builtin "len") [Value.bytes (List.toArray _) _]) _ _ _); (refine len_B (by first | k_extra "ar" | (simp only [List.length_take, List.length_drop, cut]; k_extra "ar")) ?_); intro _ _)
  trivial
section
variable {w : World} {A : Around} {s : Shared} {base : Heap} {env : Env} {outer : List Env} {A₀ : Around} {h₀ : Heap} {L : Addr} {m : Str → Option Value} {mean : ExcName → Option Value} {mg mb : Str → Option Value} {news : List (Addr × Obj)} {x : Bs} {b e : Nat} {n : Int} {wt : Bool} {t t1 t2 : Tok} {Q E : Value → Shared → Prop}
theorem lithead_Kn
    (F : Fr h₀ L s.heap m) (N : News h₀ L s.heap news) (B : Below A₀ base outer h₀) (X : (Mine.hd.heap_39 w.params).In h₀) (T : Top Mine.hd.view_39 (looseW Mine.hd.view_39 []) mean mg mb h₀) (hA : A.frames = some (env :: outer)) (hf : env.frame = some L) (hk : env.scope.kind = .function) (hh : A.handled = none)
    (hd : A.depth + 10 < recursionLimit) (hu : A.units + 80 < cLine) (hH : headI x b e = none) (hx : x.length ≤ 100000) (hb : b ≤ e) (he : e ≤ x.length)
    (h : ∀ h' tk', Fr h₀ L h' m → News h₀ L h' news → Q .none { s with heap := h', toks := tk' }) :
    wpAny (model PySem.Challenge.rw_no0353_01.row.prog w) A (call (.ref 63) [.bytes x.toArray t, .int (b : Int) t1, .int (e : Int) t2]) Q E s :=
  have C : Ctx w A s.heap [] base env outer A₀ h₀ L m mean mg mb := ⟨B, F, X, T, hA, hf, hk, hh, fun _ ha => nomatch ha⟩
  lithead_spec C hd hu hx hb he fun v objs h' tk' kk _ ho => by
    rw [hH] at ho
    obtain ⟨rfl, _⟩ := ho
    exact h h' tk' (C.fr kk) (news_kept N kk fun _ _ q => nomatch q)
theorem lithead_Ks
    (F : Fr h₀ L s.heap m) (N : News h₀ L s.heap news) (B : Below A₀ base outer h₀) (X : (Mine.hd.heap_39 w.params).In h₀) (T : Top Mine.hd.view_39 (looseW Mine.hd.view_39 []) mean mg mb h₀) (hA : A.frames = some (env :: outer)) (hf : env.frame = some L) (hk : env.scope.kind = .function) (hh : A.handled = none)
    (hd : A.depth + 10 < recursionLimit) (hu : A.units + 80 < cLine) (hH : headI x b e = some (n, wt)) (hx : x.length ≤ 100000) (hb : b ≤ e) (he : e ≤ x.length)
    (h : ∀ a t h' tk', Fr h₀ L h' m → News h₀ L h' ((a, tupleOf [.int n t, .bool wt]) :: news) → Q (.ref a) { s with heap := h', toks := tk' }) :
    wpAny (model PySem.Challenge.rw_no0353_01.row.prog w) A (call (.ref 63) [.bytes x.toArray t, .int (b : Int) t1, .int (e : Int) t2]) Q E s :=
  have C : Ctx w A s.heap [] base env outer A₀ h₀ L m mean mg mb := ⟨B, F, X, T, hA, hf, hk, hh, fun _ ha => nomatch ha⟩
  lithead_spec C hd hu hx hb he fun v objs h' tk' kk hn ho => by
    rw [hH] at ho
    obtain ⟨a, t, rfl, rfl⟩ := ho
    exact h a t h' tk' (C.fr kk) (hn.news F (news_kept N kk fun _ _ q => nomatch q))
end

/-- what command_end gives from k on -/
inductive CmdEnd (x : Bs) : Nat → Int → Option (Int × Bool) → Prop
  | opn {k : Nat} : findCR x k = none → CmdEnd x k (-1) none
  | fin {k f : Nat} : findCR x k = some f → headI x k f = none → CmdEnd x k ((f : Int) + 2) none
  | wait {k f : Nat} {n : Int} {w : Bool} : findCR x k = some f → headI x k f = some (n, w) → f + 2 = x.length → CmdEnd x k (-1) (some (n, w))
  | over {k f : Nat} {n : Int} {w : Bool} : findCR x k = some f → headI x k f = some (n, w) → f + 2 ≠ x.length → (x.length : Int) < f + 2 + n → CmdEnd x k (-1) none
  | next {k f : Nat} {n : Nat} {w : Bool} {e : Int} {r : Option (Int × Bool)} : findCR x k = some f → headI x k f = some ((n : Int), w) → f + 2 ≠ x.length → f + 2 + n ≤ x.length → CmdEnd x (f + 2 + n) e r → CmdEnd x k e r

def EndObjs (e : Int) (r : Option (Int × Bool)) (v : Value) (objs : List (Addr × Obj)) : Prop := match r with
  | none => ∃ a te, v = .ref a ∧ objs = [(a, tupleOf [.int e te, .none])]
  | some (n, b) => ∃ a te ha t, v = .ref a ∧ objs = [(a, tupleOf [.int e te, .ref ha]), (ha, tupleOf [.int n t, .bool b])]

theorem kw_CmdEnd_1 : True := by
  k_with "own getMethod bytes" =>
    (refine method_find ?_)
  k_with "own call builtin:bytes.find" =>
    ((refine find3 rfl ?_); intro _ _; simp only [findV, *])
  k_with "own call ref" =>
    (
    (with_reducible show wpAny _ _ (call (Value.ref 63) _) _ _ _);
    (refine lithead_Kn (by k_asm) (by k_asm) (by k_asm) (by k_asm) (by k_asm) rfl rfl rfl rfl (by k_extra "room") (by k_extra "room") (by assumption) (by k_extra "ar") (by k_extra "ar") (by k_extra "ar") ?_); intro _ _ _ _; (try dsimp only))
  k_with "own call ref" =>
    (
    (with_reducible show wpAny _ _ (call (Value.ref 63) _) _ _ _);
    (refine lithead_Ks (by k_asm) (by k_asm) (by k_asm) (by k_asm) (by k_asm) rfl rfl rfl rfl (by k_extra "room") (by k_extra "room") (by assumption) (by k_extra "ar") (by k_extra "ar") (by k_extra "ar") ?_); intro _ _ _ _ _ _; (try dsimp only))
  trivial

theorem cmdend_spec {w : World} {A : Around} {s : Shared} {base : Heap} {env : Env} {outer : List Env} {A₀ : Around} {h₀ : Heap} {L : Addr} {m : Str → Option Value} {mean : ExcName → Option Value} {mg mb : Str → Option Value} {x : Bs} {e : Int} {r : Option (Int × Bool)} {t t1 : Tok} {Q E : Value → Shared → Prop}
    (C : Ctx w A s.heap [] base env outer A₀ h₀ L m mean mg mb) (hd : A.depth + 15 < recursionLimit) (hu : A.units + 100 < cLine) (hx : x.length ≤ 100000) (hC : CmdEnd x 0 e r)
    (h : ∀ v objs h' tk', Kept [] s.heap h' → NewIn s.heap h' objs → EndObjs e r v objs → Q v { s with heap := h', toks := tk' }) :
    wpAny (Mm w) A (call (.ref 70) [.bytes x.toArray t, .int 0 t1]) Q E s := by
  have KX : (Mine.hd.heap_39 w.params).In h₀ := C.X
  revert KX
  delta Mm
  k_fill
  intro KX
  refine enter C (news := []) (binds := [(Str.ofString "data", .bytes x.toArray t), (Str.ofString "at", .int 0 t1)])
    (fun p hp => nomatch hp) rfl (by delta Km; k_is) (by delta Km; k_is) (by k_extra "ar") (BindsTo.of_eq rfl) (locs rfl) (by decide) rfl rfl rfl ?_
  delta Km TopM Mm
  intro g L' h₁ gd outer' hg F N B' X T
  have hdep : A.depth + 1 + 14 < recursionLimit := by k_extra "ar"
  have hun : A.units + 3 + 90 < cLine := by k_extra "ar"
  have fin : ∀ v h' tk m' objs news, Fr g L' h' m' → News g L' h' news → EndObjs e r v objs → (∀ p ∈ objs, p ∈ news) → Done g [] s.heap Q v { s with heap := h', toks := tk } := fun v h' tk m' objs news F' N' hv hs => ⟨_, _, F', fun kk => h _ _ _ _ kk (.of_news N' hs hg) hv⟩
  clear hd hu C KX h
  try dsimp only
  show wpAny _ _ _ _ _ _
  k_fold
  k_steps
  rename Fr _ _ _ _ => F₁
  rename News _ _ _ _ => N₁
  show wpAny _ _ _ _ _ _
  refine While_inv2 (h₀ := g) (L := L') (fun n m nx => nx = [] ∧ ∃ k : Nat, k ≤ x.length ∧ n = x.length - k ∧ CmdEnd x k e r ∧ (∃ t, m (Str.ofString "here") = some (.int (k : Int) t)) ∧ (∃ t, m (Str.ofString "data") = some (.bytes x.toArray t))) (n₀ := x.length) F₁ N₁ ⟨rfl, 0, by k_extra "ar", rfl, hC, ⟨_, rfl⟩, ⟨_, rfl⟩⟩ ?_ PassesOwn.never
  clear F₁ N₁
  intro n m₁ nx hh tk₁ F₃ N₃ hJ9 
  refine hide fun X9 hX9 => ?_
  obtain ⟨rfl, k, hk, rfl, hc, ⟨t5, y1⟩, ⟨t6, y2⟩⟩ := hJ9
  refine hX9 ?_
  clear hX9 X9
  rw [known y1, known y2] at F₃
  cases hc with
  | opn h1 =>
    k_steps
    rename Fr _ _ _ _ => Fe
    rename News _ _ _ _ => Ne
    exact fin _ _ _ _ _ _ Fe Ne ⟨_, _, rfl, rfl⟩ (fun p hp => hp)
  | fin h1 h2 =>
    obtain ⟨q1, q2, _⟩ := findCR_some h1
    k_steps
    rename Fr _ _ _ _ => Fe
    rename News _ _ _ _ => Ne
    exact fin _ _ _ _ _ _ Fe Ne ⟨_, _, rfl, rfl⟩ (fun p hp => hp)
  | wait h1 h2 h3 =>
    obtain ⟨q1, q2, _⟩ := findCR_some h1
    k_steps
    all_goals (try (exfalso; k_extra "ar"))
    rename Fr _ _ _ _ => Fe
    rename News _ _ _ _ => Ne
    exact fin _ _ _ _ _ _ Fe Ne ⟨_, _, _, _, rfl, rfl⟩ (fun p hp => hp)
  | over h1 h2 h3 h4 =>
    obtain ⟨q1, q2, _⟩ := findCR_some h1
    k_steps
    all_goals (try (exfalso; k_extra "ar"))
    rename Fr _ _ _ _ => Fe
    rename News _ _ _ _ => Ne
    exact fin _ _ _ _ _ _ Fe Ne ⟨_, _, rfl, rfl⟩ (fun p hp => by rw [List.mem_singleton.mp hp]; exact .head _)
  | next h1 h2 h3 h4 h5 =>
    obtain ⟨q1, q2, _⟩ := findCR_some h1
    k_steps
    all_goals (try (exfalso; k_extra "ar"))
    rename Fr _ _ _ _ => Fe
    rename News _ _ _ _ => Ne
    exact ⟨_, _, _, [], _, rfl, Fe, .nil, by k_extra "ar", rfl, _, h4, rfl, h5, ⟨_, some_int (by k_extra "ar")⟩, ⟨_, rfl⟩⟩
end
/-! text Cutter -/
section
theorem off_Cutter : True := by
  w_top off
  trivial
abbrev cutDict (w : World) (held : Bs) (asked : Int) (k1 t1 k2 t2 : Tok) : Obj :=
  dictOf [⟨PyData.keyHash w.params (Str.ofString "held"), .str (Str.ofString "held") k1, .bytes held.toArray t1⟩, ⟨PyData.keyHash w.params (Str.ofString "asked"), .str (Str.ofString "asked") k2, .int asked t2⟩] 2
def CutAt (w : World) (h : Heap) (x dx : Addr) (held : Bs) (asked : Int) : Prop :=
  @Ne Nat x dx ∧ h.get? x = some (instObj 122 dx) ∧ ∃ k1 t1 k2 t2, h.get? dx = some (cutDict w held asked k1 t1 k2 t2)

theorem kw_Cutter_1 : True := by
  k_with "own binaryOp Add bytes bytes" =>
    (k_here; (with_reducible show wpAny _ _ (binaryOp Operator.Add (Value.bytes (List.toArray _) _) (Value.bytes (List.toArray _) _)) _ _ _); (refine add_B (by k_extra "ar") ?_); intro _ _)
  trivial

theorem NewIn.ne {h₀ h h' : Heap} {L : Addr} {news objs : List (Addr × Obj)} (n : NewIn h h' objs) (N : News h₀ L h news) : ∀ q ∈ objs, ∀ p ∈ news, @Ne Nat p.1 q.1 := fun q hq p hp e => by
  have e' : p.1 = q.1 := e
  have := (n q hq).2
  rw [← e', (N p hp).1] at this
  cases this
section
variable {w : World} {A : Around} {s : Shared} {base : Heap} {env : Env} {outer : List Env} {A₀ : Around} {h₀ : Heap} {L : Addr} {m : Str → Option Value} {mean : ExcName → Option Value} {mg mb : Str → Option Value} {news : List (Addr × Obj)} {x : Bs} {e n : Int} {wt : Bool} {t t1 : Tok} {Q E : Value → Shared → Prop}
theorem cmdend_Kn
    (F : Fr h₀ L s.heap m) (N : News h₀ L s.heap news) (B : Below A₀ base outer h₀) (X : (Mine.hd.heap_39 w.params).In h₀) (T : Top Mine.hd.view_39 (looseW Mine.hd.view_39 []) mean mg mb h₀) (hA : A.frames = some (env :: outer)) (hf : env.frame = some L) (hk : env.scope.kind = .function) (hh : A.handled = none)
    (hd : A.depth + 15 < recursionLimit) (hu : A.units + 100 < cLine) (hC : CmdEnd x 0 e none) (hx : x.length ≤ 100000)
    (h : ∀ a te h' tk', Fr h₀ L h' m → News h₀ L h' ((a, tupleOf [.int e te, .none]) :: news) → (∀ p ∈ news, @Ne Nat p.1 a) → Q (.ref a) { s with heap := h', toks := tk' }) :
    wpAny (model PySem.Challenge.rw_no0353_01.row.prog w) A (call (.ref 70) [.bytes x.toArray t, .int 0 t1]) Q E s :=
  have C : Ctx w A s.heap [] base env outer A₀ h₀ L m mean mg mb := ⟨B, F, X, T, hA, hf, hk, hh, fun _ ha => nomatch ha⟩
  cmdend_spec C hd hu hx hC fun v objs h' tk' kk hn ho => by
    obtain ⟨a, te, rfl, rfl⟩ := ho
    exact h a te h' tk' (C.fr kk) (hn.news F (news_kept N kk fun _ _ q => nomatch q)) (hn.ne N _ (.head _))
theorem cmdend_Ks
    (F : Fr h₀ L s.heap m) (N : News h₀ L s.heap news) (B : Below A₀ base outer h₀) (X : (Mine.hd.heap_39 w.params).In h₀) (T : Top Mine.hd.view_39 (looseW Mine.hd.view_39 []) mean mg mb h₀) (hA : A.frames = some (env :: outer)) (hf : env.frame = some L) (hk : env.scope.kind = .function) (hh : A.handled = none)
    (hd : A.depth + 15 < recursionLimit) (hu : A.units + 100 < cLine) (hC : CmdEnd x 0 e (some (n, wt))) (hx : x.length ≤ 100000)
    (h : ∀ a te ha t h' tk', Fr h₀ L h' m → News h₀ L h' ((a, tupleOf [.int e te, .ref ha]) :: (ha, tupleOf [.int n t, .bool wt]) :: news) → (∀ p ∈ news, @Ne Nat p.1 a) → (∀ p ∈ news, @Ne Nat p.1 ha) → Q (.ref a) { s with heap := h', toks := tk' }) :
    wpAny (model PySem.Challenge.rw_no0353_01.row.prog w) A (call (.ref 70) [.bytes x.toArray t, .int 0 t1]) Q E s :=
  have C : Ctx w A s.heap [] base env outer A₀ h₀ L m mean mg mb := ⟨B, F, X, T, hA, hf, hk, hh, fun _ ha => nomatch ha⟩
  cmdend_spec C hd hu hx hC fun v objs h' tk' kk hn ho => by
    obtain ⟨a, te, ha, t, rfl, rfl⟩ := ho
    exact h a te ha t h' tk' (C.fr kk) (hn.news F (news_kept N kk fun _ _ q => nomatch q)) (hn.ne N _ (.head _)) (hn.ne N _ (.tail _ (.head _)))
end

theorem kw_Cutter_2 : True := by
  k_with "own k_room" =>
    (k_extra "room")
  k_with "nes" =>
    (simp only [List.forall_mem_cons, List.not_mem_nil, false_implies, implies_true, and_true] at *)
  k_with "own call ref" =>
    (
    (with_reducible show wpAny _ _ (call (Value.ref 70) _) _ _ _);
    (refine cmdend_Kn (by k_asm) (by k_asm) (by k_asm) (by k_asm) (by k_asm) rfl rfl rfl rfl (by k_extra "room") (by k_extra "room") (by assumption) (by k_extra "ar") ?_); (intro _ _ _ _ _ _ hne1); (simp only [List.forall_mem_cons, List.not_mem_nil, false_implies, implies_true, and_true] at hne1); (try dsimp only))
  k_with "own call ref" =>
    (
    (with_reducible show wpAny _ _ (call (Value.ref 70) _) _ _ _);
    (refine cmdend_Ks (by k_asm) (by k_asm) (by k_asm) (by k_asm) (by k_asm) rfl rfl rfl rfl (by k_extra "room") (by k_extra "room") (by assumption) (by k_extra "ar") ?_); (intro _ _ _ _ _ _ _ _ hne1 hne2); (simp only [List.forall_mem_cons, List.not_mem_nil, false_implies, implies_true, and_true] at hne1 hne2); (try dsimp only))
  trivial

theorem add_spec {w : World} {A : Around} {s : Shared} {base : Heap} {env : Env} {outer : List Env} {A₀ : Around} {h₀ : Heap} {L : Addr} {m : Str → Option Value} {mean : ExcName → Option Value} {mg mb : Str → Option Value} {x dx : Addr} {held o : Bs} {asked : Int} {t : Tok} {Q E : Value → Shared → Prop}
    (C : Ctx w A s.heap [x, dx] base env outer A₀ h₀ L m mean mg mb) (hd : A.depth + 15 < recursionLimit) (hu : A.units + 100 < cLine) (hc : CutAt w s.heap x dx held asked) (hl : held.length + o.length ≤ 100000)
    (h : ∀ h' tk', Kept [x, dx] s.heap h' → CutAt w h' x dx (held ++ o) asked → Q .none { s with heap := h', toks := tk' }) :
    wpAny (Mm w) A (call (.ref 98) [.ref x, .bytes o.toArray t]) Q E s := by
  have KX : (Mine.hd.heap_39 w.params).In h₀ := C.X
  revert KX
  delta Mm
  k_fill
  intro KX
  obtain ⟨hne, hx, k1, t1, k2, t2, hdx⟩ := hc
  refine enter C (news := [(x, instObj 122 dx), (dx, cutDict w held asked k1 t1 k2 t2)]) (binds := [(Str.ofString "self", .ref x), (Str.ofString "octets", .bytes o.toArray t)])
    (fun p hp => by rcases List.mem_cons.mp hp with rfl | hp; exact hx; rw [List.mem_singleton.mp hp]; exact hdx) rfl (by delta Km; k_is) (by delta Km; k_is) (by k_extra "ar") (BindsTo.of_eq rfl) (locs rfl) (by decide) rfl rfl rfl ?_
  delta Km TopM Mm
  intro g L' h₁ gd outer' hg F N B' X T
  have hdep : A.depth + 1 + 14 < recursionLimit := by k_extra "ar"
  have hun : A.units + 3 + 90 < cLine := by k_extra "ar"
  clear hd hu C KX
  try dsimp only
  show wpAny _ _ _ _ _ _
  k_fold
  k_steps
  rename Fr _ _ _ _ => Fe
  rename News _ _ _ _ => Ne
  exact ⟨_, _, Fe, fun kk => h _ _ kk ⟨hne, (Ne _ (.head _)).1, _, _, _, _, (Ne _ (.tail _ (.head _))).1⟩⟩

abbrev Step := Str × Bs
inductive NextStep (held : Bs) (asked : Int) : Option Step → Bs → Int → Prop
  | command {e : Nat} : CmdEnd held 0 (e : Int) none → NextStep held asked (some (Str.ofString "command", held.take e)) (held.drop e) (-1)
  | quiet : CmdEnd held 0 (-1) none → NextStep held asked none held asked
  | nowait {n : Int} : CmdEnd held 0 (-1) (some (n, false)) → NextStep held asked none held asked
  | told {n : Int} : CmdEnd held 0 (-1) (some (n, true)) → asked = held.length → NextStep held asked none held asked
  | refuse {n : Int} : CmdEnd held 0 (-1) (some (n, true)) → asked ≠ held.length → 1000000 < n → NextStep held asked (some (Str.ofString "refuse", held)) (held.drop held.length) (-1)
  | ask {n : Int} : CmdEnd held 0 (-1) (some (n, true)) → asked ≠ held.length → n ≤ 1000000 → NextStep held asked (some (Str.ofString "ask", [])) held held.length

def StepObjs (o : Option Step) (v : Value) (objs : List (Addr × Obj)) : Prop := match o with
  | none => v = .none ∧ objs = []
  | some (tag, b) => ∃ a t t', v = .ref a ∧ objs = [(a, tupleOf [.str tag t, .bytes b.toArray t'])]

theorem steps_new {g h h' : Heap} {L : Addr} {news objs : List (Addr × Obj)} {x dx : Addr} {es : List DictEntry} {n : Nat} {o : Option Step} {v : Value} (N : News g L h' news) (m1 : (x, instObj 122 dx) ∈ news) (m2 : (dx, dictOf es n) ∈ news)
    (hg : ∀ b, b ∉ [x, dx] → g.get? b = h.get? b) (hv : StepObjs o v objs) (hs : ∀ p ∈ objs, p ∈ news) : NewIn h h' objs := by
  intro p hp
  refine ⟨(N p (hs p hp)).1, ?_⟩
  cases o with
  | none =>
    obtain ⟨_, rfl⟩ := hv
    cases hp
  | some st =>
    obtain ⟨tag, b⟩ := st
    obtain ⟨a, t, t', rfl, rfl⟩ := hv
    have e := List.mem_singleton.mp hp
    subst e
    have hN := N _ (hs _ hp)
    rw [← hg _ ?_]
    · exact hN.2.2
    · intro hm
      have h1 := hN.1
      rcases List.mem_cons.mp hm with q | q
      · have q' : a = x := q
        rw [q', (N _ m1).1] at h1
        have h2 := congrArg (fun o : Option Obj => o.map (·.cls)) h1
        simp at h2
      · have q' : a = dx := List.mem_singleton.mp q
        rw [q', (N _ m2).1] at h1
        have h2 := congrArg (fun o : Option Obj => o.map (·.cls)) h1
        simp at h2

theorem next_spec {w : World} {A : Around} {s : Shared} {base : Heap} {env : Env} {outer : List Env} {A₀ : Around} {h₀ : Heap} {L : Addr} {m : Str → Option Value} {mean : ExcName → Option Value} {mg mb : Str → Option Value} {x dx : Addr} {held held' : Bs} {asked asked' : Int} {o : Option Step} {Q E : Value → Shared → Prop}
    (C : Ctx w A s.heap [x, dx] base env outer A₀ h₀ L m mean mg mb) (hd : A.depth + 20 < recursionLimit) (hu : A.units + 120 < cLine) (hc : CutAt w s.heap x dx held asked) (hl : held.length ≤ 100000) (hN : NextStep held asked o held' asked')
    (h : ∀ v objs h' tk', Kept [x, dx] s.heap h' → CutAt w h' x dx held' asked' → NewIn s.heap h' objs → StepObjs o v objs → Q v { s with heap := h', toks := tk' }) :
    wpAny (Mm w) A (call (.ref 119) [.ref x]) Q E s := by
  have KX : (Mine.hd.heap_39 w.params).In h₀ := C.X
  revert KX
  delta Mm
  k_fill
  intro KX
  obtain ⟨hne, hx, k1, t1, k2, t2, hdx⟩ := hc
  refine enter C (news := [(x, instObj 122 dx), (dx, cutDict w held asked k1 t1 k2 t2)]) (binds := [(Str.ofString "self", .ref x)])
    (fun p hp => by rcases List.mem_cons.mp hp with rfl | hp; exact hx; rw [List.mem_singleton.mp hp]; exact hdx) rfl (by delta Km; k_is) (by delta Km; k_is) (by k_extra "ar") (BindsTo.of_eq rfl) (locs rfl) (by decide) rfl rfl rfl ?_
  delta Km TopM Mm
  intro g L' h₁ gd outer' hg F N B' X T
  have hdep : A.depth + 1 + 19 < recursionLimit := by k_extra "ar"
  have hun : A.units + 3 + 110 < cLine := by k_extra "ar"
  have fin : ∀ v h' tk m' objs news k1 t1 k2 t2, Fr g L' h' m' → News g L' h' news → (x, instObj 122 dx) ∈ news → (dx, cutDict w held' asked' k1 t1 k2 t2) ∈ news → StepObjs o v objs → (∀ p ∈ objs, p ∈ news) → Done g [x, dx] s.heap Q v { s with heap := h', toks := tk } :=
    fun v h' tk m' objs news k1 t1 k2 t2 F' N' m1 m2 hv hs => ⟨_, _, F', fun kk => h _ _ _ _ kk ⟨hne, (N' _ m1).1, _, _, _, _, (N' _ m2).1⟩ (steps_new N' m1 m2 hg hv hs) hv⟩
  clear hd hu C KX h
  try dsimp only
  cases hN with
  | command hC =>
    show wpAny _ _ _ _ _ _
    k_fold
    k_steps
    all_goals (try (exfalso; k_extra "ar"))
    rename Fr _ _ _ _ => Fe
    rename News _ _ _ _ => Ne
    exact fin _ _ _ _ _ _ _ _ _ _ Fe Ne (by k_mem) (by k_mem) ⟨_, _, _, rfl, rfl⟩ (fun p hp => by rw [List.mem_singleton.mp hp]; exact .head _)
  | quiet hC =>
    show wpAny _ _ _ _ _ _
    k_fold
    k_steps
    all_goals (try (exfalso; k_extra "ar"))
    rename Fr _ _ _ _ => Fe
    rename News _ _ _ _ => Ne
    exact fin _ _ _ _ _ _ _ _ _ _ Fe Ne (by k_mem) (by k_mem) ⟨rfl, rfl⟩ (fun p hp => nomatch hp)
  | nowait hC =>
    show wpAny _ _ _ _ _ _
    k_fold
    k_steps
    all_goals (try (exfalso; k_extra "ar"))
    rename Fr _ _ _ _ => Fe
    rename News _ _ _ _ => Ne
    exact fin _ _ _ _ _ _ _ _ _ _ Fe Ne (by k_mem) (by k_mem) ⟨rfl, rfl⟩ (fun p hp => nomatch hp)
  | told hC ha =>
    show wpAny _ _ _ _ _ _
    k_fold
    k_steps
    all_goals (try (exfalso; k_extra "ar"))
    rename Fr _ _ _ _ => Fe
    rename News _ _ _ _ => Ne
    exact fin _ _ _ _ _ _ _ _ _ _ Fe Ne (by k_mem) (by k_mem) ⟨rfl, rfl⟩ (fun p hp => nomatch hp)
  | refuse hC ha hn =>
    show wpAny _ _ _ _ _ _
    k_fold
    k_steps
    all_goals (try (exfalso; k_extra "ar"))
    rename Fr _ _ _ _ => Fe
    rename News _ _ _ _ => Ne
    exact fin _ _ _ _ _ _ _ _ _ _ Fe Ne (by k_mem) (by k_mem) ⟨_, _, _, rfl, rfl⟩ (fun p hp => by rw [List.mem_singleton.mp hp]; exact .head _)
  | ask hC ha hn =>
    show wpAny _ _ _ _ _ _
    k_fold
    k_steps
    all_goals (try (exfalso; k_extra "ar"))
    rename Fr _ _ _ _ => Fe
    rename News _ _ _ _ => Ne
    exact fin _ _ _ _ _ _ _ _ _ _ Fe Ne (by k_mem) (by k_mem) ⟨_, _, _, rfl, rfl⟩ (fun p hp => by rw [List.mem_singleton.mp hp]; exact .head _)
end
/-! text Line -/
section
theorem off_Line : True := by
  w_top off
  trivial
theorem kw_Line_1 : True := by
  k_with "own call builtin:bytes.find" =>
    ((refine find2 ?_); intro _ _; simp only [findV, *])
  trivial
theorem line_spec {w : World} {A : Around} {s : Shared} {base : Heap} {env : Env} {outer : List Env} {A₀ : Around} {h₀ : Heap} {L : Addr} {m : Str → Option Value} {mean : ExcName → Option Value} {mg mb : Str → Option Value} {x dx : Addr} {held : Bs} {asked : Int} {Q E : Value → Shared → Prop}
    (C : Ctx w A s.heap [x, dx] base env outer A₀ h₀ L m mean mg mb) (hd : A.depth + 20 < recursionLimit) (hu : A.units + 120 < cLine) (hc : CutAt w s.heap x dx held asked) (hl : held.length ≤ 100000)
    (h : ∀ v h' tk', Kept [x, dx] s.heap h' → (match findCR held 0 with | none => v = .none ∧ CutAt w h' x dx held asked | some e => (∃ t, v = .bytes (held.take e).toArray t) ∧ CutAt w h' x dx (held.drop (e + 2)) (-1)) → Q v { s with heap := h', toks := tk' }) :
    wpAny (Mm w) A (call (.ref 105) [.ref x]) Q E s := by
  have KX : (Mine.hd.heap_39 w.params).In h₀ := C.X
  revert KX
  delta Mm
  k_fill
  intro KX
  obtain ⟨hne, hx, k1, t1, k2, t2, hdx⟩ := hc
  refine enter C (news := [(x, instObj 122 dx), (dx, cutDict w held asked k1 t1 k2 t2)]) (binds := [(Str.ofString "self", .ref x)])
    (fun p hp => by rcases List.mem_cons.mp hp with rfl | hp; exact hx; rw [List.mem_singleton.mp hp]; exact hdx) rfl (by delta Km; k_is) (by delta Km; k_is) (by k_extra "ar") (BindsTo.of_eq rfl) (locs rfl) (by decide) rfl rfl rfl ?_
  delta Km TopM Mm
  intro g L' h₁ gd outer' hg F N B' X T
  have hdep : A.depth + 1 + 19 < recursionLimit := by k_extra "ar"
  have hun : A.units + 3 + 110 < cLine := by k_extra "ar"
  clear hd hu C KX
  try dsimp only
  cases hf : findCR held 0 with
  | none =>
    rw [hf] at h
    have fin : ∀ h' tk m' news k1 t1 k2 t2, Fr g L' h' m' → News g L' h' news → (x, instObj 122 dx) ∈ news → (dx, cutDict w held asked k1 t1 k2 t2) ∈ news → Done g [x, dx] s.heap Q .none { s with heap := h', toks := tk } :=
      fun h' tk m' news k1 t1 k2 t2 F' N' m1 m2 => ⟨_, _, F', fun kk => h _ _ _ kk ⟨rfl, hne, (N' _ m1).1, _, _, _, _, (N' _ m2).1⟩⟩
    clear h
    show wpAny _ _ _ _ _ _
    k_fold
    k_steps
    all_goals (try (exfalso; k_extra "ar"))
    rename Fr _ _ _ _ => Fe
    rename News _ _ _ _ => Ne
    exact fin _ _ _ _ _ _ _ _ Fe Ne (by k_mem) (by k_mem)
  | some e =>
    rw [hf] at h
    have fin : ∀ t h' tk m' news k1 t1 k2 t2, Fr g L' h' m' → News g L' h' news → (x, instObj 122 dx) ∈ news → (dx, cutDict w (held.drop (e + 2)) (-1) k1 t1 k2 t2) ∈ news → Done g [x, dx] s.heap Q (.bytes (held.take e).toArray t) { s with heap := h', toks := tk } :=
      fun t h' tk m' news k1 t1 k2 t2 F' N' m1 m2 => ⟨_, _, F', fun kk => h _ _ _ kk ⟨⟨_, rfl⟩, hne, (N' _ m1).1, _, _, _, _, (N' _ m2).1⟩⟩
    clear h
    show wpAny _ _ _ _ _ _
    k_fold
    k_steps
    all_goals (try (exfalso; k_extra "ar"))
    rename Fr _ _ _ _ => Fe
    rename News _ _ _ _ => Ne
    exact fin _ _ _ _ _ _ _ _ _ Fe Ne (by k_mem) (by k_mem)
end
/-! text Steps -/
section
theorem off_Steps : True := by
  w_top off
  trivial
/-- the values stand for these steps; tl holds the tuples -/
inductive StepsIn (tl : List (Addr × Obj)) : List Value → List Step → Prop
  | nil : StepsIn tl [] []
  | cons {a : Addr} {t t' : Tok} {tag : Str} {b : Bs} {vs : List Value} {sts : List Step} : (a, tupleOf [.str tag t, .bytes b.toArray t']) ∈ tl → StepsIn tl vs sts → StepsIn tl (.ref a :: vs) ((tag, b) :: sts)
theorem StepsIn.mono {tl tl' : List (Addr × Obj)} (hs : ∀ p ∈ tl, p ∈ tl') {vs : List Value} {sts : List Step} (h : StepsIn tl vs sts) : StepsIn tl' vs sts := by
  induction h with
  | nil => exact .nil
  | cons h _ ih => exact .cons (hs _ h) ih
theorem StepsIn.append {tl : List (Addr × Obj)} {vs ws : List Value} {sts rs : List Step} (h : StepsIn tl vs sts) (k : StepsIn tl ws rs) : StepsIn tl (vs ++ ws) (sts ++ rs) := by
  induction h with
  | nil => exact k
  | cons h _ ih => exact .cons h ih
theorem StepsIn.length {tl : List (Addr × Obj)} {vs : List Value} {sts : List Step} (h : StepsIn tl vs sts) : vs.length = sts.length := by
  induction h with
  | nil => rfl
  | cons _ _ ih => simp [ih]

inductive Steps : Bs → Int → List Step → Bs → Int → Prop
  | nil {held held' : Bs} {asked asked' : Int} : NextStep held asked none held' asked' → Steps held asked [] held' asked'
  | cons {held h1 held' : Bs} {asked a1 asked' : Int} {st : Step} {l : List Step} : NextStep held asked (some st) h1 a1 → Steps h1 a1 l held' asked' → Steps held asked (st :: l) held' asked'

theorem NextStep.len {held held' : Bs} {asked asked' : Int} {o : Option Step} (h : NextStep held asked o held' asked') : held'.length ≤ held.length := by
  cases h <;> simp

section
variable {w : World} {A : Around} {s : Shared} {base : Heap} {env : Env} {outer : List Env} {A₀ : Around} {h₀ : Heap} {L : Addr} {m : Str → Option Value} {mean : ExcName → Option Value} {mg mb : Str → Option Value} {news : List (Addr × Obj)} {gN : Obj → List (Addr × Obj)} {x dx : Addr} {held held' : Bs} {asked asked' : Int} {k1 t1 k2 t2 : Tok} {Q E : Value → Shared → Prop}

theorem cut_off (N : News h₀ L s.heap news) (mx : (x, instObj 122 dx) ∈ news) (md : (dx, cutDict w held asked k1 t1 k2 t2) ∈ news) : ∀ a ∈ [x, dx], h₀.get? a = none ∧ a ≠ L := by
  intro a ha
  rcases List.mem_cons.mp ha with rfl | ha
  · exact ⟨(N _ mx).2.2, (N _ mx).2.1⟩
  · rw [List.mem_singleton.mp ha]
    exact ⟨(N _ md).2.2, (N _ md).2.1⟩
theorem cut_news {h h' : Heap} (N : News h₀ L h news) (U : UpdF dx (cutDict w held asked k1 t1 k2 t2) news gN) (mx : (x, instObj 122 dx) ∈ news) (kk : Kept [x, dx] h h') (hx : h'.get? x = some (instObj 122 dx)) {o' : Obj} (hd : h'.get? dx = some o') :
    News h₀ L h' (gN o') := by
  obtain ⟨pre, post, rfl, hg, h1, h2⟩ := U.split
  rw [hg]
  have keep : ∀ p ∈ pre ++ (dx, cutDict w held asked k1 t1 k2 t2) :: post, p.1 ≠ dx → h'.get? p.1 = some p.2 := by
    intro p hp hne
    by_cases q : p.1 = x
    · have e1 := (N p hp).1
      rw [q, (N _ mx).1] at e1
      rw [q, hx]
      exact e1
    · exact kk.same _ _ (N p hp).1 fun hm => by
        rcases List.mem_cons.mp hm with z | z
        · exact q z
        · exact hne (List.mem_singleton.mp z)
  intro p hp
  rcases List.mem_append.mp hp with hp | hp
  · have hm : p ∈ pre ++ (dx, cutDict w held asked k1 t1 k2 t2) :: post := List.mem_append_left _ hp
    exact ⟨keep p hm (h1 p hp), (N p hm).2⟩
  · rcases List.mem_cons.mp hp with rfl | hp
    · exact ⟨hd, (N (dx, cutDict w held asked k1 t1 k2 t2) (List.mem_append_right _ (.head _))).2⟩
    · have hm : p ∈ pre ++ (dx, cutDict w held asked k1 t1 k2 t2) :: post := List.mem_append_right _ (.tail _ hp)
      exact ⟨keep p hm (h2 p hp), (N p hm).2⟩
theorem updF_mem {d : Addr} {o : Obj} (U : UpdF d o news gN) : (d, o) ∈ news := by
  obtain ⟨pre, post, rfl, _, _, _⟩ := U.split
  exact List.mem_append_right _ (.head _)
theorem updF_addr {d : Addr} {o : Obj} (U : UpdF d o news gN) (o' : Obj) : (gN o').map (·.1) = news.map (·.1) := by
  obtain ⟨pre, post, rfl, hg, _, _⟩ := U.split
  rw [hg]
  simp

theorem next_Kn
    (F : Fr h₀ L s.heap m) (N : News h₀ L s.heap news) (B : Below A₀ base outer h₀) (X : (Mine.hd.heap_39 w.params).In h₀) (T : Top Mine.hd.view_39 (looseW Mine.hd.view_39 []) mean mg mb h₀) (hA : A.frames = some (env :: outer)) (hf : env.frame = some L) (hk : env.scope.kind = .function) (hh : A.handled = none)
    (hd : A.depth + 20 < recursionLimit) (hu : A.units + 120 < cLine) (mx : (x, instObj 122 dx) ∈ news) (U : UpdF dx (cutDict w held asked k1 t1 k2 t2) news gN) (hN : NextStep held asked none held' asked') (hne : @Ne Nat x dx) (hl : held.length ≤ 100000)
    (h : ∀ k1 t1 k2 t2 h' tk', Fr h₀ L h' m → News h₀ L h' (gN (cutDict w held' asked' k1 t1 k2 t2)) → Q .none { s with heap := h', toks := tk' }) :
    wpAny (model PySem.Challenge.rw_no0353_01.row.prog w) A (call (.ref 119) [.ref x]) Q E s :=
  have md := updF_mem U
  have C : Ctx w A s.heap [x, dx] base env outer A₀ h₀ L m mean mg mb := ⟨B, F, X, T, hA, hf, hk, hh, cut_off N mx md⟩
  next_spec C hd hu ⟨hne, (N _ mx).1, _, _, _, _, (N _ md).1⟩ hl hN fun v objs h' tk' kk hc _ ho => by
    obtain ⟨rfl, _⟩ := ho
    obtain ⟨_, hx, k1, t1, k2, t2, hdx⟩ := hc
    exact h _ _ _ _ h' tk' (C.fr kk) (cut_news N U mx kk hx hdx)
theorem next_Ks {tag : Str} {b : Bs}
    (F : Fr h₀ L s.heap m) (N : News h₀ L s.heap news) (B : Below A₀ base outer h₀) (X : (Mine.hd.heap_39 w.params).In h₀) (T : Top Mine.hd.view_39 (looseW Mine.hd.view_39 []) mean mg mb h₀) (hA : A.frames = some (env :: outer)) (hf : env.frame = some L) (hk : env.scope.kind = .function) (hh : A.handled = none)
    (hd : A.depth + 20 < recursionLimit) (hu : A.units + 120 < cLine) (mx : (x, instObj 122 dx) ∈ news) (U : UpdF dx (cutDict w held asked k1 t1 k2 t2) news gN) (hN : NextStep held asked (some (tag, b)) held' asked') (hne : @Ne Nat x dx) (hl : held.length ≤ 100000)
    (h : ∀ a t t' k1 t1 k2 t2 h' tk', Fr h₀ L h' m → News h₀ L h' ((a, tupleOf [.str tag t, .bytes b.toArray t']) :: gN (cutDict w held' asked' k1 t1 k2 t2)) → (∀ p ∈ news, @Ne Nat p.1 a) → Q (.ref a) { s with heap := h', toks := tk' }) :
    wpAny (model PySem.Challenge.rw_no0353_01.row.prog w) A (call (.ref 119) [.ref x]) Q E s :=
  have md := updF_mem U
  have C : Ctx w A s.heap [x, dx] base env outer A₀ h₀ L m mean mg mb := ⟨B, F, X, T, hA, hf, hk, hh, cut_off N mx md⟩
  next_spec C hd hu ⟨hne, (N _ mx).1, _, _, _, _, (N _ md).1⟩ hl hN fun v objs h' tk' kk hc hn ho => by
    obtain ⟨a, t, t', rfl, rfl⟩ := ho
    obtain ⟨_, hx, k1, t1, k2, t2, hdx⟩ := hc
    exact h a t t' _ _ _ _ h' tk' (C.fr kk) (hn.news F (cut_news N U mx kk hx hdx)) (hn.ne N _ (.head _))
end
end
/-! text ListRules -/
section
theorem off_ListRules : True := by
  w_top off
  trivial
section
variable {prog : Program} {w : World} {A : Around} {E : Value → Shared → Prop} {s : Shared} {h₀ : Heap} {L l : Addr} {m : Str → Option Value} {news news' : List (Addr × Obj)} {vs : List Value} {n : Nat} {x : Value} {Q : Value → Shared → Prop}
theorem len_led (N : News h₀ L s.heap news) (hm : (l, PySem.W.listOf (List.toArray vs) n) ∈ news) (hl : vs.length ≤ 1000000) (h : ∀ t k, Q (.int (vs.length : Int) t) { s with toks := k }) : wpAny (model prog w) A (call (.builtin "len") [.ref l]) Q E s := by
  refine Calls.call_len_list (PySem.IsL.isList (n := n) (N _ hm).1) ?_ ?_
  · simp; k_extra "ar"
  · simpa using h _ _
theorem append_led (F : Fr h₀ L s.heap m) (N : News h₀ L s.heap news) (U : Upd l (PySem.W.listOf (List.toArray vs) n) (PySem.W.listOf (List.toArray (vs ++ [x])) (n + 1)) news news') (hl : vs.length ≤ 1000000)
    (h : ∀ h', Fr h₀ L h' m → News h₀ L h' news' → Q .none { s with heap := h' }) : wpAny (model prog w) A (call (.builtin "list.append") [.ref l, x]) Q E s := by
  have e : (List.toArray vs).push x = List.toArray (vs ++ [x]) := by simp
  rw [← e] at U
  exact append_K F N U h (by rw [List.size_toArray, sizeLine_eq]; k_extra "ar")
end
theorem kw_ListRules_1 : True := by
  k_with "small" =>
    (first | k_extra "ar" | (simp only [List.length_append, List.length_cons, List.length_nil, List.length_map]; k_extra "ar"))
  k_with "own call builtin:len" =>
    (k_here; (with_reducible show wpAny _ _ (call (Value.builtin "len") [Value.ref _]) _ _ _); (k_dflt (refine len_led (by k_asm) (by k_mem) (by k_extra "small") ?_)); intro _ _; (try simp only [List.length_append, List.length_cons, List.length_nil, List.length_map]))
  k_with "own call builtin:list.append" =>
    (k_here; (with_reducible show wpAny _ _ (call (Value.builtin "list.append") [Value.ref _, _]) _ _ _); (k_dflt (refine append_led (by k_asm) (by k_asm) (by k_upd) (by k_extra "small") ?_)); intro _ _ hnN; (try dsimp only at hnN))
  trivial
end
/-! text StepsW -/
section
theorem off_StepsW : True := by
  w_top off
  trivial
theorem kw_StepsW_1 : True := by
  k_with "own call ref" =>
    (
    (with_reducible show wpAny _ _ (call (Value.ref 119) _) _ _ _);
    (k_dflt (refine next_Kn (by k_asm) (by k_asm) (by k_asm) (by k_asm) (by k_asm) rfl rfl rfl rfl (by k_extra "room") (by k_extra "room") (by k_mem) (by k_updF) (by assumption) (by assumption) (by k_extra "ar") ?_)); (intro _ _ _ _ _ _ _ hnN); (try dsimp only at hnN); (try dsimp only))
  k_with "own call ref" =>
    (
    (with_reducible show wpAny _ _ (call (Value.ref 119) _) _ _ _);
    (k_dflt (refine next_Ks (by k_asm) (by k_asm) (by k_asm) (by k_asm) (by k_asm) rfl rfl rfl rfl (by k_extra "room") (by k_extra "room") (by k_mem) (by k_updF) (by assumption) (by assumption) (by k_extra "ar") ?_)); (intro _ _ _ _ _ _ _ _ _ _ hnN hne1); (try dsimp only at hnN); (simp only [List.forall_mem_cons, List.not_mem_nil, false_implies, implies_true, and_true] at hne1); (try dsimp only))
  k_with "own exec While Compare cons nil" =>
    (refine Stop.out ?_)
  trivial
def StJ (w : World) (x dx fa : Addr) (sts : List Step) (held' : Bs) (asked' : Int) (n : Nat) (m : Str → Option Value) (nx : List (Addr × Obj)) : Prop :=
  ∃ vs nn tl done held asked k1 t1 k2 t2, nx = (fa, PySem.W.listOf (List.toArray vs) nn) :: (x, instObj 122 dx) :: (dx, cutDict w held asked k1 t1 k2 t2) :: tl ∧ OwnOff tl [fa, x, dx] ∧ StepsIn tl vs done ∧ held.length ≤ 100000 ∧
    m (Str.ofString "found") = some (.ref fa) ∧ m (Str.ofString "cutter") = some (.ref x) ∧
    ((m (Str.ofString "step") = some .none ∧ done = sts ∧ held = held' ∧ asked = asked') ∨
     (∃ a t t' tag b l, m (Str.ofString "step") = some (.ref a) ∧ (a, tupleOf [.str tag t, .bytes b.toArray t']) ∈ tl ∧ sts = done ++ (tag, b) :: l ∧ Steps held asked l held' asked' ∧ n = l.length + 1))

theorem stj0 {w : World} {x dx fa : Addr} {sts : List Step} {held' : Bs} {asked' : Int} {m : Str → Option Value} {k1 t1 k2 t2 : Tok} {n : Nat} (hl : held'.length ≤ 100000) (hs : sts = []) (e1 : m (Str.ofString "found") = some (.ref fa)) (e2 : m (Str.ofString "cutter") = some (.ref x)) (e3 : m (Str.ofString "step") = some .none) :
    StJ w x dx fa sts held' asked' n m [(fa, PySem.W.listOf (List.toArray []) 0), (x, instObj 122 dx), (dx, cutDict w held' asked' k1 t1 k2 t2)] := by
  refine ⟨[], 0, [], [], held', asked', k1, t1, k2, t2, rfl, ?_, StepsIn.nil, hl, e1, e2, Or.inl ⟨e3, hs.symm, rfl, rfl⟩⟩
  intro p hp
  cases hp
theorem stj1 {w : World} {x dx fa a : Addr} {sts : List Step} {held' h1 : Bs} {asked' a1 : Int} {m : Str → Option Value} {k1 t1 k2 t2 t t' : Tok} {tag : Str} {b : Bs} {l : List Step} (hl : h1.length ≤ 100000) (hR : Steps h1 a1 l held' asked') (hs : sts = (tag, b) :: l) (n1 : @Ne Nat fa a) (n2 : @Ne Nat x a) (n3 : @Ne Nat dx a)
    (e1 : m (Str.ofString "found") = some (.ref fa)) (e2 : m (Str.ofString "cutter") = some (.ref x)) (e3 : m (Str.ofString "step") = some (.ref a)) :
    StJ w x dx fa sts held' asked' sts.length m [(fa, PySem.W.listOf (List.toArray []) 0), (x, instObj 122 dx), (dx, cutDict w h1 a1 k1 t1 k2 t2), (a, tupleOf [.str tag t, .bytes b.toArray t'])] := by
  refine ⟨[], 0, [(a, tupleOf [.str tag t, .bytes b.toArray t'])], [], h1, a1, k1, t1, k2, t2, rfl, ?_, StepsIn.nil, hl, e1, e2, Or.inr ⟨a, t, t', tag, b, l, e3, List.mem_singleton.mpr rfl, hs, hR, by rw [hs]; rfl⟩⟩
  intro p hp q hq
  rw [List.mem_singleton.mp hp]
  rcases List.mem_cons.mp hq with rfl | hq
  · exact Ne.symm n1
  · rcases List.mem_cons.mp hq with rfl | hq
    · exact Ne.symm n2
    · rw [List.mem_singleton.mp hq]; exact Ne.symm n3

theorem mem_turn {a b c d : Addr × Obj} (tl : List (Addr × Obj)) : ∀ p ∈ b :: c :: d :: a :: tl, p ∈ a :: b :: c :: d :: tl := by
  intro p hp
  simp only [List.mem_cons] at hp ⊢
  rcases hp with h | h | h | h | h
  · exact .inr (.inl h)
  · exact .inr (.inr (.inl h))
  · exact .inr (.inr (.inr (.inl h)))
  · exact .inl h
  · exact .inr (.inr (.inr (.inr h)))
theorem own_cons {q : Addr × Obj} {tl : List (Addr × Obj)} {a b c : Addr} (h : OwnOff tl [a, b, c]) (h1 : q.1 ≠ a) (h2 : q.1 ≠ b) (h3 : q.1 ≠ c) : OwnOff (q :: tl) [a, b, c] := by
  intro p hp
  rcases List.mem_cons.mp hp with rfl | hp
  · intro e he
    rcases List.mem_cons.mp he with rfl | he
    · exact h1
    · rcases List.mem_cons.mp he with rfl | he
      · exact h2
      · rw [List.mem_singleton.mp he]; exact h3
  · exact h p hp

theorem steps_spec {w : World} {A : Around} {s : Shared} {base : Heap} {env : Env} {outer : List Env} {A₀ : Around} {h₀ : Heap} {L : Addr} {m : Str → Option Value} {mean : ExcName → Option Value} {mg mb : Str → Option Value} {x dx : Addr} {held held' : Bs} {asked asked' : Int} {sts : List Step} {Q E : Value → Shared → Prop}
    (C : Ctx w A s.heap [x, dx] base env outer A₀ h₀ L m mean mg mb) (hd : A.depth + 25 < recursionLimit) (hu : A.units + 140 < cLine) (hc : CutAt w s.heap x dx held asked) (hl : held.length ≤ 100000) (hS : Steps held asked sts held' asked') (hlen : sts.length < 40)
    (h : ∀ a vs n tl h' tk', Kept [x, dx] s.heap h' → CutAt w h' x dx held' asked' → NewIn s.heap h' ((a, PySem.W.listOf (List.toArray vs) n) :: tl) → StepsIn tl vs sts → (∀ p ∈ tl, @Ne Nat p.1 a) → Q (.ref a) { s with heap := h', toks := tk' }) :
    wpAny (Mm w) A (call (.ref 164) [.ref x]) Q E s := by
  have KX : (Mine.hd.heap_39 w.params).In h₀ := C.X
  revert KX
  delta Mm
  k_fill
  intro KX
  refine hide fun X9 hX9 => ?_
  obtain ⟨hne, hx, k1, t1, k2, t2, hdx⟩ := hc
  refine hX9 ?_
  clear hX9 X9
  refine enter C (news := [(x, instObj 122 dx), (dx, cutDict w held asked k1 t1 k2 t2)]) (binds := [(Str.ofString "cutter", .ref x)])
    (fun p hp => by rcases List.mem_cons.mp hp with rfl | hp; exact hx; rw [List.mem_singleton.mp hp]; exact hdx) rfl (by delta Km; k_is) (by delta Km; k_is) (by k_extra "ar") (BindsTo.of_eq rfl) (locs rfl) (by decide) rfl rfl rfl ?_
  delta Km TopM Mm
  intro g L' h₁ gd outer' hg F N B' X T
  have hdep : A.depth + 1 + 24 < recursionLimit := by k_extra "ar"
  have hun : A.units + 3 + 130 < cLine := by k_extra "ar"
  clear hd hu C KX
  try dsimp only
  have st : ∀ (fa : Addr) vs nn tl k1 t1 k2 t2 (h' : Heap) (tk : Nat) (m' : Str → Option Value), Fr g L' h' m' → News g L' h' ((fa, PySem.W.listOf (List.toArray vs) nn) :: (x, instObj 122 dx) :: (dx, cutDict w held' asked' k1 t1 k2 t2) :: tl) → OwnOff tl [fa, x, dx] → StepsIn tl vs sts → @Ne Nat x fa → @Ne Nat dx fa → Done g [x, dx] s.heap Q (.ref fa) { s with heap := h', toks := tk } := by
    intro fa vs nn tl k1 t1 k2 t2 h' tk m' F' N' ho hst n1 n2
    refine ⟨_, _, F', fun kk => h fa vs nn tl h' tk kk ⟨hne, (N' _ (.tail _ (.head _))).1, _, _, _, _, (N' _ (.tail _ (.tail _ (.head _)))).1⟩ ?_ hst fun p hp => ho p hp fa (.head _)⟩
    intro p hp
    rcases List.mem_cons.mp hp with rfl | hp
    · refine ⟨(N' _ (.head _)).1, ?_⟩
      rw [← hg fa (fun q => (List.mem_cons.mp q).elim (fun z => n1 z.symm) fun z => n2 (List.mem_singleton.mp z).symm)]
      exact (N' _ (.head _)).2.2
    · have hm := N' p (.tail _ (.tail _ (.tail _ hp)))
      refine ⟨hm.1, ?_⟩
      rw [← hg p.1 (fun q => (List.mem_cons.mp q).elim (fun z => ho p hp x (.tail _ (.head _)) z) fun z => ho p hp dx (.tail _ (.tail _ (.head _))) (List.mem_singleton.mp z))]
      exact hm.2.2
  clear h
  have hcase : (NextStep held asked none held' asked' ∧ sts = []) ∨ ∃ tag b h1 a1 l, NextStep held asked (some (tag, b)) h1 a1 ∧ Steps h1 a1 l held' asked' ∧ sts = (tag, b) :: l := by
    cases hS with
    | nil hN => exact .inl ⟨hN, rfl⟩
    | cons hN hR => exact .inr ⟨_, _, _, _, _, hN, hR, rfl⟩
  clear hS
  rcases hcase with ⟨hN, hs⟩ | ⟨tag, b, hh1, a1, l, hN, hR, hs⟩
  all_goals (
    have hl1 := hN.len
    show wpAny _ _ _ _ _ _
    k_fold
    k_steps
    rename Fr _ _ _ _ => F₁
    rename News _ _ _ _ => N₁
    show wpAny _ _ _ _ _ _)
  all_goals (first
  | refine While_inv2 (h₀ := g) (L := L') (StJ w x dx _ sts held' asked') (n₀ := sts.length) F₁ N₁ (stj0 (Nat.le_trans hN.len hl) hs rfl rfl rfl) ?_ PassesOwn.never
  | refine While_inv2 (h₀ := g) (L := L') (StJ w x dx _ sts held' asked') (n₀ := sts.length) F₁ (cb_drop N₁ (by kqd_sub)) (stj1 (Nat.le_trans hN.len hl) hR hs (by k_extra "ar") (by k_extra "ar") (by k_extra "ar") rfl rfl rfl) ?_ PassesOwn.never)
  all_goals (
    clear F₁ N₁ hN hs hl1
    try clear hR)
  all_goals (
    intro n m₁ nx hh tk₁ F₃ N₃ hJ9 
    refine hide fun X9 hX9 => ?_
    obtain ⟨vs, nn, tl, dn, hd1, ak1, q1, q2, q3, q4, rfl, ho, hst, hlh, y1, y2, hor⟩ := hJ9
    refine hX9 ?_
    clear hX9 X9
    have hvs := hst.length
    rcases hor with ⟨y3, rfl, rfl, rfl⟩ | ⟨a, t, t', tag, b, l, y3, hm, hs, hR, hn⟩)
  all_goals rw [known y1, known y2, known y3] at F₃
  all_goals (first
  | (clear hs
     done)
  | (k_steps
     exact st _ _ _ _ _ _ _ _ _ _ _ F₃ N₃ ho hst (by k_extra "ar") (by k_extra "ar"))
  | skip)
  all_goals (
    have hsl : sts.length = dn.length + (l.length + 1) := by rw [hs, List.length_append, List.length_cons]
    have hcase : (NextStep hd1 ak1 none held' asked' ∧ l = []) ∨ ∃ tag b h1 a1 r, NextStep hd1 ak1 (some (tag, b)) h1 a1 ∧ Steps h1 a1 r held' asked' ∧ l = (tag, b) :: r := by
      cases hR with
      | nil hN => exact .inl ⟨hN, rfl⟩
      | cons hN hR => exact .inr ⟨_, _, _, _, _, hN, hR, rfl⟩
    clear hR
    rcases hcase with ⟨hN, hl2⟩ | ⟨tag2, b2, h2, a2, r, hN, hR, hl2⟩)
  all_goals (
    have hl1 := hN.len
    k_steps)
  all_goals (
    rename Fr _ _ _ _ => Fe
    rename News _ _ _ _ => Ne)
  all_goals (first
  | exact ⟨_, _, _, _, 0, rfl, Fe, Ne, by k_extra "ar", vs ++ [.ref a], nn + 1, tl, dn ++ [(tag, b)], _, _, _, _, _, _, rfl, ho, hst.append (.cons hm .nil), by k_extra "ar", rfl, rfl, Or.inl ⟨rfl, by rw [hs, hl2], rfl, rfl⟩⟩
  | (rename (_ ∧ _ ∧ _ ∧ _) => hne1
     refine ⟨_, _, _, _, r.length + 1, rfl, Fe, cb_drop Ne (mem_turn _), by (rw [hn, hl2, List.length_cons]; k_extra "ar"), vs ++ [.ref a], nn + 1, _ :: tl, dn ++ [(tag, b)], _, _, _, _, _, _, rfl, ?_, ?_, ?_, rfl, rfl, ?_⟩
     · exact own_cons ho (_root_.Ne.symm hne1.1) (_root_.Ne.symm hne1.2.1) (_root_.Ne.symm hne1.2.2.1)
     · exact (hst.append (.cons hm .nil)).mono (fun p hp => .tail _ hp)
     · k_extra "ar"
     · exact Or.inr ⟨_, _, _, tag2, b2, r, rfl, List.Mem.head _, by simp [hs, hl2], hR, rfl⟩))
end
/-! text DrawK -/
section
theorem off_DrawK : True := by
  w_top off
  trivial
def CellsO (co : Obj) : Prop := ∃ vs xs n, co = PySem.W.listOf (List.toArray vs) n ∧ IntsAre vs xs ∧ xs.length ≤ 63
def CellsB (h : Heap) (cells : Addr) : Prop := ∃ vs xs, h.IsList cells (List.toArray vs) ∧ IntsAre vs xs ∧ xs.length ≤ 63

section
variable {w : World} {A : Around} {s : Shared} {base : Heap} {env : Env} {outer : List Env} {A₀ : Around} {h₀ : Heap} {L : Addr} {m : Str → Option Value} {mean : ExcName → Option Value} {mg mb : Str → Option Value} {news : List (Addr × Obj)} {gN : Obj → List (Addr × Obj)} {pen cells : Addr} {po co : Obj} {Bd limit : Int} {t : Tok} {Q E : Value → Shared → Prop}
theorem upd_news {h h' : Heap} {d : Addr} {o o' : Obj} (N : News h₀ L h news) (U : UpdF d o news gN) (kk : Kept [d] h h') (hd : h'.get? d = some o') : News h₀ L h' (gN o') := by
  obtain ⟨pre, post, rfl, hg, h1, h2⟩ := U.split
  rw [hg]
  intro p hp
  rcases List.mem_append.mp hp with hp | hp
  · have hm : p ∈ pre ++ (d, o) :: post := List.mem_append_left _ hp
    exact ⟨kk.same _ _ (N p hm).1 fun q => h1 p hp (List.mem_singleton.mp q), (N p hm).2⟩
  · rcases List.mem_cons.mp hp with rfl | hp
    · exact ⟨hd, (N (d, o) (List.mem_append_right _ (.head _))).2⟩
    · have hm : p ∈ pre ++ (d, o) :: post := List.mem_append_right _ (.tail _ hp)
      exact ⟨kk.same _ _ (N p hm).1 fun q => h2 p hp (List.mem_singleton.mp q), (N p hm).2⟩
theorem draw_core {vs : List Value} {xs : List Int}
    (F : Fr h₀ L s.heap m) (N : News h₀ L s.heap news) (B : Below A₀ base outer h₀) (X : (Mine.hd.heap_39 w.params).In h₀) (T : Top Mine.hd.view_39 (looseW Mine.hd.view_39 []) mean mg mb h₀) (hA : A.frames = some (env :: outer)) (hf : env.frame = some L) (hk : env.scope.kind = .function) (hh : A.handled = none)
    (hd : A.depth + 5 < recursionLimit) (hu : A.units + 60 < cLine) (U : UpdF pen po news gN) (hP : PenO cells Bd po) (hcl : s.heap.IsList cells (List.toArray vs)) (hi : IntsAre vs xs) (hlen : xs.length ≤ 63) (hne : cells ≠ pen) (hB : Bd < 10000) (hl : 0 < limit) (hl' : limit < 100000)
    (h : ∀ r t po' h' tk', 0 ≤ r → r < limit → PenO cells (Bd + 1) po' → Fr h₀ L h' m → News h₀ L h' (gN po') → Q (.int r t) { s with heap := h', toks := tk' }) :
    wpAny (model PySem.Challenge.rw_no0353_01.row.prog w) A (call (.ref 138) [.ref pen, .int limit t]) Q E s := by
  have md := updF_mem U
  have C : Ctx w A s.heap [pen] base env outer A₀ h₀ L m mean mg mb := ⟨B, F, X, T, hA, hf, hk, hh, fun a ha => by rw [List.mem_singleton.mp ha]; exact ⟨(N _ md).2.2, (N _ md).2.1⟩⟩
  exact draw_spec C hd hu (N _ md).1 hP hcl hi hlen hne hB hl hl' fun r t po' h' tk' r0 r1 kk ho hq => h r t po' h' tk' r0 r1 hq (C.fr kk) (upd_news N U kk ho)
theorem draw_Kb
    (F : Fr h₀ L s.heap m) (N : News h₀ L s.heap news) (B : Below A₀ base outer h₀) (X : (Mine.hd.heap_39 w.params).In h₀) (T : Top Mine.hd.view_39 (looseW Mine.hd.view_39 []) mean mg mb h₀) (hA : A.frames = some (env :: outer)) (hf : env.frame = some L) (hk : env.scope.kind = .function) (hh : A.handled = none)
    (hd : A.depth + 5 < recursionLimit) (hu : A.units + 60 < cLine) (U : UpdF pen po news gN) (hP : PenO cells Bd po) (hc : CellsB h₀ cells) (hB : Bd < 10000) (hl : 0 < limit) (hl' : limit < 100000)
    (h : ∀ r t po' h' tk', 0 ≤ r → r < limit → PenO cells (Bd + 1) po' → Fr h₀ L h' m → News h₀ L h' (gN po') → Q (.int r t) { s with heap := h', toks := tk' }) :
    wpAny (model PySem.Challenge.rw_no0353_01.row.prog w) A (call (.ref 138) [.ref pen, .int limit t]) Q E s := by
  obtain ⟨vs, xs, hcl, hi, hlen⟩ := hc
  refine draw_core F N B X T hA hf hk hh hd hu U hP (hcl.at fun o e => F.keep _ o e) hi hlen (fun e => ?_) hB hl hl' h
  obtain ⟨o, ho, _⟩ := hcl
  have := (N _ (updF_mem U)).2.2
  rw [← e, ho] at this
  cases this
theorem draw_Kl
    (F : Fr h₀ L s.heap m) (N : News h₀ L s.heap news) (B : Below A₀ base outer h₀) (X : (Mine.hd.heap_39 w.params).In h₀) (T : Top Mine.hd.view_39 (looseW Mine.hd.view_39 []) mean mg mb h₀) (hA : A.frames = some (env :: outer)) (hf : env.frame = some L) (hk : env.scope.kind = .function) (hh : A.handled = none)
    (hd : A.depth + 5 < recursionLimit) (hu : A.units + 60 < cLine) (U : UpdF pen po news gN) (hP : PenO cells Bd po) (hm : (cells, co) ∈ news) (hc : CellsO co) (hB : Bd < 10000) (hl : 0 < limit) (hl' : limit < 100000)
    (h : ∀ r t po' h' tk', 0 ≤ r → r < limit → PenO cells (Bd + 1) po' → Fr h₀ L h' m → News h₀ L h' (gN po') → Q (.int r t) { s with heap := h', toks := tk' }) :
    wpAny (model PySem.Challenge.rw_no0353_01.row.prog w) A (call (.ref 138) [.ref pen, .int limit t]) Q E s := by
  obtain ⟨vs, xs, n, rfl, hi, hlen⟩ := hc
  refine draw_core F N B X T hA hf hk hh hd hu U hP (PySem.IsL.isList (n := n) (N _ hm).1) hi hlen (fun e => ?_) hB hl hl' h
  obtain ⟨great, state, place, t1, t2, t3, n', rfl, _⟩ := hP
  have h1 := (N _ (updF_mem U)).1
  have h2 := (N _ hm).1
  rw [e] at h2
  rw [h1] at h2
  have h3 := congrArg (fun o : Option Obj => match o with | some ⟨_, _, .seq a _, _⟩ => a.toList | _ => []) h2
  simp only at h3
  rw [← h3] at hi
  cases hi
end
end
/-! text CompRule -/
section
theorem off_CompRule : True := by
  w_top off
  trivial
open LCg LCt
section
variable {prog : Program} {w : World} {A : Around} {h₀ : Heap} {L : Addr} {m : Str → Option Value} {env : Env} {ct elt : Expr} {x : Str} {scope : Scope} {cl : List (Str × Addr)} {s : Shared} {S : List (Addr × Obj) → Prop} {P : Nat → Value → Prop} {Fin : List Value → List (Addr × Obj) → Prop} {news : List (Addr × Obj)}
theorem rest_inv {n : Nat} (J : Nat → List Value → List (Addr × Obj) → Prop) (hj : J 0 [] news)
    (turn : ∀ i v ys nx I oI C oC D m₂ h tk (E' : Value → Shared → Prop), i < n → P i v → J i ys nx → NsObj oC m₂ → m₂ x = some v → Fr h₀ L h m → News h₀ L h ((I, oI) :: (C, oC) :: (D, lst ys) :: nx) → Off3 I C D nx → ((@Ne Nat I C) ∧ (@Ne Nat I D) ∧ (@Ne Nat C D)) →
      wpAny (model prog w) A (eval elt (compEnvC scope cl C env)) (CompEnd h₀ L m { s with heap := h, toks := tk } I oI C oC D (lst ys) S (fun y nx' => J (i + 1) (ys ++ [y]) nx')) E' { s with heap := h, toks := tk })
    (done : ∀ ys nx, J n ys nx → Fin ys nx) : CompRest prog w A h₀ L m env elt x scope cl s S P Fin n 0 [] news := by
  have key : ∀ (j i : Nat) (ys : List Value) (nx : List (Addr × Obj)), i + j = n → J i ys nx → CompRest prog w A h₀ L m env elt x scope cl s S P Fin j i ys nx := by
    intro j
    induction j with
    | zero =>
      intro i ys nx hi hJ
      have e : i = n := by omega
      subst e
      exact CompRest.zero (done _ _ hJ)
    | succ j ih =>
      intro i ys nx hi hJ
      refine CompRest.succ ?_
      intro v I oI C oC D m₂ h tk E' hv hC hx F N off ne
      refine wpAny_mono (turn i v ys nx I oI C oC D m₂ h tk E' (by omega) hv hJ hC hx F N off ne) (fun y s₂ hq => ?_) fun _ _ e => e
      obtain ⟨h', tk', nw, e, F', N', off', hS, hJ'⟩ := hq
      exact ⟨h', tk', nw, e, F', N', off', hS, ih (i + 1) _ _ (by omega) hJ'⟩
  exact key n 0 [] news (by omega) hj
theorem restT_inv {n : Nat} (J : Nat → List Value → List (Addr × Obj) → Prop) (hj : J 0 [] news)
    (turn : ∀ i v ys nx I oI C oC D m₂ h tk (E' : Value → Shared → Prop), i < n → P i v → J i ys nx → NsObj oC m₂ → m₂ x = some v → Fr h₀ L h m → News h₀ L h ((I, oI) :: (C, oC) :: (D, lst ys) :: nx) → Off3 I C D nx → ((@Ne Nat I C) ∧ (@Ne Nat I D) ∧ (@Ne Nat C D)) →
      wpAny (model prog w) A (isTrue ct (compEnvC scope cl C env) (eval ct (compEnvC scope cl C env))) (fun ok s' => if ok = true then
        wpAny (model prog w) A (eval elt (compEnvC scope cl C env)) (CompEnd h₀ L m { s with heap := h, toks := tk } I oI C oC D (lst ys) S (fun y nx' => J (i + 1) (ys ++ [y]) nx')) E' s'
        else CompEnd h₀ L m { s with heap := h, toks := tk } I oI C oC D (lst ys) S (fun _ nx' => J (i + 1) ys nx') Value.none s') E' { s with heap := h, toks := tk })
    (done : ∀ ys nx, J n ys nx → Fin ys nx) : CompRestT prog w A h₀ L m env ct elt x scope cl s S P Fin n 0 [] news := by
  have key : ∀ (j i : Nat) (ys : List Value) (nx : List (Addr × Obj)), i + j = n → J i ys nx → CompRestT prog w A h₀ L m env ct elt x scope cl s S P Fin j i ys nx := by
    intro j
    induction j with
    | zero =>
      intro i ys nx hi hJ
      have e : i = n := by omega
      subst e
      exact CompRestT.zero (done _ _ hJ)
    | succ j ih =>
      intro i ys nx hi hJ
      refine CompRestT.succ ?_
      intro v I oI C oC D m₂ h tk E' hv hC hx F N off ne
      refine wpAny_mono (turn i v ys nx I oI C oC D m₂ h tk E' (by omega) hv hJ hC hx F N off ne) (fun b s₂ hq => ?_) fun _ _ e => e
      cases b with
      | true =>
        simp only [if_true] at hq ⊢
        refine wpAny_mono hq (fun y s₃ hr => ?_) fun _ _ e => e
        obtain ⟨h', tk', nw, e, F', N', off', hS, hJ'⟩ := hr
        exact ⟨h', tk', nw, e, F', N', off', hS, ih (i + 1) _ _ (by omega) hJ'⟩
      | false =>
        simp only [Bool.false_eq_true, if_false] at hq ⊢
        obtain ⟨h', tk', nw, e, F', N', off', hS, hJ'⟩ := hq
        exact ⟨h', tk', nw, e, F', N', off', hS, ih (i + 1) _ _ (by omega) hJ'⟩
  exact key n 0 [] news (by omega) hj
end

theorem kw_CompRule_1 : True := by
  k_with "own eval ListComp" =>
    (k_here; lcg_look; k_dflt (refine LCg.ListComp_U (F₀ := by k_asm) (by with_unfolding_all rfl) (by decide) (by rfl) (by decide) (by rfl) ?_))
  k_with "own exec Assign cons ListComp" =>
    (k_here; lcg_look; k_dflt (refine LCg.Assign_ListComp_U (F₀ := by k_asm) (by rfl) (by with_unfolding_all rfl) (by with_unfolding_all rfl) (by decide) (by rfl) (by decide) (by rfl) (by rfl) (by rfl) ?_))
  k_with "own eval ListComp" =>
    (k_here; lcf_look; k_dflt (refine LCg.ListComp_U (F₀ := by k_asm) (by with_unfolding_all rfl) (by decide) (by rfl) (by decide) (by rfl) ?_))
  k_with "own exec Assign cons ListComp" =>
    (k_here; lcf_look; k_dflt (refine LCg.Assign_ListComp_U (F₀ := by k_asm) (by rfl) (by with_unfolding_all rfl) (by with_unfolding_all rfl) (by decide) (by rfl) (by decide) (by rfl) (by rfl) (by rfl) ?_))
  k_with "own eval ListComp" =>
    (k_here; lct_look; k_dflt (refine LCt.ListComp_T (F₀ := by k_asm) (by with_unfolding_all rfl) (by decide) (by rfl) (by decide) (by rfl) ?_))
  k_with "own exec Assign cons ListComp" =>
    (k_here; lct_look; k_dflt (refine LCt.Assign_ListComp_T (F₀ := by k_asm) (by rfl) (by with_unfolding_all rfl) (by with_unfolding_all rfl) (by decide) (by rfl) (by decide) (by rfl) (by rfl) (by rfl) ?_))
  k_with "own CompSrc" =>
    (k_here; k_dflt (first
    | (refine LCg.CompSrc.ledger (by rfl) (by k_asm) (by k_asm) (by k_mem) (by rw [List.size_toArray, PySem.sizeLine_eq]; (first | omega | (simp only [List.length_append, List.length_cons, List.length_nil, List.length_map]; omega))) ?_; intro g'; refine Stop.out ?_)
    | (refine LCg.CompSrc.base (by rfl) (by k_asm) (by k_asm) (by assumption) (by rw [List.size_toArray, PySem.sizeLine_eq]; (first | omega | (simp only [List.length_append, List.length_cons, List.length_nil, List.length_map]; omega))) ?_; intro g'; refine Stop.out ?_)
    | (refine LCg.CompSrc.range (by rfl) (by k_asm) (by k_asm) (by assumption) (small_one (by omega) (by omega) (by omega) (by omega)) (rangeSize_nat _ _) (by rw [PySem.sizeLine_eq]; omega) ?_; intro g'; refine Stop.out ?_)))
  k_with "own CompSrcT" =>
    (k_here; k_dflt (first
    | (refine LCt.CompSrcT.ledger (by rfl) (by k_asm) (by k_asm) (by k_mem) (by rw [List.size_toArray, PySem.sizeLine_eq]; (first | omega | (simp only [List.length_append, List.length_cons, List.length_nil, List.length_map]; omega))) ?_; intro g'; refine Stop.out ?_)
    | (refine LCt.CompSrcT.base (by rfl) (by k_asm) (by k_asm) (by assumption) (by rw [List.size_toArray, PySem.sizeLine_eq]; (first | omega | (simp only [List.length_append, List.length_cons, List.length_nil, List.length_map]; omega))) ?_; intro g'; refine Stop.out ?_)
    | (refine LCt.CompSrcT.range (by rfl) (by k_asm) (by k_asm) (by assumption) (small_one (by omega) (by omega) (by omega) (by omega)) (rangeSize_nat _ _) (by rw [PySem.sizeLine_eq]; omega) ?_; intro g'; refine Stop.out ?_)))
  trivial

/-- values that are these bytes, one for one -/
inductive BytesIn : List Value → List Bs → Prop
  | nil : BytesIn [] []
  | cons {b : Bs} {t : Tok} {vs : List Value} {bs : List Bs} : BytesIn vs bs → BytesIn (.bytes b.toArray t :: vs) (b :: bs)
theorem BytesIn.append {vs ws : List Value} {bs cs : List Bs} (h : BytesIn vs bs) (k : BytesIn ws cs) : BytesIn (vs ++ ws) (bs ++ cs) := by
  induction h with
  | nil => exact k
  | cons _ ih => exact .cons ih
theorem BytesIn.length {vs : List Value} {bs : List Bs} (h : BytesIn vs bs) : vs.length = bs.length := by
  induction h with
  | nil => rfl
  | cons _ ih => simp [ih]
theorem BytesIn.at {vs : List Value} {bs : List Bs} (h : BytesIn vs bs) : ∀ {i : Nat} {v : Value}, vs[i]? = some v → ∃ b t, v = .bytes b.toArray t ∧ bs[i]? = some b := by
  induction h with
  | nil => intro i v e; cases e
  | cons _ ih =>
    intro i v e
    cases i with
    | zero => cases e; exact ⟨_, _, rfl, rfl⟩
    | succ i => exact ih e
theorem BytesIn.consA {a : Array UInt8} {t : Tok} {vs : List Value} {bs : List Bs} (h : BytesIn vs bs) : BytesIn (.bytes a t :: vs) (a.toList :: bs) := .cons h
theorem BytesIn.one {b : Bs} {t : Tok} : BytesIn [.bytes b.toArray t] [b] := .cons .nil
end
/-! text LoopRules -/
section
theorem off_LoopRules : True := by
  w_top off
  trivial
theorem stop_post {α : Type} {M : Model} {A : Around} {e : Sem α} {Q : α → Shared → Prop} {E : Value → Shared → Prop} {s : Shared} (h : wpAny M A e (fun v s => Stop (Q v s)) E s) : wpAny M A e Q E s := h
theorem PenO.mono {cells : Addr} {B B' : Int} {po : Obj} (h : PenO cells B po) (l : B ≤ B') : PenO cells B' po := by
  obtain ⟨a, b, c, t1, t2, t3, n, e, h1, h2, h3, h4, h5⟩ := h
  exact ⟨a, b, c, t1, t2, t3, n, e, h1, h2, h3, h4, Int.le_trans h5 l⟩
section
variable {prog : Program} {w : World} {A : Around} {E : Value → Shared → Prop} {s : Shared} {env : Env} {h₀ : Heap} {nm : Str} {body : List Stmt} {Q : Flow → Shared → Prop}
theorem iter_rangeG {r : Addr} {a₀ b₀ : Int} {t₀ u₀ v₀ : Tok} {n : Nat} {m₀ : Str → Option Value} {news : List (Addr × Obj)} (J : Nat → (Str → Option Value) → List (Addr × Obj) → Prop)
    (hh : A.handled = none) (hr : IsRange s.heap r a₀ b₀ 1 t₀ u₀ v₀) (hsmall : Builtin.Range.small a₀ b₀ 1 = true) (hsz : Builtin.Range.rangeSize a₀ b₀ 1 = (n : Int)) (F : Fr h₀ env.locals s.heap m₀) (N : News h₀ env.locals s.heap news) (hj : J 0 m₀ news)
    (turn : ∀ i t m₁ nx h tk own, i < n → OwnOff own (nx.map (·.1)) → J i m₁ nx → Fr h₀ env.locals h (fun y => if y = nm then some (.int (a₀ + (i : Int)) t) else m₁ y) → News h₀ env.locals h (nx ++ own) →
      wpAny (model prog w) A (execs body env) (InvPostG h₀ env.locals (J (i + 1)) own { s with heap := h, toks := tk } Q) E { s with heap := h, toks := tk })
    (done : ∀ m₁ nx h tk, J n m₁ nx → Fr h₀ env.locals h m₁ → News h₀ env.locals h nx → Q .next { s with heap := h, toks := tk }) :
    wpAny (model prog w) A (pyIter (.ref r)) (fun it s₂ => LoopAtV prog w A h₀ env nm body Q E it s₂) E s := by
  refine wpAny_pyIter_range hr hsmall ?_
  have W : Walks prog w A s.heap.objs.size [s.heap.objs.size] [s.heap.objs.size] n (fun i v => i < n ∧ ∃ t, v = .int (a₀ + i * 1) t)
      (fun i h => IsRangeIter h s.heap.objs.size (a₀ + (i : Nat) * 1) ((n : Int) - (i : Nat)) 1) := (Walks.range hh _ a₀ 1 n).bound
  refine kdr_loop J W (fun _ h => h) (fun _ h => h) ?_ ?_ ?_ ?_ (by show IsRangeIter _ _ _ _ _; rw [hsz]; simpa using Heap.get?_push_size _ rfl) (F.push _) (fun p hp => ⟨Heap.get?_push_of_some _ (N p hp).1, (N p hp).2⟩) hj ?_ ?_
  · intro i h hi b hb
    rw [List.mem_singleton.mp hb]
    exact ⟨_, hi⟩
  · intro hm
    exact absurd F.ns.lt ((List.mem_singleton.mp hm) ▸ Nat.lt_irrefl _)
  · intro b hb
    rw [List.mem_singleton.mp hb]
    exact next_is_new F
  · intro p hp hI
    exact absurd (Heap.lt_size (N p hp).1) ((List.mem_singleton.mp hI) ▸ Nat.lt_irrefl _)
  · rintro i v m₁ nx h tk own hi ⟨_, t, rfl⟩ hoff hJ F₁ N₁
    have e1 : a₀ + (i : Int) * 1 = a₀ + (i : Int) := by k_extra "ar"
    rw [e1] at F₁
    exact turn i t m₁ nx h tk own hi hoff hJ F₁ N₁
  · intro m₁ nx h tk hJ F₁ N₁
    exact done m₁ nx h tk hJ F₁ N₁
end
section
variable {prog : Program} {w : World} {A : Around} {E : Value → Shared → Prop} {s : Shared} {h₀ : Heap} {L l : Addr} {m : Str → Option Value} {news news' : List (Addr × Obj)} {vs : List Value} {n : Nat} {x : Value} {Q : Value → Shared → Prop}
/-- an item of a ledger list at a bounded place -/
theorem item_led {value slice : Expr} {k : Int} {u : Tok} (N : News h₀ L s.heap news) (hm : (l, PySem.W.listOf (List.toArray vs) n) ∈ news) (h0 : 0 ≤ k) (h1 : k < (vs.length : Int)) (hfit : k < 1000000) (h : ∀ v, vs[k.toNat]? = some v → Q v s)
    (hs : subscripted slice false (.ref l) (.int k u) = operate [.ref l, .int k u] (getItem (.ref l) (.int k u)) := by with_unfolding_all rfl) (hg : ∀ r, letTemporaryGo value (.ref l) r = pure () := by intro _; with_unfolding_all rfl) :
    wpAny (model prog w) A (subscriptTail value slice (.ref l) (.int k u)) Q E s := by
  have hk : k.toNat < vs.length := by k_extra "ar"
  exact item_listL (PySem.IsL.isList (n := n) (N _ hm).1) h0 (by k_extra "ar") (List.getElem?_eq_getElem hk) (h _ (List.getElem?_eq_getElem hk)) hs hg
theorem item_bytes {value slice : Expr} {k : Int} {u : Tok} {bs : List Bs} (N : News h₀ L s.heap news) (hm : (l, PySem.W.listOf (List.toArray vs) n) ∈ news) (hB : BytesIn vs bs) (h0 : 0 ≤ k) (h1 : k < (bs.length : Int)) (hfit : k < 1000000) (h : ∀ b t, b ∈ bs → Q (.bytes (List.toArray b) t) s)
    (hs : subscripted slice false (.ref l) (.int k u) = operate [.ref l, .int k u] (getItem (.ref l) (.int k u)) := by with_unfolding_all rfl) (hg : ∀ r, letTemporaryGo value (.ref l) r = pure () := by intro _; with_unfolding_all rfl) :
    wpAny (model prog w) A (subscriptTail value slice (.ref l) (.int k u)) Q E s :=
  item_led N hm h0 (by rw [hB.length]; exact h1) hfit (fun v hv => by
    obtain ⟨b, t, rfl, e⟩ := hB.at hv
    exact h b t (List.mem_of_getElem? e)) hs hg
end
end
/-! text Join -/
section
theorem off_Join : True := by
  w_top off
  trivial
open Builtin Bytes
theorem take_eq (b : Array UInt8) (t : Tok) : takeBufferQuiet? "bytes.join" (.bytes b t) 0 = pure (some (b, none)) := by kernel_rfl
noncomputable def pick1 {β : Type} (arr : Array Value) (f : Value → β) (g : β) : β := match arr with | #[x] => f x | _ => g
theorem pick1_b {β : Type} (arr : Array Value) (h : 2 ≤ arr.size) (f : Value → β) (g : β) : pick1 arr f g = g := by
  delta pick1
  delta pick1.match_1
  have : ¬ arr.size = 1 := by k_extra "ar"
  rw [dif_neg this]
theorem wp_pick1 {M : Model} {A : Around} {E : Value → Shared → Prop} {s : Shared} {β : Type} {arr : Array Value} (h : 2 ≤ arr.size) {f : Value → Sem β} {g : Sem β} {Q : β → Shared → Prop} (hw : wpAny M A g Q E s) : wpAny M A (pick1 arr f g) Q E s := by
  rw [pick1_b arr h]
  exact hw
theorem slot_bjoin : Slot "bytes" "join" "bytes.join" :=
  .of (owner := "bytes") (n := "join") (by rw [typeLookup_type, builtinLookup_eq_fast]; kernel_rfl) (by decide +kernel) (by decide +kernel) (by decide +kernel)
    (by first | exact .inl (by decide +kernel) | exact .inr (by decide +kernel)) (by rw [isSubtype_type]; kernel_rfl)
theorem type_bjoin : typeOf (.builtin "bytes.join") = pure (.type "method_descriptor") := by show builtinType _ = _; rw [builtinType_eq_fast]; kernel_rfl
theorem entry_bjoin : entryFor table "bytes.join" = some Builtin.«bytes.join» := entryFor_of_tree (by kernel_rfl)
theorem args_bjoin (a b : Value) : argsOk "bytes.join" ⟨[a, b], []⟩ := by
  unfold argsOk; rw [signature?_of (id := "bytes.join") (n := ['n', 'i', 'o', 'j']) (o := ['s', 'e', 't', 'y', 'b']) (by kernel_rfl) FB.owner_bytes]; kernel_rfl
theorem foldl_sizes0 (bs : List Bs) : ∀ n, List.foldl (fun x y => x + Array.size y) n (List.map List.toArray bs) = n + bs.flatten.length := by
  induction bs with
  | nil => intro n; simp
  | cons b r ih =>
    intro n
    rw [List.map_cons, List.foldl_cons, ih, List.flatten_cons, List.length_append, List.size_toArray]
    k_extra "ar"
theorem joined_is (bs : List Bs) : joined #[] (bs.map List.toArray) = bs.flatten.toArray := by
  have key : ∀ (k : Nat) (out : Bs), ((bs.map List.toArray).zipIdx k).foldl (fun out (p, i) => (if i > 0 then out ++ (#[] : Array UInt8) else out) ++ p) out.toArray = (out ++ bs.flatten).toArray := by
    induction bs with
    | nil => intro k out; simp
    | cons b r ih =>
      intro k out
      simp only [List.map_cons, List.zipIdx_cons, List.foldl_cons]
      have e : (if k > 0 then out.toArray ++ (#[] : Array UInt8) else out.toArray) ++ b.toArray = (out ++ b).toArray := by split <;> simp
      rw [e, ih]
      simp
  exact key 0 []
theorem joinLetGo_run {M : Model} {A : Around} {E : Value → Shared → Prop} {s : Shared} {Q : Unit → Shared → Prop} : ∀ (l : List (Value × Option Value)) (keep : List Value), (∀ p ∈ l, p.1.onHeap = false ∧ p.2 = none) → Q () s → wpAny M A (joinLetGo l keep) Q E s
  | [], _, _, h => wpAny_pure h
  | (x, w) :: r, keep, hp, h => by
    have e : w = none := (hp _ (.head _)).2
    subst e
    unfold joinLetGo
    dsimp only
    exact wpAny_bind (wpAny_letGo (joinLetGo_run r keep (fun p q => hp p (.tail _ q)) h))
theorem join_run {prog : Program} {w : World} {A : Around} {R : Result → Shared → Prop} {s : Shared} {t : Tok} {l : Addr} {vs : List Value} {bs : List Bs} (hl : s.heap.IsList l vs.toArray) (hB : BytesIn vs bs) (h2 : 2 ≤ bs.length) (hs : bs.flatten.length ≤ 1000000)
    (h : ∀ t' k', R (.ok (.ret (.bytes bs.flatten.toArray t'))) { s with toks := k' }) :
    wpAny (model prog w) A («bytes.join» ⟨[.bytes #[] t, .ref l], []⟩) (fun fin s' => ∃ v, fin = Fin.done (Flow.ret v) ∧ R (Except.ok (Flow.ret v)) s') (fun e s' => R (Except.error e) s') s := by
  unfold «bytes.join» joinM
  refine wpAny_bind (wpAny_of_eq (a := (Value.bytes #[] t, Value.ref l)) (by kernel_rfl) ?_)
  dsimp only
  obtain ⟨o, ho, hc, n, hdata⟩ := hl
  have hT : s.heap.IsList l vs.toArray := ⟨o, ho, hc, n, hdata⟩
  refine wpAny_bind ?_
  show wpAny _ _ (joinItems (.ref l)) _ _ s
  unfold joinItems
  refine wpAny_bind (wpAny_typeOf hT.typeIs ?_)
  refine wpAny_pure ?_
  refine wpAny_bind (wpAny_seqItems ho hdata ?_)
  dsimp only
  rw [if_pos (by rfl : (Kind.bytes == Kind.bytes) = true)]
  have hlen := hB.length
  have hasz : 2 ≤ vs.toArray.size := by rw [List.size_toArray, hlen]; exact h2
  refine wp_pick1 hasz ?_
  refine wpAny_bind ?_
  rw [Std.Legacy.Range.forIn_eq_forIn_range']
  refine wpAny_forIn_list _ (fun (r : List Nat) (b : Array (Array UInt8) × List (Value × Option Value)) s' => s' = s ∧ ∃ i, r = List.range' i (vs.length - i) ∧ i ≤ vs.length ∧ b.1 = ((bs.take i).map List.toArray).toArray ∧ ∀ p ∈ b.2, p.1.onHeap = false ∧ p.2 = none) _ ?_ ?_ _ _ ⟨rfl, 0, ?_, Nat.zero_le _, rfl, fun _ h => nomatch h⟩
  · rintro i rest ⟨parts, taken⟩ s' hJ9
    refine hide fun X9 hX9 => ?_
    obtain ⟨rfl, i', hr, hi, hp, ht⟩ := hJ9
    dsimp only at hp ht
    have hii : i' = i ∧ rest = List.range' (i + 1) (vs.length - (i + 1)) ∧ i < vs.length := by
      cases hk : vs.length - i' with
      | zero => rw [hk] at hr; cases hr
      | succ k =>
        rw [hk] at hr
        rw [List.range'_succ] at hr
        injection hr with e1 e2
        subst e1
        refine ⟨rfl, ?_, by k_extra "ar"⟩
        rw [e2]
        congr 1
        k_extra "ar"
    obtain ⟨rfl, rfl, hlt⟩ := hii
    obtain ⟨b, tb, hv, hb⟩ := hB.at (List.getElem?_eq_getElem hlt)
    refine hX9 ?_
    clear hX9 X9
    dsimp only
    have hget : vs.toArray.getD i' Value.none = .bytes b.toArray tb := by
      rw [← hv]
      simp [hlt]
    have hany : taken.any (fun x => x.1.onHeap) = false := List.any_eq_false.mpr fun p hp => by rw [(ht p hp).1]; decide
    refine wpAny_bind (wpAny_seqItems ho hdata ?_)
    dsimp only
    rw [hget, hany]
    rw [if_neg (by decide)]
    refine wpAny_bind (wpAny_holding (wpAny_of_eq (take_eq _ _) ?_))
    dsimp only
    refine wpAny_bind (wpAny_seqItems ho hdata ?_)
    dsimp only
    rw [if_neg (by simp)]
    refine wpAny_pure ?_
    dsimp only
    refine ⟨rfl, i' + 1, rfl, hlt, ?_, ?_⟩
    · rw [hp, List.take_add_one, hb]
      simp
    · intro p hp
      rcases List.mem_append.mp hp with hp | hp
      · exact ht p hp
      · rw [List.mem_singleton.mp hp]
        exact ⟨rfl, rfl⟩
  · rintro ⟨parts, taken⟩ s' hJ9
    refine hide fun X9 hX9 => ?_
    obtain ⟨rfl, i, hr, hi, hp, ht⟩ := hJ9
    refine hX9 ?_
    clear hX9 X9
    have hi' : i = vs.length := by
      cases hk : vs.length - i with
      | zero => k_extra "ar"
      | succ k => rw [hk, List.range'_succ] at hr; cases hr
    dsimp only at hp ht ⊢
    rw [hi', hlen, List.take_length] at hp
    subst hp
    refine wpAny_bind (wpAny_of_eq (a := #[]) rfl ?_)
    have hsz : ((List.map List.toArray bs).toArray.foldl (· + ·.size) ((#[] : Array UInt8).size * ((List.map List.toArray bs).toArray.size - 1))) = bs.flatten.length := by
      rw [List.foldl_toArray, foldl_sizes0]
      simp
    have hno : ¬ (tooLong ((List.map List.toArray bs).toArray.foldl (· + ·.size) ((#[] : Array UInt8).size * ((List.map List.toArray bs).toArray.size - 1))) = true) := by
      rw [hsz]
      unfold tooLong
      rw [decide_eq_true_eq, PySem.sizeLine_eq]
      k_extra "ar"
    rw [if_neg hno]
    refine wpAny_bind ?_
    show wpAny _ _ (mkBytes _) _ _ _
    refine wpAny_mkBytes ?_ ?_
    · refine wpAny_bind (wpAny_holding (wpAny_point ?_))
      refine wpAny_bind (joinLetGo_run _ _ ht ?_)
      refine wpAny_pure ⟨_, rfl, ?_⟩
      rw [List.toList_toArray, joined_is]
      exact h _ _
    · rw [List.toList_toArray, joined_is, PySem.sizeLine_eq, List.size_toArray]
      k_extra "ar"
  · simp
theorem meets_bjoin {l : Addr} {t : Tok} {vs : List Value} {bs : List Bs} (hB : BytesIn vs bs) (h2 : 2 ≤ bs.length) (hs : bs.flatten.length ≤ 1000000) :
    Meets («bytes.join» ⟨[.bytes #[] t, .ref l], []⟩) (fun _ R s => s.heap.IsList l vs.toArray ∧ ∀ t' k', R (.ok (.ret (.bytes bs.flatten.toArray t'))) { s with toks := k' }) :=
  .of_wp fun prog w A R s h => join_run h.1 hB h2 hs h.2
section
variable {prog : Program} {w : World} {A : Around} {E : Value → Shared → Prop} {s : Shared} {t u : Tok} {Q : Value → Shared → Prop} {h₀ : Heap} {L l : Addr} {news : List (Addr × Obj)} {vs : List Value} {bs : List Bs} {n : Nat}
theorem join_led (N : News h₀ L s.heap news) (hm : (l, PySem.W.listOf (List.toArray vs) n) ∈ news) (hB : BytesIn vs bs) (h2 : 2 ≤ bs.length) (hs : bs.flatten.length ≤ 1000000) (h : ∀ t' k', Q (.bytes bs.flatten.toArray t') { s with toks := k' }) : wpAny (model prog w) A (call (.builtin "bytes.join") [.bytes #[] t, .ref l]) Q E s :=
  call_meets slot_bjoin (typeIs_bytes _ _ _) entry_bjoin (args_bjoin _ _) (meets_bjoin hB h2 hs) ⟨PySem.IsL.isList (n := n) (N _ hm).1, h⟩
theorem method_bjoin {M : Model} {b : Array UInt8} {pl : Sem Bool} {Q : Value × List Value → Shared → Prop} (h : Q (.builtin "bytes.join", [.bytes b t]) s) : wpAny M A (getMethod (.bytes b t) "join" pl) Q E s := by
  with_reducible exact KBd.method_of (.bytes b t) (typeIs_bytes _ _ _) slot_bjoin type_bjoin KBd.noRef h
end
theorem enc_eq {n : Nat} (hn : n < 10) (t u : Tok) : «str.encode» ⟨[.str (PySem.Str.ofString (toString (n : Int))) t, .str (PySem.Str.ofString "ascii") u], []⟩ = (mkBytes #[48 + n.toUInt8] >>= fun v => ret v) := by
  match n, hn with
  | 0, _ => kernel_rfl
  | 1, _ => kernel_rfl
  | 2, _ => kernel_rfl
  | 3, _ => kernel_rfl
  | 4, _ => kernel_rfl
  | 5, _ => kernel_rfl
  | 6, _ => kernel_rfl
  | 7, _ => kernel_rfl
  | 8, _ => kernel_rfl
  | 9, _ => kernel_rfl
theorem meets_enc {n : Nat} (hn : n < 10) (t u : Tok) :
    Meets («str.encode» ⟨[.str (PySem.Str.ofString (toString (n : Int))) t, .str (PySem.Str.ofString "ascii") u], []⟩) (fun _ R s => ∀ t' k', R (.ok (.ret (.bytes (List.toArray [48 + n.toUInt8]) t'))) { s with toks := k' }) :=
  .of_wp fun prog w A R s h => by
    rw [enc_eq hn]
    exact wpAny_bind (wpAny_mkBytes (wpAny_pure ⟨_, rfl, h _ _⟩) (by rw [PySem.sizeLine_eq]; exact (by decide : 1 ≤ 16777216)))
section
variable {prog : Program} {w : World} {A : Around} {E : Value → Shared → Prop} {s : Shared} {t u : Tok} {Q : Value → Shared → Prop} {n : Nat}
theorem enc_K (hn : n < 10) (h : ∀ t' k', Q (.bytes (List.toArray [48 + n.toUInt8]) t') { s with toks := k' }) : wpAny (model prog w) A (call (.builtin "str.encode") [.str (PySem.Str.ofString (toString (n : Int))) t, .str (PySem.Str.ofString "ascii") u]) Q E s :=
  call_meets PySem.F.slot_str_encode (typeIs_str _ _ _) PySem.F.entry_str_encode (PySem.F.args_str_encode_2 _ _) (meets_enc hn t u) h
theorem method_enc {M : Model} {x : PySem.Str} {pl : Sem Bool} {Q : Value × List Value → Shared → Prop} (h : Q (.builtin "str.encode", [.str x t]) s) : wpAny M A (getMethod (.str x t) "encode" pl) Q E s := by
  with_reducible exact GM.of (.str x t) (typeIs_str _ _ _) PySem.F.slot_str_encode PySem.F.type_str_encode GM.noRef h
end
theorem len7 {b : Bs} {bs : List Bs} (h : b ∈ bs) (e : bs.all (fun b => decide (b.length ≤ 8)) = true) : b.length ≤ 8 := by
  have := List.all_eq_true.mp e b h
  simpa using this
end
/-! text CompMap -/
section
theorem off_CompMap : True := by
  w_top off
  trivial
open LCg LCt
section
variable {prog : Program} {w : World} {A : Around} {h₀ : Heap} {L : Addr} {m : Str → Option Value} {env : Env} {ct elt : Expr} {x : Str} {scope : Scope} {cl : List (Str × Addr)} {s : Shared} {S : List (Addr × Obj) → Prop} {P : Nat → Value → Prop} {Fin : List Value → List (Addr × Obj) → Prop} {news : List (Addr × Obj)}
/-- a comprehension without a test that changes nothing: item i is a G i -/
theorem rest_map {n : Nat} (G : Nat → Value → Prop)
    (turn : ∀ i v ys I oI C oC D m₂ h tk (E' : Value → Shared → Prop), i < n → P i v → NsObj oC m₂ → m₂ x = some v → Fr h₀ L h m → News h₀ L h ((I, oI) :: (C, oC) :: (D, lst ys) :: news) → Off3 I C D news → ((@Ne Nat I C) ∧ (@Ne Nat I D) ∧ (@Ne Nat C D)) →
      wpAny (model prog w) A (eval elt (compEnvC scope cl C env)) (CompEnd h₀ L m { s with heap := h, toks := tk } I oI C oC D (lst ys) S (fun y nx' => nx' = news ∧ G i y)) E' { s with heap := h, toks := tk })
    (done : ∀ ys, ys.length = n → (∀ i y, ys[i]? = some y → G i y) → Fin ys news) : CompRest prog w A h₀ L m env elt x scope cl s S P Fin n 0 [] news := by
  refine rest_inv (fun i ys nx => nx = news ∧ ys.length = i ∧ ∀ j y, ys[j]? = some y → G j y) ⟨rfl, rfl, fun j y e => by cases e⟩ ?_ ?_
  · rintro i v ys nx I oI C oC D m₂ h tk E' hi hv ⟨rfl, hl, hG⟩ hC hx F N off ne
    refine wpAny_mono (turn i v ys I oI C oC D m₂ h tk E' hi hv hC hx F N off ne) (fun y s₂ hq => ?_) fun _ _ e => e
    obtain ⟨h', tk', nw, e, F', N', off', hS, hn, hy⟩ := hq
    refine ⟨h', tk', nw, e, F', N', off', hS, hn, by simp [hl], fun j z hz => ?_⟩
    rcases Nat.lt_trichotomy j ys.length with q | q | q
    · rw [List.getElem?_append_left q] at hz
      exact hG j z hz
    · subst q
      rw [List.getElem?_append_right (Nat.le_refl _), Nat.sub_self] at hz
      cases hz
      rw [hl]
      exact hy
    · rw [List.getElem?_eq_none (by simp; k_extra "ar")] at hz
      cases hz
  · rintro ys nx ⟨rfl, hl, hG⟩
    exact done ys hl hG
end
theorem ints_of {ys : List Value} {xs : List Int} (hl : ys.length = xs.length) (h : ∀ i y, ys[i]? = some y → ∃ t, y = Value.int (xs.getD i 0) t) : IntsAre ys xs := by
  induction ys generalizing xs with
  | nil =>
    cases xs with
    | nil => exact .nil
    | cons _ _ => cases hl
  | cons y ys ih =>
    cases xs with
    | nil => cases hl
    | cons a xs =>
      obtain ⟨t, e⟩ := h 0 y rfl
      rw [e]
      exact .cons _ _ (ih (by simpa using hl) fun i z hz => h (i + 1) z hz)
section
variable {prog : Program} {w : World} {A : Around} {h₀ : Heap} {L : Addr} {m : Str → Option Value} {env : Env} {elt : Expr} {x : Str} {scope : Scope} {cl : List (Str × Addr)} {s : Shared} {S : List (Addr × Obj) → Prop} {Fin : List Value → List (Addr × Obj) → Prop} {news : List (Addr × Obj)}
/-- the lengths of bytes -/
theorem rest_lens {vs : List Value} {bs : List Bs} (hB : BytesIn vs bs)
    (turn : ∀ (i : Nat) (b : Bs) (tb : Tok) (ys : List Value) I oI C oC D m₂ h tk (E' : Value → Shared → Prop), bs[i]? = some b → NsObj oC m₂ → m₂ x = some (.bytes b.toArray tb) → Fr h₀ L h m → News h₀ L h ((I, oI) :: (C, oC) :: (D, lst ys) :: news) → Off3 I C D news → ((@Ne Nat I C) ∧ (@Ne Nat I D) ∧ (@Ne Nat C D)) →
      wpAny (model prog w) A (eval elt (compEnvC scope cl C env)) (CompEnd h₀ L m { s with heap := h, toks := tk } I oI C oC D (lst ys) S (fun y nx' => nx' = news ∧ ∃ t, y = Value.int (b.length : Int) t)) E' { s with heap := h, toks := tk })
    (done : ∀ ys, IntsAre ys (bs.map fun b => (b.length : Int)) → Fin ys news) : CompRest prog w A h₀ L m env elt x scope cl s S (fun i v => (List.toArray vs)[i]? = some v) Fin (List.toArray vs).size 0 [] news := by
  refine rest_map (fun i y => ∃ t, y = Value.int ((bs.map fun b => (b.length : Int)).getD i 0) t) ?_ ?_
  · intro i v ys I oI C oC D m₂ h tk E' hi hv hC hx F N off ne
    rw [List.getElem?_toArray] at hv
    obtain ⟨b, tb, rfl, hb⟩ := hB.at hv
    have e : (bs.map fun b => (b.length : Int)).getD i 0 = (b.length : Int) := by
      rw [List.getD_eq_getElem?_getD, List.getElem?_map, hb]
      rfl
    rw [e]
    exact turn i b tb ys I oI C oC D m₂ h tk E' hb hC hx F N off ne
  · intro ys hl hG
    exact done ys (ints_of (by rw [hl, List.size_toArray, List.length_map, hB.length]) hG)
end
theorem len_all {acc : List Bs} {b1 hd bb : Bs} {i : Nat} (h1 : ∀ b ∈ acc, b.length ≤ 8) (h2 : b1.length ≤ 8) (h3 : hd.length ≤ 8) (h : (acc ++ [b1] ++ [hd])[i]? = some bb) : bb.length ≤ 8 := by
  have := List.mem_of_getElem? h
  simp only [List.mem_append, List.mem_singleton] at this
  rcases this with (q | rfl) | rfl
  · exact h1 _ q
  · exact h2
  · exact h3
end
/-! text Pure -/
section
theorem off_Pure : True := by
  w_top off
  trivial
/-- the head of a literal of n octets -/
noncomputable def headB (n : Nat) (w : Bool) : Bs := [32, 123, 48 + n.toUInt8] ++ (if w then [125] else [43, 125]) ++ [13, 10]
def NoCR (t : Bs) : Prop := (13 : UInt8) ∉ t
/-- a text that does not end as the head of a literal does -/
def Plain (t : Bs) : Prop := t = [] ∨ ∃ u a z, t = u ++ [a, z] ∧ (z ≠ 125 ∨ a = 32)

/-- the octets of a command from a line's begin on, and where in them its waiting heads end -/
inductive Com : Bs → List Nat → Prop
  | last {t : Bs} : NoCR t → Plain t → Com (t ++ [13, 10]) []
  | lit {t ins rest : Bs} {w : Bool} {hs : List Nat} : NoCR t → ins.length < 10 → Com rest hs →
      Com (t ++ headB ins.length w ++ ins ++ rest) ((if w then [(t ++ headB ins.length w).length] else []) ++ hs.map (· + (t ++ headB ins.length w ++ ins).length))
def Pre (c : Bs) (heads : List Nat) : Prop := ∀ r hs, Com r hs → Com (c ++ r) (heads ++ hs.map (· + c.length))
theorem Pre.nil : Pre [] [] := fun r hs h => by
  have e : hs.map (· + ([] : Bs).length) = hs := by simp
  rw [e]
  exact h
theorem Pre.lit {c t ins : Bs} {w : Bool} {heads : List Nat} (h : Pre c heads) (ht : NoCR t) (hi : ins.length < 10) :
    Pre (c ++ (t ++ headB ins.length w ++ ins)) (heads ++ if w then [(c ++ (t ++ headB ins.length w)).length] else []) := fun r hs hr => by
  have := h _ _ (Com.lit (w := w) ht hi hr)
  have e : c ++ (t ++ headB ins.length w ++ ins) ++ r = c ++ (t ++ headB ins.length w ++ ins ++ r) := by simp
  have e2 : heads ++ (if w then [(c ++ (t ++ headB ins.length w)).length] else []) ++ hs.map (· + (c ++ (t ++ headB ins.length w ++ ins)).length) =
      heads ++ ((if w then [(t ++ headB ins.length w).length] else []) ++ hs.map (· + (t ++ headB ins.length w ++ ins).length)).map (· + c.length) := by
    rw [List.append_assoc]
    congr 1
    rw [List.map_append, List.map_map]
    congr 1
    · cases w
      · rfl
      · simp only [if_true, List.map_cons, List.map_nil, List.length_append]
        congr 1
        k_extra "ar"
    · refine List.map_congr_left fun a _ => ?_
      simp only [Function.comp, List.length_append]
      k_extra "ar"
  rw [e, e2]
  exact this
abbrev bitsL : List Bs := [[97, 32, 78, 79, 79, 80], [32, 120], [32, 34, 123, 51, 125, 34], [32, 40, 70, 76, 65, 71, 83, 41], [32, 123, 48, 125, 120], [32, 125]]
abbrev insidesL : List Bs := [[], [97, 98], [120, 13, 10, 121], [123, 50, 125, 13, 10], [125, 13]]

/-- the pieces so far: acc; hs: the waiting heads so far -/
def Part (turn : Int) (acc : List Bs) (hs : List Nat) : Prop := ∃ c t : Bs, acc.flatten = c ++ t ∧ Pre c hs ∧ NoCR t ∧ Plain t ∧ ∃ r, acc.flatten = [116, (48 + turn).toNat.toUInt8, 32] ++ r

theorem plain_bit {t b : Bs} (hb : b ∈ bitsL) : Plain (t ++ b) := by
  have key : ∀ b ∈ bitsL, ∃ u a z, b = u ++ [a, z] ∧ (z ≠ 125 ∨ a = 32) := by
    intro b hb
    simp only [bitsL, List.mem_cons, List.not_mem_nil, or_false] at hb
    rcases hb with rfl | rfl | rfl | rfl | rfl | rfl
    · exact ⟨[97, 32, 78, 79], 79, 80, rfl, .inl (by decide)⟩
    · exact ⟨[], 32, 120, rfl, .inl (by decide)⟩
    · exact ⟨[32, 34, 123, 51], 125, 34, rfl, .inl (by decide)⟩
    · exact ⟨[32, 40, 70, 76, 65, 71], 83, 41, rfl, .inl (by decide)⟩
    · exact ⟨[32, 123, 48], 125, 120, rfl, .inl (by decide)⟩
    · exact ⟨[], 32, 125, rfl, .inr rfl⟩
  obtain ⟨u, a, z, rfl, h⟩ := key b hb
  exact .inr ⟨t ++ u, a, z, by simp, h⟩
theorem nocr_bit {t b : Bs} (ht : NoCR t) (hb : b ∈ bitsL) : NoCR (t ++ b) := by
  intro h
  rcases List.mem_append.mp h with h | h
  · exact ht h
  · have : (bitsL.all fun b => decide ((13 : UInt8) ∉ b)) = true := by decide
    have := List.all_eq_true.mp this b hb
    exact (of_decide_eq_true this) h
theorem Part.start {turn : Int} (h0 : 0 ≤ turn) (h5 : turn < 5) : Part turn [[116, (48 + turn).toNat.toUInt8, 32]] [] := by
  refine ⟨[], [116, (48 + turn).toNat.toUInt8, 32], rfl, Pre.nil, ?_, .inr ⟨[116], _, 32, rfl, .inl (by decide)⟩, [], rfl⟩
  obtain ⟨k, rfl⟩ := Int.eq_ofNat_of_zero_le h0
  have hk : k < 5 := by k_extra "ar"
  have key : ∀ k : Nat, k < 5 → (13 : UInt8) ∉ ([116, (48 + (k : Int)).toNat.toUInt8, 32] : Bs) := by decide
  exact key k hk
theorem Part.bit {turn : Int} {acc : List Bs} {hs : List Nat} {b : Bs} (h : Part turn acc hs) (hb : b ∈ bitsL) : Part turn (acc ++ [b]) hs := by
  obtain ⟨c, t, e, hp, hn, hpl, r, er⟩ := h
  exact ⟨c, t ++ b, by simp [e], hp, nocr_bit hn hb, plain_bit hb, r ++ b, by rw [List.flatten_append, er]; simp⟩
theorem Part.lit {turn : Int} {acc : List Bs} {hs : List Nat} {ins : Bs} {w : Bool} (h : Part turn acc hs) (hi : ins.length < 10) :
    Part turn (acc ++ [headB ins.length w] ++ [ins]) (hs ++ if w then [(acc ++ [headB ins.length w]).flatten.length] else []) := by
  obtain ⟨c, t, e, hp, hn, hpl, r, er⟩ := h
  refine ⟨c ++ (t ++ headB ins.length w ++ ins), [], by simp [e], ?_, (fun h => nomatch h), .inl rfl, r ++ headB ins.length w ++ ins, ?_⟩
  rotate_left
  · rw [List.flatten_append, List.flatten_append, er]
    simp
  have := hp.lit (w := w) hn hi
  have e3 : (acc ++ [headB ins.length w]).flatten = c ++ (t ++ headB ins.length w) := by simp [e]
  rw [e3]
  exact this

def CmdOf (turn : Int) (o : Bs) (hs : List Nat) : Prop := Com o hs ∧ ∃ r, o = [116, (48 + turn).toNat.toUInt8, 32] ++ r
theorem Part.fin {turn : Int} {acc : List Bs} {hs : List Nat} (h : Part turn acc hs) : CmdOf turn (acc.flatten ++ [13, 10]) hs := by
  obtain ⟨c, t, e, hp, hn, hpl, r, er⟩ := h
  refine ⟨?_, r ++ [13, 10], by rw [er]; simp⟩
  have := hp _ _ (Com.last hn hpl)
  rw [e, List.append_assoc]
  simpa using this
theorem Part.lit_t {turn : Int} {acc : List Bs} {hs : List Nat} {ins : Bs} (h : Part turn acc hs) (hi : ins.length < 10) :
    Part turn (acc ++ [headB ins.length true] ++ [ins]) (hs ++ [(acc ++ [headB ins.length true]).flatten.length]) := h.lit (w := true) hi
theorem Part.lit_f {turn : Int} {acc : List Bs} {hs : List Nat} {ins : Bs} (h : Part turn acc hs) (hi : ins.length < 10) :
    Part turn (acc ++ [headB ins.length false] ++ [ins]) hs := by
  have := h.lit (w := false) hi
  simpa using this
theorem sum_lens (l : List Bs) : (l.map fun b => (b.length : Int)).sum = (l.flatten.length : Int) := by
  induction l with
  | nil => rfl
  | cons b r ih =>
    rw [List.map_cons, List.sum_cons, ih, List.flatten_cons, List.length_append]
    k_extra "ar"
theorem all_snoc {P : Bs → Prop} {acc : List Bs} {x : Bs} (h : ∀ b ∈ acc, P b) (hx : P x) : ∀ b ∈ acc ++ [x], P b := by
  intro b hb
  rcases List.mem_append.mp hb with q | q
  · exact h b q
  · rw [List.mem_singleton.mp q]
    exact hx
theorem flat_len {k : Nat} (l : List Bs) (h : ∀ b ∈ l, b.length ≤ k) : l.flatten.length ≤ k * l.length := by
  induction l with
  | nil => simp
  | cons b r ih =>
    rw [List.flatten_cons, List.length_append, List.length_cons]
    have h1 := h b (.head _)
    have h2 := ih fun b q => h b (.tail _ q)
    have e : k * (r.length + 1) = k * r.length + k := by rw [Nat.mul_add, Nat.mul_one]
    k_extra "ar"
theorem ints_nats {hv : List PySem.Value} {hs : List Nat} {t : PySem.Tok} {n : Int} {k : Nat} (h : PyProof.Rows.IntsAre hv (hs.map fun n : Nat => (n : Int))) (e : n = (k : Int)) : PyProof.Rows.IntsAre (hv ++ [.int n t]) ((hs ++ [k]).map fun n : Nat => (n : Int)) := by
  rw [List.map_append, e]
  exact PyProof.Rows.IntsAre.append h (.cons _ _ .nil)
end
/-! text Law1 -/
section
theorem off_Law1 : True := by
  w_top off
  trivial
theorem getD_mid (p l z : Bs) (i : Nat) (h : i < l.length) : (p ++ l ++ z).getD (p.length + i) 0 = l.getD i 0 := by
  simp only [List.getD_eq_getElem?_getD]
  rw [List.append_assoc, List.getElem?_append_right (by (first | lia | omega)), List.getElem?_append_left (by (first | lia | omega))]
  congr 2
  (first | lia | omega)
theorem get_mid (p l : Bs) (i : Nat) (h : p.length ≤ i) : (p ++ l)[i]? = l[i - p.length]? := List.getElem?_append_right h

theorem nocr_at {t : Bs} (h : NoCR t) (i : Nat) : t[i]? ≠ some 13 := fun e => h (List.mem_of_getElem? e)

theorem findCR_line {t : Bs} (h : NoCR t) (p z : Bs) : findCR (p ++ (t ++ [13, 10]) ++ z) p.length = some (p.length + t.length) := by
  refine findCR_is (by (first | lia | omega)) ?_ ?_ ?_
  · rw [List.append_assoc, get_mid _ _ _ (by (first | lia | omega))]
    simp
  · rw [List.append_assoc, get_mid _ _ _ (by (first | lia | omega))]
    have e : p.length + t.length + 1 - p.length = t.length + 1 := by (first | lia | omega)
    rw [e]
    simp
  · intro j h1 h2 ⟨h3, _⟩
    rw [List.append_assoc, get_mid _ _ _ h1, List.append_assoc, List.getElem?_append_left (by (first | lia | omega))] at h3
    exact nocr_at h _ h3
theorem findCR_part {t : Bs} (h : NoCR t) (p : Bs) {n : Nat} (hn : n < t.length + 2) : findCR (p ++ (t ++ [13, 10]).take n) p.length = none := by
  refine findCR_no ?_
  intro j h1 ⟨h3, h4⟩
  rw [get_mid _ _ _ h1] at h3
  rw [get_mid _ _ _ (by (first | lia | omega))] at h4
  rw [List.getElem?_take] at h3 h4
  split at h4
  · rename_i q
    rw [if_pos (by (first | lia | omega))] at h3
    have : j - p.length < t.length := by (first | lia | omega)
    rw [List.getElem?_append_left this] at h3
    exact nocr_at h _ h3
  · cases h4

theorem backF_not {x : Bs} {b n : Nat} (h : isFig (x.getD n 0) = false) : backF x b (n + 1) = n + 1 := backF_stop x (.inr h)

theorem headI_plain {t : Bs} (h : Plain t) (p z : Bs) : headI (p ++ t ++ z) p.length (p.length + t.length) = none := by
  rcases h with rfl | ⟨u, a, y, rfl, h⟩
  · unfold headI
    rw [if_pos (by simp)]
  · have l2 : (u ++ [a, y]).length = u.length + 2 := by simp
    have g1 : (p ++ (u ++ [a, y]) ++ z).getD (p.length + u.length + 1) 0 = y := by
      have := getD_mid p (u ++ [a, y]) z (u.length + 1) (by (first | lia | omega))
      rw [← Nat.add_assoc] at this
      rw [this]
      simp [List.getD_eq_getElem?_getD]
    have g0 : (p ++ (u ++ [a, y]) ++ z).getD (p.length + u.length) 0 = a := by
      rw [getD_mid p (u ++ [a, y]) z u.length (by (first | lia | omega))]
      simp [List.getD_eq_getElem?_getD]
    have e1 : p.length + (u ++ [a, y]).length - 1 = p.length + u.length + 1 := by (first | lia | omega)
    have e2 : p.length + (u ++ [a, y]).length - 2 = p.length + u.length := by (first | lia | omega)
    unfold headI
    rw [if_neg (by (first | lia | omega)), e1, e2, g1, g0]
    by_cases hy : y = 125
    · have ha : a = 32 := h.elim (fun q => absurd hy q) id
      subst ha hy
      rw [if_neg (by decide), if_pos (.inr (by decide))]
      unfold tailI
      rw [backF_not (by rw [g0]; decide)]
      dsimp only
      rw [if_pos (.inr (.inl (by rw [Nat.add_sub_cancel, g0]; decide)))]
    · rw [if_pos hy]

theorem digit {n : Nat} (h : n < 10) : isFig (48 + n.toUInt8) = true ∧ (48 + n.toUInt8 : UInt8) ≠ 43 ∧ numF [48 + n.toUInt8] = (n : Int) := by
  have key : ∀ n : Nat, n < 10 → isFig (48 + n.toUInt8) = true ∧ (48 + n.toUInt8 : UInt8) ≠ 43 ∧ numF [48 + n.toUInt8] = (n : Int) := by decide
  exact key n h
theorem cut_mid (p u z : Bs) (d : UInt8) : cut (p ++ (u ++ [d]) ++ z) (p.length + u.length) (p.length + u.length + 1) = [d] := by
  unfold cut
  have : p ++ (u ++ [d]) ++ z = (p ++ u) ++ ([d] ++ z) := by simp
  rw [this]
  have e : p.length + u.length = (p ++ u).length := by simp
  rw [e, List.drop_left]
  simp
theorem tailI_head {n : Nat} (hn : n < 10) (p u z : Bs) (w : Bool) : tailI (p ++ (u ++ [32, 123, 48 + n.toUInt8]) ++ z) p.length (p.length + u.length + 3) w = some ((n : Int), w) := by
  obtain ⟨d1, d2, d3⟩ := digit hn
  generalize (48 + n.toUInt8 : UInt8) = d at *
  have g (i : Nat) (hi : i < 3) : (p ++ (u ++ [32, 123, d]) ++ z).getD (p.length + u.length + i) 0 = [32, 123, d].getD i 0 := by
    have := getD_mid p (u ++ [32, 123, d]) z (u.length + i) (by simp; (first | lia | omega))
    rw [← Nat.add_assoc] at this
    rw [this]
    simp only [List.getD_eq_getElem?_getD]
    rw [List.getElem?_append_right (by (first | lia | omega))]
    congr 2
    (first | lia | omega)
  have b : backF (p ++ (u ++ [32, 123, d]) ++ z) p.length (p.length + u.length + 3) = p.length + u.length + 2 := by
    rw [backF_step _ (by (first | lia | omega)) (by rw [g 2 (by (first | lia | omega))]; exact d1), backF_not]
    rw [g 1 (by (first | lia | omega))]
    rfl
  unfold tailI
  rw [b]
  dsimp only
  have e : p.length + u.length + 2 - 1 = p.length + u.length + 1 := by (first | lia | omega)
  rw [e, g 1 (by (first | lia | omega))]
  rw [if_neg (by
    intro q
    rcases q with q | q | q
    · (first | lia | omega)
    · exact q rfl
    · (first | lia | omega))]
  have := cut_mid p (u ++ [32, 123]) z d
  simp only [List.append_assoc, List.length_append, List.length_cons, List.length_nil] at this ⊢
  rw [show p.length + u.length + 2 = p.length + (u.length + (0 + 1 + 1)) by (first | lia | omega), show p.length + u.length + 3 = p.length + (u.length + (0 + 1 + 1)) + 1 by (first | lia | omega)]
  simp only [List.cons_append, List.nil_append] at this ⊢
  rw [this, d3]

theorem headB_len (n : Nat) (w : Bool) : (headB n w).length = if w then 6 else 7 := by cases w <;> rfl
/-- a line that ends as the head of a literal -/
theorem headI_head {n : Nat} (hn : n < 10) (p t z : Bs) (w : Bool) : headI (p ++ (t ++ headB n w) ++ z) p.length (p.length + (t ++ headB n w).length - 2) = some ((n : Int), w) := by
  cases w with
  | true =>
    have el : p.length + (t ++ headB n true).length - 2 = p.length + t.length + 4 := by simp [headB]; (first | lia | omega)
    have ex : p ++ (t ++ headB n true) ++ z = p ++ (t ++ [32, 123, 48 + n.toUInt8]) ++ ([125, 13, 10] ++ z) := by simp [headB]
    have g3 : (p ++ (t ++ headB n true) ++ z).getD (p.length + t.length + 3) 0 = 125 := by
      have := getD_mid p (t ++ headB n true) z (t.length + 3) (by simp [headB])
      rw [← Nat.add_assoc] at this
      rw [this]
      simp [headB, List.getD_eq_getElem?_getD]
    have g2 : (p ++ (t ++ headB n true) ++ z).getD (p.length + t.length + 2) 0 = 48 + n.toUInt8 := by
      have := getD_mid p (t ++ headB n true) z (t.length + 2) (by simp [headB])
      rw [← Nat.add_assoc] at this
      rw [this]
      simp [headB, List.getD_eq_getElem?_getD]
    rw [el]
    unfold headI
    rw [if_neg (by (first | lia | omega))]
    have e1 : p.length + t.length + 4 - 1 = p.length + t.length + 3 := by (first | lia | omega)
    have e2 : p.length + t.length + 4 - 2 = p.length + t.length + 2 := by (first | lia | omega)
    rw [e1, e2, g3, g2, if_neg (by decide), if_pos (.inr (digit hn).2.1), ex]
    exact tailI_head hn p t _ true
  | false =>
    have el : p.length + (t ++ headB n false).length - 2 = p.length + t.length + 5 := by simp [headB]; (first | lia | omega)
    have ex : p ++ (t ++ headB n false) ++ z = p ++ (t ++ [32, 123, 48 + n.toUInt8]) ++ ([43, 125, 13, 10] ++ z) := by simp [headB]
    have g3 : (p ++ (t ++ headB n false) ++ z).getD (p.length + t.length + 4) 0 = 125 := by
      have := getD_mid p (t ++ headB n false) z (t.length + 4) (by simp [headB])
      rw [← Nat.add_assoc] at this
      rw [this]
      simp [headB, List.getD_eq_getElem?_getD]
    have g2 : (p ++ (t ++ headB n false) ++ z).getD (p.length + t.length + 3) 0 = 43 := by
      have := getD_mid p (t ++ headB n false) z (t.length + 3) (by simp [headB])
      rw [← Nat.add_assoc] at this
      rw [this]
      simp [headB, List.getD_eq_getElem?_getD]
    rw [el]
    unfold headI
    rw [if_neg (by (first | lia | omega))]
    have e1 : p.length + t.length + 5 - 1 = p.length + t.length + 4 := by (first | lia | omega)
    have e2 : p.length + t.length + 5 - 2 = p.length + t.length + 3 := by (first | lia | omega)
    rw [e1, e2, g3, g2, if_neg (by decide), if_neg (by
      intro q
      rcases q with q | q
      · (first | lia | omega)
      · exact q rfl), ex]
    exact tailI_head hn p t _ false

/-- the head's line, its end apart -/
noncomputable def headL (n : Nat) (w : Bool) : Bs := [32, 123, 48 + n.toUInt8] ++ (if w then [125] else [43, 125])
theorem headB_eq (n : Nat) (w : Bool) : headB n w = headL n w ++ [13, 10] := by cases w <;> rfl
theorem nocr_head {t : Bs} {n : Nat} {w : Bool} (h : NoCR t) (hn : n < 10) : NoCR (t ++ headL n w) := by
  intro q
  rcases List.mem_append.mp q with q | q
  · exact h q
  · have key : ∀ n : Nat, n < 10 → ∀ w : Bool, (13 : UInt8) ∉ headL n w := by decide
    exact key n hn w q

theorem Com.pos {o : Bs} {hs : List Nat} (h : Com o hs) : 2 ≤ o.length := by
  cases h with
  | last _ _ => simp
  | lit _ _ hr => 
    rename_i rest _ _ _ _
    rename Com _ _ => hr
    have : ∀ {o : Bs} {hs : List Nat}, Com o hs → 2 ≤ o.length := by
      intro o hs h
      induction h with
      | last _ _ => simp
      | lit _ _ _ ih => simp only [List.length_append]; (first | lia | omega)
    have := this hr
    simp only [List.length_append]
    (first | lia | omega)
theorem Com.heads {o : Bs} {hs : List Nat} (h : Com o hs) : ∀ m ∈ hs, 0 < m ∧ m < o.length := by
  induction h with
  | last _ _ => intro m hm; cases hm
  | lit ht hi hr ih =>
    rename_i t ins rest w hs
    have hp := hr.pos
    have hb : 6 ≤ (headB ins.length w).length := by rw [headB_len]; split <;> (first | lia | omega)
    intro m hm
    simp only [List.length_append] at hm ⊢
    rcases List.mem_append.mp hm with hm | hm
    · cases w with
      | true => simp only [if_true, List.mem_singleton] at hm; (first | lia | omega)
      | false => simp at hm
    · obtain ⟨a, ha, rfl⟩ := List.mem_map.mp hm
      have := ih a ha
      (first | lia | omega)
theorem Com.whole {o : Bs} {hs : List Nat} (h : Com o hs) : ∀ p z : Bs, CmdEnd (p ++ o ++ z) p.length ((p.length + o.length : Nat) : Int) none := by
  induction h with
  | last ht hpl =>
    rename_i t
    intro p z
    have h1 := findCR_line ht p z
    have h2 := headI_plain hpl p ([13, 10] ++ z)
    have ex : p ++ t ++ ([13, 10] ++ z) = p ++ (t ++ [13, 10]) ++ z := by simp
    rw [ex] at h2
    have := CmdEnd.fin h1 h2
    have e : (((p.length + t.length : Nat) : Int) + 2) = ((p.length + (t ++ [13, 10]).length : Nat) : Int) := by simp; (first | lia | omega)
    rw [← e]
    exact this
  | lit ht hi hr ih =>
    rename_i t ins rest w hs
    intro p z
    have h1 := findCR_line (nocr_head (w := w) ht hi) p (ins ++ rest ++ z)
    have h2 := headI_head hi p t (ins ++ rest ++ z) w
    have ex1 : p ++ (t ++ headL ins.length w ++ [13, 10]) ++ (ins ++ rest ++ z) = p ++ (t ++ headB ins.length w ++ ins ++ rest) ++ z := by simp [headB_eq]
    have ex2 : p ++ (t ++ headB ins.length w) ++ (ins ++ rest ++ z) = p ++ (t ++ headB ins.length w ++ ins ++ rest) ++ z := by simp
    rw [ex1] at h1
    rw [ex2] at h2
    have hL : (headB ins.length w).length = (headL ins.length w).length + 2 := by rw [headB_eq]; simp
    have el : p.length + (t ++ headB ins.length w).length - 2 = p.length + (t ++ headL ins.length w).length := by simp only [List.length_append]; (first | lia | omega)
    rw [el] at h2
    have hp := hr.pos
    refine CmdEnd.next h1 h2 ?_ ?_ ?_
    · simp only [List.length_append]; (first | lia | omega)
    · simp only [List.length_append]; (first | lia | omega)
    · have := ih (p ++ (t ++ headB ins.length w ++ ins)) z
      have e1 : p ++ (t ++ headB ins.length w ++ ins) ++ rest ++ z = p ++ (t ++ headB ins.length w ++ ins ++ rest) ++ z := by simp
      have e2 : (p ++ (t ++ headB ins.length w ++ ins)).length = p.length + (t ++ headL ins.length w).length + 2 + ins.length := by simp only [List.length_append]; (first | lia | omega)
      have e3 : ((p ++ (t ++ headB ins.length w ++ ins)).length + rest.length : Nat) = p.length + (t ++ headB ins.length w ++ ins ++ rest).length := by simp only [List.length_append]; (first | lia | omega)
      rw [e1, e3, e2] at this
      exact this
/-- a command that has not wholly come -/
theorem Com.part {o : Bs} {hs : List Nat} (h : Com o hs) : ∀ (p : Bs) (n : Nat), n < o.length →
    (n ∈ hs → ∃ k : Int, k ≤ 1000000 ∧ CmdEnd (p ++ o.take n) p.length (-1) (some (k, true))) ∧ (n ∉ hs → CmdEnd (p ++ o.take n) p.length (-1) none ∨ ∃ k, CmdEnd (p ++ o.take n) p.length (-1) (some (k, false))) := by
  induction h with
  | last ht hpl =>
    rename_i t
    intro p n hn
    exact ⟨(fun q => nomatch q), fun _ => .inl (.opn (findCR_part ht p (by simpa using hn)))⟩
  | lit ht hi hr ih =>
    rename_i t ins rest w hs
    intro p n hn
    have hL : (headB ins.length w).length = (headL ins.length w).length + 2 := by rw [headB_eq]; simp
    have hpos := hr.heads
    have hb : (t ++ headB ins.length w).length = t.length + (headB ins.length w).length := List.length_append
    have hb2 : (t ++ headB ins.length w ++ ins).length = t.length + (headB ins.length w).length + ins.length := by simp only [List.length_append]
    have hb3 : (t ++ headB ins.length w ++ ins ++ rest).length = t.length + (headB ins.length w).length + ins.length + rest.length := by simp only [List.length_append]
    rcases Nat.lt_trichotomy n (t.length + (headB ins.length w).length) with hlt | heq | hgt
    · refine ⟨fun q => ?_, fun _ => .inl (.opn ?_)⟩
      · exfalso
        rcases List.mem_append.mp q with q | q
        · cases w with
          | true => simp only [if_true, List.mem_singleton] at q; (first | lia | omega)
          | false => simp at q
        · obtain ⟨a, ha, rfl⟩ := List.mem_map.mp q
          (first | lia | omega)
      · have e : (t ++ headB ins.length w ++ ins ++ rest).take n = (t ++ headL ins.length w ++ [13, 10]).take n := by
          rw [List.append_assoc, List.take_append_of_le_length (by (first | lia | omega)), headB_eq]
          simp
        rw [e]
        exact findCR_part (nocr_head ht hi) p (by simp only [List.length_append]; (first | lia | omega))
    · have e : (t ++ headB ins.length w ++ ins ++ rest).take n = t ++ headB ins.length w := by
        rw [List.append_assoc, List.take_append_of_le_length (by (first | lia | omega)), heq, ← hb, List.take_length]
      have h1 := findCR_line (nocr_head (w := w) ht hi) p []
      have h2 := headI_head hi p t [] w
      have ex1 : p ++ (t ++ headL ins.length w ++ [13, 10]) ++ [] = p ++ (t ++ headB ins.length w) := by simp [headB_eq]
      rw [ex1] at h1
      rw [List.append_nil] at h2
      have el : p.length + (t ++ headB ins.length w).length - 2 = p.length + (t ++ headL ins.length w).length := by simp only [List.length_append]; (first | lia | omega)
      rw [el] at h2
      rw [e]
      have hc := CmdEnd.wait h1 h2 (by simp only [List.length_append]; (first | lia | omega))
      cases w with
      | true => exact ⟨fun _ => ⟨_, by (first | lia | omega), hc⟩, fun q => absurd (List.mem_append_left _ (by simp only [if_true, List.mem_singleton]; (first | lia | omega))) q⟩
      | false =>
        refine ⟨fun q => ?_, fun _ => .inr ⟨_, hc⟩⟩
        exfalso
        rcases List.mem_append.mp q with q | q
        · simp at q
        · obtain ⟨a, ha, rfl⟩ := List.mem_map.mp q
          have := hpos a ha
          (first | lia | omega)
    · have hin : n ∈ (if w then [(t ++ headB ins.length w).length] else []) ++ hs.map (· + (t ++ headB ins.length w ++ ins).length) ↔ (t ++ headB ins.length w ++ ins).length ≤ n ∧ n - (t ++ headB ins.length w ++ ins).length ∈ hs := by
        constructor
        · intro q
          rcases List.mem_append.mp q with q | q
          · cases w with
            | true => simp only [if_true, List.mem_singleton] at q; (first | lia | omega)
            | false => simp at q
          · obtain ⟨a, ha, rfl⟩ := List.mem_map.mp q
            exact ⟨by (first | lia | omega), by rw [Nat.add_sub_cancel]; exact ha⟩
        · rintro ⟨q1, q2⟩
          exact List.mem_append_right _ (List.mem_map.mpr ⟨_, q2, by (first | lia | omega)⟩)
      have et : (t ++ headB ins.length w ++ ins ++ rest).take n = t ++ headB ins.length w ++ (ins ++ rest).take (n - (t.length + (headB ins.length w).length)) := by
        rw [List.append_assoc, List.take_append, hb, List.take_of_length_le (by (first | lia | omega))]
      have h1 := findCR_line (nocr_head (w := w) ht hi) p ((ins ++ rest).take (n - (t.length + (headB ins.length w).length)))
      have h2 := headI_head hi p t ((ins ++ rest).take (n - (t.length + (headB ins.length w).length))) w
      have ex1 : p ++ (t ++ headL ins.length w ++ [13, 10]) ++ ((ins ++ rest).take (n - (t.length + (headB ins.length w).length))) = p ++ (t ++ headB ins.length w ++ ins ++ rest).take n := by rw [et]; simp [headB_eq]
      have ex2 : p ++ (t ++ headB ins.length w) ++ ((ins ++ rest).take (n - (t.length + (headB ins.length w).length))) = p ++ (t ++ headB ins.length w ++ ins ++ rest).take n := by rw [et]; simp
      rw [ex1] at h1
      rw [ex2] at h2
      have el : p.length + (t ++ headB ins.length w).length - 2 = p.length + (t ++ headL ins.length w).length := by simp only [List.length_append]; (first | lia | omega)
      rw [el] at h2
      have hxl : (p ++ (t ++ headB ins.length w ++ ins ++ rest).take n).length = p.length + n := by
        rw [List.length_append, List.length_take, Nat.min_eq_left (by (first | lia | omega))]
      have hf2 : p.length + (t ++ headL ins.length w).length + 2 = p.length + (t.length + (headB ins.length w).length) := by simp only [List.length_append]; (first | lia | omega)
      rw [hin]
      by_cases hge : (t ++ headB ins.length w ++ ins).length ≤ n
      · have hn' : n - (t ++ headB ins.length w ++ ins).length < rest.length := by (first | lia | omega)
        obtain ⟨i1, i2⟩ := ih (p ++ (t ++ headB ins.length w ++ ins)) _ hn'
        have e1 : p ++ (t ++ headB ins.length w ++ ins) ++ rest.take (n - (t ++ headB ins.length w ++ ins).length) = p ++ (t ++ headB ins.length w ++ ins ++ rest).take n := by
          rw [List.take_append, List.take_of_length_le hge]
          simp
        have e2 : (p ++ (t ++ headB ins.length w ++ ins)).length = p.length + (t ++ headL ins.length w).length + 2 + ins.length := by
          rw [List.length_append]; (first | lia | omega)
        rw [e1, e2] at i1 i2
        have step : ∀ {e : Int} {r : Option (Int × Bool)}, CmdEnd (p ++ (t ++ headB ins.length w ++ ins ++ rest).take n) (p.length + (t ++ headL ins.length w).length + 2 + ins.length) e r → CmdEnd (p ++ (t ++ headB ins.length w ++ ins ++ rest).take n) p.length e r := fun hc =>
          CmdEnd.next h1 h2 (by rw [hxl]; (first | lia | omega)) (by rw [hxl]; (first | lia | omega)) hc
        refine ⟨fun q => ?_, fun q => ?_⟩
        · obtain ⟨k, hk, hc⟩ := i1 q.2
          exact ⟨k, hk, step hc⟩
        · rcases i2 (fun r => q ⟨hge, r⟩) with hc | ⟨k, hc⟩
          · exact .inl (step hc)
          · exact .inr ⟨k, step hc⟩
      · refine ⟨fun q => absurd q.1 hge, fun _ => .inl (CmdEnd.over h1 h2 ?_ ?_)⟩
        · rw [hxl]; (first | lia | omega)
        · rw [hxl]; (first | lia | omega)
end
/-! text Law2 -/
section
theorem off_Law2 : True := by
  w_top off
  trivial
abbrev Cmd := Bs × List Nat
noncomputable def octs (p : List Cmd) : Bs := (p.map (·.1)).flatten
noncomputable def Placed : List Cmd → List Nat
  | [] => []
  | (o, hs) :: r => hs ++ (Placed r).map (· + o.length)
def AllCom (p : List Cmd) : Prop := ∀ c ∈ p, Com c.1 c.2
abbrev cmdS (c : Cmd) : Step := (Str.ofString "command", c.1)
abbrev askS : Step := (Str.ofString "ask", [])

theorem octs_nil : octs [] = [] := rfl
theorem octs_cons (c : Cmd) (r : List Cmd) : octs (c :: r) = c.1 ++ octs r := rfl
theorem octs_append (p q : List Cmd) : octs (p ++ q) = octs p ++ octs q := by simp [octs]
theorem placed_snoc (p : List Cmd) (o : Bs) (hs : List Nat) : Placed (p ++ [(o, hs)]) = Placed p ++ hs.map (· + (octs p).length) := by
  induction p with
  | nil => simp [Placed, octs]
  | cons c r ih =>
    obtain ⟨o', hs'⟩ := c
    rw [List.cons_append, Placed, ih, Placed, octs_cons, List.map_append, List.map_map, List.append_assoc]
    congr 2
    refine List.map_congr_left fun a _ => ?_
    simp only [Function.comp, List.length_append]
    (first | lia | omega)
theorem placed_bound {p : List Cmd} (h : AllCom p) : ∀ m ∈ Placed p, 0 < m ∧ m < (octs p).length := by
  induction p with
  | nil => intro m hm; cases hm
  | cons c r ih =>
    obtain ⟨o, hs⟩ := c
    intro m hm
    have hc := h _ (.head _)
    have hr := ih fun c q => h c (.tail _ q)
    rw [octs_cons, List.length_append]
    rcases List.mem_append.mp hm with hm | hm
    · have := hc.heads m hm
      (first | lia | omega)
    · obtain ⟨a, ha, rfl⟩ := List.mem_map.mp hm
      have := hr a ha
      have := hc.pos
      dsimp only
      (first | lia | omega)
theorem placed_append {p q : List Cmd} : Placed (p ++ q) = Placed p ++ (Placed q).map (· + (octs p).length) := by
  induction p with
  | nil => simp [Placed, octs]
  | cons c r ih =>
    obtain ⟨o', hs'⟩ := c
    rw [List.cons_append, Placed, ih, Placed, octs_cons, List.map_append, List.map_map, List.append_assoc]
    congr 2
    refine List.map_congr_left fun a _ => ?_
    simp only [Function.comp, List.length_append]
    (first | lia | omega)
theorem placed_in {p q : List Cmd} (h : AllCom p) {n : Nat} (hn : (octs p).length ≤ n) : n ∈ Placed (p ++ q) ↔ n - (octs p).length ∈ Placed q := by
  rw [placed_append, List.mem_append]
  constructor
  · rintro (h1 | h1)
    · have := placed_bound h n h1
      (first | lia | omega)
    · obtain ⟨a, ha, rfl⟩ := List.mem_map.mp h1
      rw [Nat.add_sub_cancel]
      exact ha
  · intro h1
    exact .inr (List.mem_map.mpr ⟨_, h1, by (first | lia | omega)⟩)

theorem next_again {held held' : Bs} {asked asked' : Int} (h : NextStep held asked none held' asked') : NextStep held' asked' none held' asked' := by
  cases h with
  | quiet h => exact .quiet h
  | nowait h => exact .nowait h
  | told h e => exact .told h e
theorem Steps.again {held held' : Bs} {asked asked' : Int} {l : List Step} (h : Steps held asked l held' asked') : NextStep held' asked' none held' asked' := by
  induction h with
  | nil h => exact next_again h
  | cons _ _ ih => exact ih

theorem cmd_step {o z : Bs} {hs : List Nat} (h : Com o hs) (asked : Int) : NextStep (o ++ z) asked (some (Str.ofString "command", o)) z (-1) := by
  have hc := h.whole [] z
  simp only [List.nil_append, List.length_nil, Nat.zero_add] at hc
  have := NextStep.command (asked := asked) hc
  rw [List.take_left, List.drop_left] at this
  exact this

/-- all of it, and a rest that gives nothing -/
theorem steps_whole {rest : Bs} (hr : CmdEnd rest 0 (-1) none) : ∀ (p : List Cmd) (asked : Int), AllCom p → ∃ asked', Steps (octs p ++ rest) asked (p.map cmdS) rest asked'
  | [], asked, _ => ⟨asked, .nil (.quiet hr)⟩
  | (o, hs) :: r, asked, h => by
    obtain ⟨a', hS⟩ := steps_whole hr r (-1) fun c q => h c (.tail _ q)
    refine ⟨a', ?_⟩
    rw [octs_cons, List.append_assoc]
    exact .cons (cmd_step (h (o, hs) (.head _)) asked) hS

/-- what has come so far: the first n octets of the commands that are left -/
theorem steps_adv : ∀ (p : List Cmd), AllCom p → ∀ (n : Nat) (asked : Int), n ≤ (octs p).length → asked ≤ n → (asked < n ∨ n ∉ Placed p) →
    ∃ d r asked', p = d ++ r ∧ (octs d).length ≤ n ∧ asked' ≤ ((n - (octs d).length : Nat) : Int) ∧ (r = [] ∨ ∃ c r', r = c :: r' ∧ n - (octs d).length < c.1.length) ∧
      Steps ((octs p).take n) asked (d.map cmdS ++ if n ∈ Placed p then [askS] else []) ((octs r).take (n - (octs d).length)) asked'
  | [], _, n, asked, hn, ha, _ => by
    have : n = 0 := by simpa [octs] using hn
    subst this
    exact ⟨[], [], asked, rfl, Nat.le_refl _, ha, .inl rfl, .nil (.quiet (.opn rfl))⟩
  | (o, hs) :: r, h, n, asked, hn, ha, hor => by
    have hc := h (o, hs) (.head _)
    have hr : AllCom r := fun c q => h c (.tail _ q)
    rw [octs_cons, List.length_append] at hn
    by_cases hle : o.length ≤ n
    · have hpo := hc.pos
      have hin : n ∈ Placed ((o, hs) :: r) ↔ n - o.length ∈ Placed r := by
        have := placed_in (p := [(o, hs)]) (q := r) (fun c q => by rw [List.mem_singleton.mp q]; exact hc) (n := n) (by simpa [octs] using hle)
        simpa [octs] using this
      obtain ⟨d, r', a', e, h1, h2, h3, hS⟩ := steps_adv r hr (n - o.length) (-1) (by simp only at hn; (first | lia | omega)) (by (first | lia | omega)) (.inl (by (first | lia | omega)))
      refine ⟨(o, hs) :: d, r', a', by rw [e]; rfl, ?_, ?_, ?_, ?_⟩
      · rw [octs_cons, List.length_append]; simp only; (first | lia | omega)
      · rw [octs_cons, List.length_append, ← Nat.sub_sub]; exact h2
      · rw [octs_cons, List.length_append, ← Nat.sub_sub]; exact h3
      · rw [octs_cons, octs_cons, List.length_append, ← Nat.sub_sub, List.take_append, List.take_of_length_le hle]
        simp only [List.map_cons, List.cons_append, hin]
        exact .cons (cmd_step hc asked) hS
    · have hlt : n < o.length := by (first | lia | omega)
      have hin : n ∈ Placed ((o, hs) :: r) ↔ n ∈ hs := by
        rw [Placed, List.mem_append]
        constructor
        · rintro (q | q)
          · exact q
          · obtain ⟨a, _, rfl⟩ := List.mem_map.mp q
            (first | lia | omega)
        · exact .inl
      have et : (octs ((o, hs) :: r)).take n = o.take n := by
        rw [octs_cons, List.take_append_of_le_length (by simp only; (first | lia | omega))]
      have hlen : (o.take n).length = n := by rw [List.length_take, Nat.min_eq_left (by (first | lia | omega))]
      obtain ⟨p1, p2⟩ := hc.part [] n hlt
      simp only [List.nil_append, List.length_nil] at p1 p2
      by_cases hm : n ∈ hs
      · obtain ⟨k, hk, hC⟩ := p1 hm
        have hlt' : asked < n := hor.elim id fun q => absurd (hin.mpr hm) q
        refine ⟨[], (o, hs) :: r, n, rfl, by simp [octs], by simp [octs], .inr ⟨_, _, rfl, by simpa [octs] using hlt⟩, ?_⟩
        rw [if_pos (hin.mpr hm)]
        simp only [octs_nil, List.length_nil, Nat.sub_zero, List.map_nil, List.nil_append]
        rw [et]
        have h1 := NextStep.ask (asked := asked) hC (by rw [hlen]; (first | lia | omega)) hk
        have h2 := NextStep.told (asked := ((o.take n).length : Int)) hC rfl
        have := Steps.cons h1 (.nil h2)
        rw [hlen] at this
        exact this
      · refine ⟨[], (o, hs) :: r, asked, rfl, by simp [octs], by simpa [octs] using ha, .inr ⟨_, _, rfl, by simpa [octs] using hlt⟩, ?_⟩
        rw [if_neg (fun q => hm (hin.mp q))]
        simp only [octs_nil, List.length_nil, Nat.sub_zero, List.map_nil, List.append_nil]
        rw [et]
        rcases p2 hm with hC | ⟨k, hC⟩
        · exact .nil (.quiet hC)
        · exact .nil (.nowait hC)

/-- the state of the cutter where begin octets have been handed in -/
structure Mid (cs d r : List Cmd) (begin : Nat) (held : Bs) (asked : Int) : Prop where
  all : cs = d ++ r
  low : (octs d).length ≤ begin
  high : begin ≤ (octs cs).length
  held : held = (octs r).take (begin - (octs d).length)
  asked : asked ≤ ((begin - (octs d).length : Nat) : Int)
  next : r = [] ∨ ∃ c r', r = c :: r' ∧ begin - (octs d).length < c.1.length
theorem Mid.start (cs : List Cmd) (h : AllCom cs) : Mid cs [] cs 0 [] (-1) where
  all := rfl
  low := by simp [octs]
  high := Nat.zero_le _
  held := by simp
  asked := by simp [octs]
  next := by
    cases cs with
    | nil => exact .inl rfl
    | cons c r =>
      have := (h c (.head _)).pos
      exact .inr ⟨c, r, rfl, by simp [octs]; (first | lia | omega)⟩
theorem take_piece (x : Bs) {a b k : Nat} (h1 : k ≤ a) (h2 : a ≤ b) (h3 : b ≤ x.length) : (x.drop k).take (a - k) ++ cut x a b = (x.drop k).take (b - k) := by
  unfold cut
  have e1 : x.drop a = (x.drop k).drop (a - k) := by rw [List.drop_drop]; congr 1; (first | lia | omega)
  have e2 : b - k = (a - k) + (b - a) := by (first | lia | omega)
  rw [e1, e2, List.take_add]
theorem octs_drop (d r : List Cmd) : (octs (d ++ r)).drop (octs d).length = octs r := by rw [octs_append, List.drop_left]
/-- a piece more -/
theorem Mid.turn {cs d r : List Cmd} {begin c : Nat} {held : Bs} {asked : Int} (hA : AllCom cs) (M : Mid cs d r begin held asked) (h1 : begin ≤ c) (h2 : c ≤ (octs cs).length) (h3 : begin < c ∨ c ∉ Placed cs) :
    ∃ d' r' held' asked', Mid cs (d ++ d') r' c held' asked' ∧ Steps (held ++ cut (octs cs) begin c) asked (d'.map cmdS ++ if c ∈ Placed cs then [askS] else []) held' asked' := by
  obtain ⟨rfl, hlow, hhigh, rfl, hasked, _⟩ := M
  have hAd : AllCom d := fun c q => hA c (List.mem_append_left _ q)
  have hAr : AllCom r := fun c q => hA c (List.mem_append_right _ q)
  have hl : (octs (d ++ r)).length = (octs d).length + (octs r).length := by rw [octs_append, List.length_append]
  have hin := placed_in (q := r) hAd (n := c) (by (first | lia | omega))
  obtain ⟨d', r', a', e, q1, q2, q3, hS⟩ := steps_adv r hAr (c - (octs d).length) asked (by (first | lia | omega)) (by (first | lia | omega)) (by
    rcases h3 with h3 | h3
    · exact .inl (by (first | lia | omega))
    · exact .inr fun q => h3 (hin.mpr q))
  have hl2 : (octs (d ++ d')).length = (octs d).length + (octs d').length := by rw [octs_append, List.length_append]
  have e3 : c - (octs (d ++ d')).length = c - (octs d).length - (octs d').length := by (first | lia | omega)
  refine ⟨d', r', _, a', ⟨by rw [e, List.append_assoc], by (first | lia | omega), h2, rfl, ?_, ?_⟩, ?_⟩
  · rw [e3]; exact q2
  · rw [e3]; exact q3
  · rw [e3]
    have := take_piece (octs (d ++ r)) hlow h1 h2
    rw [octs_drop] at this
    rw [this]
    simp only [hin]
    exact hS
theorem Mid.fin {cs d r : List Cmd} {held : Bs} {asked : Int} (hA : AllCom cs) (M : Mid cs d r (octs cs).length held asked) : d = cs ∧ held = [] ∧ asked ≤ 0 := by
  obtain ⟨rfl, hlow, hhigh, rfl, hasked, hn⟩ := M
  have hl : (octs (d ++ r)).length = (octs d).length + (octs r).length := by rw [octs_append, List.length_append]
  have hr : r = [] := by
    rcases hn with hn | ⟨c, r', rfl, hn⟩
    · exact hn
    · rw [octs_cons, List.length_append] at hl
      (first | lia | omega)
  subst hr
  simp only [octs_nil, List.length_nil, Nat.add_zero] at hl
  refine ⟨by simp, by simp [octs], by (first | lia | omega)⟩

/-- what stands in the rests and behind -/
theorem rest_quiet {r : Bs} (h : r ∈ [[], [116, 57, 32, 76, 73, 83, 84], [116, 57, 32, 88, 32, 123, 53, 125, 13, 10, 97, 98]]) : CmdEnd r 0 (-1) none := by
  simp only [List.mem_cons, List.not_mem_nil, or_false] at h
  rcases h with rfl | rfl | rfl
  · exact .opn rfl
  · exact .opn rfl
  · exact .over (f := 8) (n := 5) (w := true) (by decide) (by decide) (by decide) (by decide)
abbrev hugeB : Bs := [116, 56, 32, 88, 32, 123, 49, 48, 48, 48, 48, 48, 49, 125, 13, 10]
theorem huge_step {asked : Int} (h : asked ≤ 0) : Steps hugeB asked [(Str.ofString "refuse", hugeB)] [] (-1) := by
  have h1 : CmdEnd hugeB 0 (-1) (some (1000001, true)) := .wait (f := 14) (by decide) (by decide) (by decide)
  have := NextStep.refuse (asked := asked) h1 (by simp [hugeB]; (first | lia | omega)) (by decide)
  exact .cons this (.nil (.quiet (.opn rfl)))
abbrev doneB : Bs := [68, 79, 78, 69, 13, 10, 97, 98, 13]
theorem done_find : findCR doneB 0 = some 4 := by decide
theorem done_none : findCR [97, 98, 13] 0 = none := by decide
end
/-! text Command -/
section
theorem off_Command : True := by
  w_top off
  trivial
theorem kw_Command_1 : True := by
  k_with "own exec For Name Call cons nil" =>
    (refine Stop.out ?_)
  k_with "own call ref" =>
    (
    (with_reducible show wpAny _ _ (call (Value.ref 138) _) _ _ _);
    (k_dflt (refine draw_Kb (by k_asm) (by k_asm) (by k_asm) (by k_asm) (by k_asm) rfl rfl rfl rfl (by k_extra "room") (by k_extra "room") (by k_updF) (by assumption) (by assumption) (by k_extra "ar") (by k_extra "ar") (by k_extra "ar") ?_)); (intro _ _ _ _ _ _ _ hpO hnF hnN); (try dsimp only at hnN); (try dsimp only))
  k_with "own call type:range" =>
    (k_here; (k_dflt (refine range1_rows (by k_asm) (by k_asm) ?_)); intro _ _ _ _ _ _ _ hnN _; (try dsimp only))
  k_with "own subscriptTail" =>
    ((with_reducible show wpAny _ _ (subscriptTail _ _ (Value.ref _) (Value.int _ _)) _ _ _); (k_dflt (refine item_bytes (by k_asm) (by k_mem) (by repeat (first | exact BytesIn.nil | apply BytesIn.cons)) (by assumption) (by (simp only [List.length_cons, List.length_nil]; k_extra "ar")) (by k_extra "ar") ?_)); intro _ _ hbm; have hlb := len7 hbm rfl)
  k_with "own getMethod str" =>
    (refine method_enc ?_)
  k_with "own getMethod bytes" =>
    (refine method_bjoin ?_)
  k_with "own call builtin:str.encode" =>
    (k_dflt (refine enc_K (by k_extra "ar") ?_); intro _ _)
  k_with "own call builtin:bytes.join" =>
    (k_here; (k_dflt (refine join_led (by k_asm) (by k_mem) (by assumption) (by assumption) (by assumption) ?_)); intro _ _)
  k_with "own binaryOp Add bytes bytes" =>
    ((with_reducible show wpAny _ _ (binaryOp _ (Value.bytes (List.toArray _) _) (Value.bytes (List.toArray _) _)) _ _ _); (k_dflt (refine add_B (by first | k_extra "ar" | (simp only [List.length_cons, List.length_nil, List.length_append]; k_extra "ar")) ?_)); intro _ _)
  trivial
inductive CmdJ (cells pen : Addr) (B turn : Int) (i : Nat) (m : Str → Option Value) (nx : List (Addr × Obj)) : Prop
  | mk : ∀ hl pl po' hv vs nh np, ∀ (hs : List Nat), ∀ (acc : List Bs), (nx = [(hl, PySem.W.listOf (List.toArray hv) nh), (pl, PySem.W.listOf (List.toArray vs) np), (pen, po')]) → (PenO cells (B + 1 + 4 * (i : Int)) po') → (@Ne Nat pen hl) → (@Ne Nat pen pl) → (@Ne Nat hl pl) → (m (Str.ofString "pen") = some (.ref pen)) → (m (Str.ofString "pieces") = some (.ref pl)) → (m (Str.ofString "heads") = some (.ref hl)) → ((∃ t, m (Str.ofString "turn") = some (.int turn t))) → (vs.length ≤ 1 + 3 * i) → (1 + i ≤ vs.length) → (hv.length ≤ i) → (BytesIn vs acc) → (IntsAre hv (hs.map fun n : Nat => (n : Int))) → (Part turn acc hs) → ((∀ b ∈ acc, b.length ≤ 8)) → CmdJ cells pen B turn i m nx
theorem cmdJ0 {cells pen hl pl : Addr} {B turn : Int} {m : Str → Option Value} {po' : Obj} {b : Bs} {tb : Tok} {t : Tok} (h : PenO cells (B + 1 + 4 * ((0 : Nat) : Int)) po') (e1 : m (Str.ofString "pen") = some (.ref pen)) (e2 : m (Str.ofString "pieces") = some (.ref pl)) (e3 : m (Str.ofString "heads") = some (.ref hl)) (e4 : m (Str.ofString "turn") = some (.int turn t)) (n1 : @Ne Nat pen hl) (n2 : @Ne Nat pen pl) (n3 : @Ne Nat hl pl) (hp : Part turn [b] []) (hb : b.length ≤ 8) :
    CmdJ cells pen B turn 0 m [(hl, PySem.W.listOf (List.toArray []) 0), (pl, PySem.W.listOf (List.toArray [.bytes b.toArray tb]) 0), (pen, po')] := ⟨hl, pl, po', [], _, 0, 0, [], [b], rfl, h, n1, n2, n3, e1, e2, e3, ⟨_, e4⟩, Nat.le_refl _, Nat.le_refl _, Nat.le_refl _, BytesIn.one, .nil, hp, fun _ h => by rw [List.mem_singleton.mp h]; exact hb⟩

theorem command_spec {w : World} {A : Around} {s : Shared} {base : Heap} {env : Env} {outer : List Env} {A₀ : Around} {h₀ : Heap} {L : Addr} {m : Str → Option Value} {mean : ExcName → Option Value} {mg mb : Str → Option Value} {pen cells : Addr} {vs : List Value} {xs : List Int} {po : Obj} {B turn : Int} {t4 : Tok} {Q E : Value → Shared → Prop}
    (C : Ctx w A s.heap [pen] base env outer A₀ h₀ L m mean mg mb) (hd : A.depth + 15 < recursionLimit) (hu : A.units + 100 < cLine) (hpo : s.heap.get? pen = some po) (hP : PenO cells B po) (hcl : s.heap.IsList cells (List.toArray vs)) (hi : IntsAre vs xs) (hlen : xs.length ≤ 63) (hne : cells ≠ pen) (hB : B < 9000) (ht0 : 0 ≤ turn) (ht5 : turn < 5)
    (h : ∀ a hl t hv nh o hs po' h' tk', Kept [pen] s.heap h' → NewIn s.heap h' [(a, tupleOf [.bytes (List.toArray o) t, .ref hl]), (hl, PySem.W.listOf (List.toArray hv) nh)] → h'.get? pen = some po' → PenO cells (B + 9) po' → IntsAre hv (hs.map fun n : Nat => (n : Int)) → CmdOf turn o hs → o.length ≤ 62 → hs.length ≤ 2 → Q (.ref a) { s with heap := h', toks := tk' }) :
    wpAny (Mm w) A (call (.ref 157) [.ref pen, .int turn t4]) Q E s := by
  have KX : (Mine.hd.heap_39 w.params).In h₀ := C.X
  revert KX
  delta Mm
  k_fill
  intro KX
  refine enter C (news := [(pen, po)]) (binds := [(Str.ofString "pen", .ref pen), (Str.ofString "turn", .int turn t4)])
    (fun p hp => by rw [List.mem_singleton.mp hp]; exact hpo) rfl (by delta Km; k_is) (by delta Km; k_is) (by k_extra "ar") (BindsTo.of_eq rfl) (locs rfl) (by decide) rfl rfl rfl ?_
  delta Km TopM Mm
  intro g L' h₁ gd outer' hg F N B' X T
  have hcl' : CellsB g cells := ⟨vs, xs, isList_of hcl hg (by simpa using hne), hi, hlen⟩
  have hdep : A.depth + 1 + 14 < recursionLimit := by k_extra "ar"
  have hun : A.units + 3 + 90 < cLine := by k_extra "ar"
  clear hd hu C KX
  have fin : ∀ a hl t hv nh o hs po' h' tk' m' news, Fr g L' h' m' → News g L' h' news → (a, tupleOf [.bytes (List.toArray o) t, .ref hl]) ∈ news → (hl, PySem.W.listOf (List.toArray hv) nh) ∈ news → (pen, po') ∈ news → @Ne Nat a pen → @Ne Nat hl pen → PenO cells (B + 9) po' → IntsAre hv (hs.map fun n : Nat => (n : Int)) → CmdOf turn o hs → o.length ≤ 62 → hs.length ≤ 2 →
      Done g [pen] s.heap Q (.ref a) { s with heap := h', toks := tk' } := fun a hl t hv nh o hs po' h' tk' m' news F' N' m1 m2 m3 n1 n2 hp hi hC ho hh =>
    ⟨_, _, F', fun kk => h a hl t hv nh o hs po' h' tk' kk (fun p hp => by
      rcases List.mem_cons.mp hp with rfl | hp
      · exact ⟨(N' _ m1).1, (hg a (fun q => n1 (List.mem_singleton.mp q))) ▸ (N' _ m1).2.2⟩
      · rw [List.mem_singleton.mp hp]
        exact ⟨(N' _ m2).1, (hg hl (fun q => n2 (List.mem_singleton.mp q))) ▸ (N' _ m2).2.2⟩) (N' _ m3).1 hp hi hC ho hh⟩
  clear hcl h
  try dsimp only
  show wpAny _ _ _ _ _ _
  k_fold
  k_steps
  show wpAny _ _ _ _ _ _
  refine For_invV g rfl rfl ?_ (fun _ => rfl) PassesOwn.never
  refine stop_post ?_
  k_steps
  rename Fr _ _ _ _ => F₁
  rename News _ _ _ _ => N₁
  rename IsRange _ _ _ _ _ _ _ _ => hR
  rename PenO _ _ _ => hP₁
  rename _ < (2 : Int) => hr2
  rename 0 ≤ _ => hr0
  refine Stop.out ?_
  show wpAny _ _ _ _ _ _
  refine iter_rangeG (CmdJ cells pen B turn) rfl hR (small_one (by k_extra "ar") (by k_extra "ar") (by k_extra "ar") (by k_extra "ar")) (rangeSize_nat _ _) F₁ (cb_drop N₁ (by kqd_sub)) (cmdJ0 (hP₁.mono (by k_extra "ar")) rfl rfl rfl rfl (by k_extra "ar") (by k_extra "ar") (by k_extra "ar") (Part.start ht0 ht5) (by simp)) ?_ ?_
  · intro i t m₁ nx hh tk own hx ho hJ9 F₂ N₂
    refine hide fun X9 hX9 => ?_
    obtain ⟨hl, pl, po', hv, vs', nh, np, hs, acc, rfl, hpo', n1, n2, n3, e1, e2, e3, ⟨t9, e4⟩, hl1, hl1', hl2, hvs, hhs, hP, hall⟩ := hJ9
    refine hX9 ?_
    clear hX9 X9
    clear F₁ N₁
    rw [known e1, known e2, known e3, known e4] at F₂
    simp only [List.cons_append, List.nil_append] at N₂
    have ho' : OwnOff own [hl, pl, pen] := ho
    k_steps
    all_goals try (exfalso; k_extra "ar")
    rotate_left
    · show LCg.CompRest _ _ _ _ _ _ _ _ _ _ _ _ _ _ _ _ _ _ _
      refine rest_lens ((hvs.append BytesIn.one).append BytesIn.one) ?_ ?_
      · intro i b tb ys I oI C oC D m₂ h tk E' hb hC hx F N off0 ne
        have off := off0
        simp only [LCg.Off3, and_true] at off
        have hlen8 := len_all hall (by assumption) (by simp) hb
        k_steps
        exact LCg.CompEnd.intro (by assumption) (by assumption) _ (fun p hp => hp) off0 (Or.inr ⟨_, by k_mem, rfl, _, rfl⟩) ⟨rfl, _, rfl⟩
      · intro ys hys
        k_steps
        rename Fr _ _ _ _ => Fe
        rename News _ _ _ _ => Ne
        rename PenO _ _ _ => hpe
        refine InvEndG.intro (nx := [(hl, _), (pl, _), (pen, _)]) Fe Ne ?_ ho' (by lcg_sub) (fun p hp => by repeat (first | exact hp | apply List.Mem.tail))
        exact ⟨hl, pl, _, _, _, _, _, _, _, rfl, hpe.mono (by k_extra "ar"), n1, n2, n3, rfl, rfl, rfl, ⟨_, rfl⟩, by simp; k_extra "ar", by simp; k_extra "ar", by simp; k_extra "ar", ((hvs.append .one).append .one).append .one, ints_nats hhs (sum_lens _), Part.lit_t (Part.bit hP (by assumption)) (by k_extra "ar"), all_snoc (all_snoc (all_snoc hall (by assumption)) (by simp)) (by assumption)⟩
    · rename Fr _ _ _ _ => Fe
      rename News _ _ _ _ => Ne
      rename PenO _ _ _ => hpe
      refine InvEndG.intro (nx := [(hl, _), (pl, _), (pen, _)]) Fe Ne ?_ ho' (by lcg_sub) (fun p hp => by repeat (first | exact hp | apply List.Mem.tail))
      exact ⟨hl, pl, _, _, _, _, _, _, _, rfl, hpe.mono (by k_extra "ar"), n1, n2, n3, rfl, rfl, rfl, ⟨_, rfl⟩, by simp; k_extra "ar", by simp; k_extra "ar", by k_extra "ar", hvs.append .one, hhs, Part.bit hP (by assumption), all_snoc hall (by assumption)⟩
    · rename Fr _ _ _ _ => Fe
      rename News _ _ _ _ => Ne
      rename PenO _ _ _ => hpe
      refine InvEndG.intro (nx := [(hl, _), (pl, _), (pen, _)]) Fe Ne ?_ ho' (by lcg_sub) (fun p hp => by repeat (first | exact hp | apply List.Mem.tail))
      exact ⟨hl, pl, _, _, _, _, _, _, _, rfl, hpe.mono (by k_extra "ar"), n1, n2, n3, rfl, rfl, rfl, ⟨_, rfl⟩, by simp; k_extra "ar", by simp; k_extra "ar", by k_extra "ar", ((hvs.append .one).append .one).append .one, hhs, Part.lit_f (Part.bit hP (by assumption)) (by k_extra "ar"), all_snoc (all_snoc (all_snoc hall (by assumption)) (by simp)) (by assumption)⟩
  · intro m₁ nx hh tk hJ9 F₂ N₂
    refine hide fun X9 hX9 => ?_
    obtain ⟨hl, pl, po', hv, vs', nh, np, hs, acc, rfl, hpo', n1, n2, n3, e1, e2, e3, ⟨t9, e4⟩, hl1, hl1', hl2, hvs, hhs, hP, hall⟩ := hJ9
    refine hX9 ?_
    clear hX9 X9
    clear F₁ N₁
    rw [known e1, known e2, known e3, known e4] at F₂
    have hfl := flat_len acc hall
    have hal := hvs.length
    have ha2 : 2 ≤ acc.length := by k_extra "ar"
    have hf : acc.flatten.length ≤ 1000000 := by k_extra "ar"
    have hf2 : acc.flatten.length ≤ 60 := by k_extra "ar"
    k_steps
    rename Fr _ _ _ _ => Fe
    rename News _ _ _ _ => Ne
    have hhl := hhs.length
    rw [List.length_map] at hhl
    exact fin _ hl _ _ _ _ _ _ _ _ _ _ Fe Ne (by k_mem) (by k_mem) (by k_mem) (by k_extra "ar") (_root_.Ne.symm n1) (hpo'.mono (by k_extra "ar")) hhs hP.fin (by rw [List.length_append, List.length_cons, List.length_cons, List.length_nil]; k_extra "ar") (by k_extra "ar")
end
/-! text IterL -/
section
theorem off_IterL : True := by
  w_top off
  trivial
theorem ints_at {vs : List Value} {ns : List Int} (h : IntsAre vs ns) : ∀ {i : Nat} {v : Value}, vs[i]? = some v → ∃ k t, v = .int k t ∧ ns[i]? = some k := by
  induction h with
  | nil => intro i v e; cases e
  | cons n t _ ih =>
    intro i v e
    cases i with
    | zero => cases e; exact ⟨_, _, rfl, rfl⟩
    | succ i => exact ih e
theorem news_head {h₀ h : Heap} {L : Addr} {a : Addr} {o : Obj} {r : List (Addr × Obj)} (N : News h₀ L h ((a, o) :: r)) : News h₀ L h [(a, o)] := fun p hp => by rw [List.mem_singleton.mp hp]; exact N _ (.head _)
section
variable {prog : Program} {w : World} {A : Around} {E : Value → Shared → Prop} {s : Shared} {env : Env} {h₀ : Heap} {x : Str} {body : List Stmt} {Q : Flow → Shared → Prop}
/-- a for over a list of the ledger that stays as it is -/
theorem iter_listG {l : Addr} {vs : List Value} {nn : Nat} {m₀ : Str → Option Value} {news : List (Addr × Obj)} (J : Nat → (Str → Option Value) → List (Addr × Obj) → Prop)
    (hh : A.handled = none) (hl : (l, PySem.W.listOf vs.toArray nn) ∈ news) (F : Fr h₀ env.locals s.heap m₀) (N : News h₀ env.locals s.heap news) (hj : J 0 m₀ news)
    (turn : ∀ i v m₁ nx h tk own, vs[i]? = some v → OwnOff own (nx.map (·.1)) → (l, PySem.W.listOf vs.toArray nn) ∈ nx → J i m₁ nx → Fr h₀ env.locals h (fun y => if y = x then some v else m₁ y) → News h₀ env.locals h (nx ++ own) →
      wpAny (model prog w) A (execs body env) (InvPostG h₀ env.locals (fun m' nx => (l, PySem.W.listOf vs.toArray nn) ∈ nx ∧ J (i + 1) m' nx) own { s with heap := h, toks := tk } Q) E { s with heap := h, toks := tk })
    (done : ∀ m₁ nx h tk, (l, PySem.W.listOf vs.toArray nn) ∈ nx → J vs.length m₁ nx → Fr h₀ env.locals h m₁ → News h₀ env.locals h nx → Q .next { s with heap := h, toks := tk }) :
    wpAny (model prog w) A (pyIter (.ref l)) (fun it s₂ => LoopAtV prog w A h₀ env x body Q E it s₂) E s := by
  have hol : s.heap.get? l = some (PySem.W.listOf vs.toArray nn) := (N _ hl).1
  have hls : s.heap.IsList l vs.toArray := ⟨_, hol, rfl, nn, rfl⟩
  have hne : l ≠ s.heap.objs.size := Nat.ne_of_lt (Heap.lt_size hol)
  refine wpAny_pyIter_list hls ?_
  have W := Walks.list (prog := prog) (w := w) hh s.heap.objs.size l hne vs.toArray
  have hlen : vs.toArray.size = vs.length := by simp
  rw [hlen] at W
  refine ⟨_, _, _, vs.length, _, _, m₀, news, (fun i m nx => (l, PySem.W.listOf vs.toArray nn) ∈ nx ∧ J i m nx), rfl, W, ?_, ?_, ?_, ⟨⟨_, Heap.get?_push_size _ rfl, rfl, rfl⟩, hls.at fun o e => Heap.get?_push_of_some _ e⟩, F.push _, (fun p hp => ⟨Heap.get?_push_of_some _ (N p hp).1, (N p hp).2⟩), ⟨hl, hj⟩, ?_, ?_⟩
  · intro hm
    rcases List.mem_cons.mp hm with e | hm
    · exact absurd F.ns.lt (e ▸ Nat.lt_irrefl _)
    · exact (N _ hl).2.1 ((List.mem_singleton.mp hm).symm)
  · intro b hb
    rw [List.mem_singleton.mp hb]
    exact next_is_new F
  · intro p hp hI
    exact absurd (Heap.lt_size (N p hp).1) ((List.mem_singleton.mp hI) ▸ Nat.lt_irrefl _)
  · rintro i v m₁ news₁ s₁ own ⟨hh', tk', rfl⟩ hin hP ⟨hl₁, hJ⟩ hoff hown hget hfp hst F₁ N₁
    have hI0 : h₀.get? s.heap.objs.size = none := next_is_new F
    obtain ⟨⟨oI, hoI, _⟩, _⟩ := id hst
    have hIown : (s.heap.objs.size, oI) ∈ own := hfp _ (List.mem_cons.mpr (.inl rfl)) hI0 _ hoI
    have hIf : (s.heap.objs.size, oI) ∈ own.filter fun p => decide (p.1 = s.heap.objs.size) := List.mem_filter.mpr ⟨hIown, by simp⟩
    have hsep : OwnOff (own.filter fun p => decide (p.1 = s.heap.objs.size)) (news₁.map (·.1)) := by
      intro p hp b hb e
      obtain ⟨q, hq, rfl⟩ := List.mem_map.mp hb
      have h1 : p.1 = s.heap.objs.size := by simpa using (List.mem_filter.mp hp).2
      exact hoff q hq (List.mem_singleton.mpr (e ▸ h1))
    have hv : vs[i]? = some v := by simpa using hP
    have N₂ : News h₀ env.locals hh' (news₁ ++ own.filter fun p => decide (p.1 = s.heap.objs.size)) := fun p hp => N₁ p ((List.mem_append.mp hp).elim (fun h => List.mem_append.mpr (.inr h)) fun h => List.mem_append.mpr (.inl ((List.mem_filter.mp h).1)))
    have hlo : hh'.get? l = some (PySem.W.listOf vs.toArray nn) := (N₁ _ (List.mem_append.mpr (.inr hl₁))).1
    refine wpAny_mono (turn i v m₁ news₁ hh' tk' _ hv hsep hl₁ hJ F₁ N₂) (fun f s₂ p => ?_) fun _ _ e => e
    have fin : InvEndG h₀ env.locals (fun m' nx => (l, PySem.W.listOf vs.toArray nn) ∈ nx ∧ J (i + 1) m' nx) (own.filter fun p => decide (p.1 = s.heap.objs.size)) { s with heap := hh', toks := tk' } s₂ →
        LoopStepU h₀ env.locals [s.heap.objs.size] own (fun m nx => (l, PySem.W.listOf vs.toArray nn) ∈ nx ∧ J (i + 1) m nx) { s with heap := hh', toks := tk' } .next s₂ := by
      rintro ⟨h', tk, m', news', nx, e, F', N', hn, ho, ha, hm⟩
      refine ⟨rfl, h', tk, m', nx, e, F', fun p hp => ?_, fun p hp hq => ?_, hm⟩
      · rcases List.mem_append.mp hp with h | h
        · by_cases hI : p.1 = s.heap.objs.size
          · exact N' p (ho p (List.mem_filter.mpr ⟨h, by simpa using hI⟩))
          · have h1 : p.1 = l := by
              rcases List.mem_cons.mp (hown p h) with h2 | h2
              · exact absurd h2 hI
              · exact List.mem_singleton.mp h2
            have h2 : hh'.get? p.1 = some p.2 := hget p h
            rw [h1, hlo] at h2
            have h3 : p = (l, PySem.W.listOf vs.toArray nn) := Prod.ext h1 (Option.some.inj h2).symm
            rw [h3]
            exact N' _ (hn _ hm.1)
        · exact N' p (hn p h)
      · exact ha _ hIf p.1 (List.mem_map.mpr ⟨p, hp, rfl⟩) (List.mem_singleton.mp hq).symm
    cases f with
    | ret v => exact .ret p
    | brk => exact .brk p
    | next => exact .next (fin p)
    | cont => exact .cont (fin p)
  · rintro h' tk m' news' F' N' _ ⟨hl', hJ⟩
    exact done m' news' h' tk hl' hJ F' N'
end
end
/-! text Pen -/
section
theorem off_Pen : True := by
  w_top off
  trivial
theorem kw_Pen_1 : True := by
  k_with "own exec For Name Name cons nil" =>
    (refine Stop.out ?_)
  trivial

def PenJ (ys : List Value) (n : Nat) (_ : Nat) (m : Str → Option Value) (nx : List (Addr × Obj)) : Prop :=
  ∃ ca, nx = [(ca, PySem.W.listOf ys.toArray n)] ∧ m (Str.ofString "cells") = some (.ref ca) ∧ (∃ i t, m (Str.ofString "great") = some (.int i t) ∧ 0 ≤ i) ∧ ∃ i t, m (Str.ofString "state") = some (.int i t) ∧ 0 ≤ i ∧ i < 2147483647
theorem kw_Pen_2 : True := by
  k_with "own execs cons Assign cons" =>
    ((with_reducible show wpAny _ _ (execs (Stmt.Assign [Expr.Name (Str.ofString "great") _] _ _ :: _ :: _) _) _ _ _); refine Stop.out ?_)
  k_with "own execs cons" =>
    ((with_reducible show wpAny _ _ (execs (Stmt.Assign [Expr.Name (Str.ofString "great") _] _ _ :: _ :: _) _) _ _ _); refine Stop.out ?_)
  trivial
theorem pen_spec {w : World} {A : Around} {s : Shared} {base : Heap} {env : Env} {outer : List Env} {A₀ : Around} {h₀ : Heap} {L : Addr} {m : Str → Option Value} {mean : ExcName → Option Value} {mg mb : Str → Option Value} {sc : Addr} {vs : List Value} {xs : List Int} {Q E : Value → Shared → Prop}
    (C : Ctx w A s.heap [] base env outer A₀ h₀ L m mean mg mb) (hd : A.depth + 15 < recursionLimit) (hu : A.units + 100 < cLine) (hcl : s.heap.IsList sc (List.toArray vs)) (hi : IntsAre vs xs) (hlen : xs.length ≤ 63)
    (h : ∀ a ca ws ys h' tk' po n, Kept [] s.heap h' → NewIn s.heap h' [(a, po), (ca, PySem.W.listOf (List.toArray ws) n)] → PenO ca 0 po → IntsAre ws ys → ys.length ≤ 63 → Q (.ref a) { s with heap := h', toks := tk' }) :
    wpAny (Mm w) A (call (.ref 131) [.ref sc]) Q E s := by
  have KX : (Mine.hd.heap_39 w.params).In h₀ := C.X
  revert KX
  delta Mm
  k_fill
  intro KX
  refine enter C (news := []) (binds := [(Str.ofString "script", .ref sc)])
    (fun p hp => nomatch hp) rfl (by delta Km; k_is) (by delta Km; k_is) (by k_extra "ar") (BindsTo.of_eq rfl) (locs rfl) (by decide) rfl rfl rfl ?_
  delta Km TopM Mm
  intro g L' h₁ gd outer' hg F N B' X T
  have hcl' := isList_of hcl hg (by simp)
  have hdep : A.depth + 1 + 14 < recursionLimit := by k_extra "ar"
  have hun : A.units + 3 + 90 < cLine := by k_extra "ar"
  clear hd hu C KX
  have fin : ∀ a ca ws ys h' tk' po n m' news, Fr g L' h' m' → News g L' h' news → (a, po) ∈ news → (ca, PySem.W.listOf (List.toArray ws) n) ∈ news → PenO ca 0 po → IntsAre ws ys → ys.length ≤ 63 →
      Done g [] s.heap Q (.ref a) { s with heap := h', toks := tk' } := fun a ca ws ys h' tk' po n m' news F' N' m1 m2 hp hi hl =>
    ⟨_, _, F', fun kk => h a ca ws ys h' tk' po n kk (NewIn.of_news N' (fun p hp => by
      rcases List.mem_cons.mp hp with rfl | hp
      · exact m1
      · rw [List.mem_singleton.mp hp]; exact m2) hg) hp hi hl⟩
  clear hcl h
  try dsimp only
  show wpAny _ _ _ _ _ _
  k_fold
  k_steps
  show wpAny _ _ (execs ([_, _] ++ _) _) _ _ _
  rename Fr _ _ _ _ => F₀
  rename News _ _ _ _ => N₀
  rename IntsAre _ (List.map _ _) => hI8
  refine execs_join (R := fun s' => Stop (∃ h' tk m₀ ca, s' = { s with heap := h', toks := tk } ∧ Fr g L' h' m₀ ∧ News g L' h' [(ca, PySem.W.listOf ys.toArray ys.length)] ∧ m₀ (Str.ofString "cells") = some (.ref ca) ∧ ∃ i t, m₀ (Str.ofString "great") = some (.int i t) ∧ 0 ≤ i)) ?rest _ _ ?pre
  case pre =>
    refine wpAny_execs_cons ?_
    k_steps
    all_goals (
      rename Fr _ _ _ _ => F₁
      rename News _ _ _ _ => N₁
      show ∃ _, _)
    all_goals first
      | exact ⟨_, _, _, _, rfl, F₁, news_head N₁, rfl, _, _, rfl, by decide⟩
      | exact ⟨_, _, _, _, rfl, F₁, news_head N₁, rfl, _, _, rfl, fmod_lo (by decide)⟩
  rintro s' ⟨h', tk, m₀, ca, rfl, F₂, N₂, e1, i9, t9, e2, hi9⟩
  rw [known e1, known e2] at F₂
  clear F₀ N₀
  show wpAny _ _ _ _ _ _
  k_steps
  show wpAny _ _ _ _ _ _
  refine For_invV g rfl rfl ?_ (fun _ => rfl) PassesOwn.never
  rename Fr _ _ _ _ => F₁
  rename News _ _ _ _ => N₁
  refine wpAny_Name (wpAny_loadName_local rfl rfl F₁.ns rfl ?_) rfl
  have hl8 := hI8.length
  rw [List.length_map, List.length_take] at hl8
  refine iter_listG (PenJ ys ys.length) rfl (.head _) F₁ N₁ ?_ ?_ ?_
  · exact ⟨_, rfl, rfl, ⟨_, _, rfl, hi9⟩, _, _, rfl, by decide, by decide⟩
  all_goals (first
    | (intro i v m₁ nx hh tk own hv ho hmem hJ9 F₂ N₂
       refine hide fun X9 hX9 => ?_
       obtain ⟨ca, rfl, e1, ⟨g1, tg, e2, hg1⟩, s1, ts, e3, hs1, hs2⟩ := hJ9
       refine hX9 ?_
       clear hX9 X9
       clear F₁ N₁
       rw [known e1, known e2, known e3] at F₂
       obtain ⟨k, tk9, rfl, -⟩ := ints_at hI8 hv
       k_steps)
    | (intro m₁ nx hh tk _ hJ9 F₂ N₂
       refine hide fun X9 hX9 => ?_
       obtain ⟨ca, rfl, e1, ⟨g1, tg, e2, hg1⟩, s1, ts, e3, hs1, hs2⟩ := hJ9
       refine hX9 ?_
       clear hX9 X9
       clear F₁ N₁
       rw [known e1, known e2, known e3] at F₂
       k_steps))
  all_goals (
    rename Fr _ _ _ _ => Fe
    rename News _ _ _ _ => Ne)
  all_goals (first
    | exact InvEndG.intro (nx := [(ca, _)]) Fe Ne ⟨hmem, ca, rfl, rfl, ⟨_, _, rfl, hg1⟩, _, _, rfl, fmod_lo (by decide), fmod_hi (by decide)⟩ ho (fun p hp => List.mem_append_left _ hp) (fun p hp => List.mem_append_right _ hp)
    | exact fin _ ca ys _ _ _ _ _ _ _ Fe Ne (.head _) (.tail _ (.head _)) ⟨_, _, _, _, _, _, _, rfl, hg1, hs1, hs2, by decide, by decide⟩ hI8 (by rw [List.length_map, List.length_take]; k_extra "ar")
    | trace_state)
end
/-! text LawK -/
section
theorem off_LawK : True := by
  w_top off
  trivial
theorem kw_LawK_0 : True := by
  k_with_none
  k_with "pick" =>
    (with_reducible (first
    | assumption | exact And.left (by assumption) | exact And.left (And.right (by assumption)) | exact And.left (And.right (And.right (by assumption)))
    | exact And.left (And.right (And.right (And.right (by assumption)))) | exact And.left (And.right (And.right (And.right (And.right (by assumption))))) | exact And.left (And.right (And.right (And.right (And.right (And.right (by assumption)))))) | exact And.right (by assumption)))
  k_with "ne1" =>
    first
    | (with_reducible assumption) | exact _root_.Ne.symm (by with_reducible assumption) | exact Nat.ne_of_lt (by k_extra "pick") | exact Nat.ne_of_gt (by k_extra "pick")
  k_with "ar" =>
    first
    | (with_reducible assumption)
    | exact room_up (by with_reducible assumption) rfl
    | ((repeat (first | (rename _ ≠ _ => hz9; clear hz9) | (rename (_ ≠ _ ∧ _) => hz9; clear hz9))); omega)
    | omega
  k_with "own k_ne" =>
    (refine neN ?_; (try dsimp only); first | k_extra "ne1" | omega)
  k_with "room" =>
    ((try dsimp only [ktrTop]); (first | k_extra "ar" | (simp only [ktrTop, Around.in1, Around.deeper, Around.mark]; k_extra "ar")))
  k_with "own call ref" =>
    (
    (with_reducible show wpAny _ _ (call (Value.ref 49) _) _ _ _);
    (refine isfig_K (by k_asm) (by k_asm) (by k_asm) (by k_asm) (by k_asm) rfl rfl rfl rfl (by k_extra "room") (by k_extra "room") ?_); intro _ _ _ _; (try dsimp only))
  k_with "own call ref" =>
    (
    (with_reducible show wpAny _ _ (call (Value.ref 56) _) _ _ _);
    (refine numfig_K (by k_asm) (by k_asm) (by k_asm) (by k_asm) (by k_asm) rfl rfl rfl rfl (by k_extra "room") (by k_extra "room") ?_); intro _ _ _ _ _; (try dsimp only))
  k_with "own exec While" =>
    (refine Stop.out ?_)
  k_with "own exec While BoolOp" =>
    (refine Stop.out ?_)
  k_with "own subscriptTail" =>
    (k_here; (with_reducible show wpAny _ _ (subscriptTail _ _ (Value.bytes (List.toArray _) _) (Value.int _ _)) _ _ _); (refine KBy.item_N (by k_extra "ar") (by k_extra "ar") (by k_extra "ar") ?_))
  k_with "own subscriptTail" =>
    (k_here; (with_reducible show wpAny _ _ (subscriptTail _ (Expr.Slice (some _) (some _) none _) (Value.bytes (List.toArray _) _) (Value.ref _)) _ _ _); (with_reducible rename Fr _ _ _ _ => F'); (with_reducible rename News _ _ _ _ => N'); (refine slice_both (s := ⟨_, _, _, _, _⟩) F' N' (by k_extra "ar") (by k_extra "ar") (by k_extra "ar") ?_); intro _ _ _ _ _)
  k_with "own subscriptTail" =>
    (k_here; (with_reducible show wpAny _ _ (subscriptTail _ (Expr.Slice none (some _) none _) (Value.bytes (List.toArray _) _) (Value.ref _)) _ _ _); (with_reducible rename Fr _ _ _ _ => F'); (with_reducible rename News _ _ _ _ => N'); (refine slice_to (s := ⟨_, _, _, _, _⟩) F' N' (by k_extra "ar") (by k_extra "ar") ?_); intro _ _ _ _ _)
  k_with "own subscriptTail" =>
    (k_here; (with_reducible show wpAny _ _ (subscriptTail _ (Expr.Slice (some _) none none _) (Value.bytes (List.toArray _) _) (Value.ref _)) _ _ _); (with_reducible rename Fr _ _ _ _ => F'); (with_reducible rename News _ _ _ _ => N'); (refine slice_from (s := ⟨_, _, _, _, _⟩) F' N' (by k_extra "ar") (by k_extra "ar") ?_); intro _ _ _ _ _)
  k_with "own call builtin:len" =>
    (k_here; (with_reducible show wpAny _ _ (call (Value.builtin "len") [Value.bytes (List.toArray _) _]) _ _ _); (refine len_B (by first | k_extra "ar" | (simp only [List.length_take, List.length_drop, cut]; k_extra "ar")) ?_); intro _ _)
  k_with "own getMethod bytes" =>
    (refine method_find ?_)
  k_with "own call builtin:bytes.find" =>
    ((refine find3 rfl ?_); intro _ _; simp only [findV, *])
  k_with "own call ref" =>
    (
    (with_reducible show wpAny _ _ (call (Value.ref 63) _) _ _ _);
    (refine lithead_Kn (by k_asm) (by k_asm) (by k_asm) (by k_asm) (by k_asm) rfl rfl rfl rfl (by k_extra "room") (by k_extra "room") (by assumption) (by k_extra "ar") (by k_extra "ar") (by k_extra "ar") ?_); intro _ _ _ _; (try dsimp only))
  k_with "own call ref" =>
    (
    (with_reducible show wpAny _ _ (call (Value.ref 63) _) _ _ _);
    (refine lithead_Ks (by k_asm) (by k_asm) (by k_asm) (by k_asm) (by k_asm) rfl rfl rfl rfl (by k_extra "room") (by k_extra "room") (by assumption) (by k_extra "ar") (by k_extra "ar") (by k_extra "ar") ?_); intro _ _ _ _ _ _; (try dsimp only))
  k_with "own binaryOp Add bytes bytes" =>
    (k_here; (with_reducible show wpAny _ _ (binaryOp Operator.Add (Value.bytes (List.toArray _) _) (Value.bytes (List.toArray _) _)) _ _ _); (refine add_B (by k_extra "ar") ?_); intro _ _)
  k_with "own k_room" =>
    (k_extra "room")
  k_with "nes" =>
    (simp only [List.forall_mem_cons, List.not_mem_nil, false_implies, implies_true, and_true] at *)
  k_with "own call ref" =>
    (
    (with_reducible show wpAny _ _ (call (Value.ref 70) _) _ _ _);
    (refine cmdend_Kn (by k_asm) (by k_asm) (by k_asm) (by k_asm) (by k_asm) rfl rfl rfl rfl (by k_extra "room") (by k_extra "room") (by assumption) (by k_extra "ar") ?_); (intro _ _ _ _ _ _ hne1); (simp only [List.forall_mem_cons, List.not_mem_nil, false_implies, implies_true, and_true] at hne1); (try dsimp only))
  k_with "own call ref" =>
    (
    (with_reducible show wpAny _ _ (call (Value.ref 70) _) _ _ _);
    (refine cmdend_Ks (by k_asm) (by k_asm) (by k_asm) (by k_asm) (by k_asm) rfl rfl rfl rfl (by k_extra "room") (by k_extra "room") (by assumption) (by k_extra "ar") ?_); (intro _ _ _ _ _ _ _ _ hne1 hne2); (simp only [List.forall_mem_cons, List.not_mem_nil, false_implies, implies_true, and_true] at hne1 hne2); (try dsimp only))
  k_with "own call builtin:bytes.find" =>
    ((refine find2 ?_); intro _ _; simp only [findV, *])
  k_with "small" =>
    (first | k_extra "ar" | (simp only [List.length_append, List.length_cons, List.length_nil, List.length_map]; k_extra "ar"))
  k_with "own call builtin:len" =>
    (k_here; (with_reducible show wpAny _ _ (call (Value.builtin "len") [Value.ref _]) _ _ _); (k_dflt (refine len_led (by k_asm) (by k_mem) (by k_extra "small") ?_)); intro _ _; (try simp only [List.length_append, List.length_cons, List.length_nil, List.length_map]))
  k_with "own call builtin:list.append" =>
    (k_here; (with_reducible show wpAny _ _ (call (Value.builtin "list.append") [Value.ref _, _]) _ _ _); (k_dflt (refine append_led (by k_asm) (by k_asm) (by k_upd) (by k_extra "small") ?_)); intro _ _ hnN; (try dsimp only at hnN))
  k_with "own call ref" =>
    (
    (with_reducible show wpAny _ _ (call (Value.ref 119) _) _ _ _);
    (k_dflt (refine next_Kn (by k_asm) (by k_asm) (by k_asm) (by k_asm) (by k_asm) rfl rfl rfl rfl (by k_extra "room") (by k_extra "room") (by k_mem) (by k_updF) (by assumption) (by assumption) (by k_extra "ar") ?_)); (intro _ _ _ _ _ _ _ hnN); (try dsimp only at hnN); (try dsimp only))
  k_with "own call ref" =>
    (
    (with_reducible show wpAny _ _ (call (Value.ref 119) _) _ _ _);
    (k_dflt (refine next_Ks (by k_asm) (by k_asm) (by k_asm) (by k_asm) (by k_asm) rfl rfl rfl rfl (by k_extra "room") (by k_extra "room") (by k_mem) (by k_updF) (by assumption) (by assumption) (by k_extra "ar") ?_)); (intro _ _ _ _ _ _ _ _ _ _ hnN hne1); (try dsimp only at hnN); (simp only [List.forall_mem_cons, List.not_mem_nil, false_implies, implies_true, and_true] at hne1); (try dsimp only))
  k_with "own exec While Compare cons nil" =>
    (refine Stop.out ?_)
  k_with "own eval ListComp" =>
    (k_here; lcg_look; k_dflt (refine LCg.ListComp_U (F₀ := by k_asm) (by with_unfolding_all rfl) (by decide) (by rfl) (by decide) (by rfl) ?_))
  k_with "own exec Assign cons ListComp" =>
    (k_here; lcg_look; k_dflt (refine LCg.Assign_ListComp_U (F₀ := by k_asm) (by rfl) (by with_unfolding_all rfl) (by with_unfolding_all rfl) (by decide) (by rfl) (by decide) (by rfl) (by rfl) (by rfl) ?_))
  k_with "own eval ListComp" =>
    (k_here; lcf_look; k_dflt (refine LCg.ListComp_U (F₀ := by k_asm) (by with_unfolding_all rfl) (by decide) (by rfl) (by decide) (by rfl) ?_))
  k_with "own exec Assign cons ListComp" =>
    (k_here; lcf_look; k_dflt (refine LCg.Assign_ListComp_U (F₀ := by k_asm) (by rfl) (by with_unfolding_all rfl) (by with_unfolding_all rfl) (by decide) (by rfl) (by decide) (by rfl) (by rfl) (by rfl) ?_))
  k_with "own eval ListComp" =>
    (k_here; lct_look; k_dflt (refine LCt.ListComp_T (F₀ := by k_asm) (by with_unfolding_all rfl) (by decide) (by rfl) (by decide) (by rfl) ?_))
  k_with "own exec Assign cons ListComp" =>
    (k_here; lct_look; k_dflt (refine LCt.Assign_ListComp_T (F₀ := by k_asm) (by rfl) (by with_unfolding_all rfl) (by with_unfolding_all rfl) (by decide) (by rfl) (by decide) (by rfl) (by rfl) (by rfl) ?_))
  k_with "own CompSrc" =>
    (k_here; k_dflt (first
    | (refine LCg.CompSrc.ledger (by rfl) (by k_asm) (by k_asm) (by k_mem) (by rw [List.size_toArray, PySem.sizeLine_eq]; (first | omega | (simp only [List.length_append, List.length_cons, List.length_nil, List.length_map]; omega))) ?_; intro g'; refine Stop.out ?_)
    | (refine LCg.CompSrc.base (by rfl) (by k_asm) (by k_asm) (by assumption) (by rw [List.size_toArray, PySem.sizeLine_eq]; (first | omega | (simp only [List.length_append, List.length_cons, List.length_nil, List.length_map]; omega))) ?_; intro g'; refine Stop.out ?_)
    | (refine LCg.CompSrc.range (by rfl) (by k_asm) (by k_asm) (by assumption) (small_one (by omega) (by omega) (by omega) (by omega)) (rangeSize_nat _ _) (by rw [PySem.sizeLine_eq]; omega) ?_; intro g'; refine Stop.out ?_)))
  k_with "own CompSrcT" =>
    (k_here; k_dflt (first
    | (refine LCt.CompSrcT.ledger (by rfl) (by k_asm) (by k_asm) (by k_mem) (by rw [List.size_toArray, PySem.sizeLine_eq]; (first | omega | (simp only [List.length_append, List.length_cons, List.length_nil, List.length_map]; omega))) ?_; intro g'; refine Stop.out ?_)
    | (refine LCt.CompSrcT.base (by rfl) (by k_asm) (by k_asm) (by assumption) (by rw [List.size_toArray, PySem.sizeLine_eq]; (first | omega | (simp only [List.length_append, List.length_cons, List.length_nil, List.length_map]; omega))) ?_; intro g'; refine Stop.out ?_)
    | (refine LCt.CompSrcT.range (by rfl) (by k_asm) (by k_asm) (by assumption) (small_one (by omega) (by omega) (by omega) (by omega)) (rangeSize_nat _ _) (by rw [PySem.sizeLine_eq]; omega) ?_; intro g'; refine Stop.out ?_)))
  k_with "own exec For Name Call cons nil" =>
    (refine Stop.out ?_)
  k_with "own call ref" =>
    (
    (with_reducible show wpAny _ _ (call (Value.ref 138) _) _ _ _);
    (k_dflt (refine draw_Kb (by k_asm) (by k_asm) (by k_asm) (by k_asm) (by k_asm) rfl rfl rfl rfl (by k_extra "room") (by k_extra "room") (by k_updF) (by assumption) (by assumption) (by k_extra "ar") (by k_extra "ar") (by k_extra "ar") ?_)); (intro _ _ _ _ _ _ _ hpO hnF hnN); (try dsimp only at hnN); (try dsimp only))
  k_with "own call type:range" =>
    (k_here; (k_dflt (refine range1_rows (by k_asm) (by k_asm) ?_)); intro _ _ _ _ _ _ _ hnN _; (try dsimp only))
  k_with "own subscriptTail" =>
    ((with_reducible show wpAny _ _ (subscriptTail _ _ (Value.ref _) (Value.int _ _)) _ _ _); (k_dflt (refine item_bytes (by k_asm) (by k_mem) (by repeat (first | exact BytesIn.nil | apply BytesIn.cons)) (by assumption) (by (simp only [List.length_cons, List.length_nil]; k_extra "ar")) (by k_extra "ar") ?_)); intro _ _ hbm; have hlb := len7 hbm rfl)
  k_with "own getMethod str" =>
    (refine method_enc ?_)
  k_with "own getMethod bytes" =>
    (refine method_bjoin ?_)
  k_with "own call builtin:str.encode" =>
    (k_dflt (refine enc_K (by k_extra "ar") ?_); intro _ _)
  k_with "own call builtin:bytes.join" =>
    (k_here; (k_dflt (refine join_led (by k_asm) (by k_mem) (by assumption) (by assumption) (by assumption) ?_)); intro _ _)
  k_with "own binaryOp Add bytes bytes" =>
    ((with_reducible show wpAny _ _ (binaryOp _ (Value.bytes (List.toArray _) _) (Value.bytes (List.toArray _) _)) _ _ _); (k_dflt (refine add_B (by first | k_extra "ar" | (simp only [List.length_cons, List.length_nil, List.length_append]; k_extra "ar")) ?_)); intro _ _)
  trivial
/-- two addresses that differ, hidden from k_extra "ar" -/
def NeF (a b : Nat) : Prop := a ≠ b
theorem NeF.ne {a b : Nat} (h : NeF a b) : a ≠ b := h
theorem NeF.ne' {a b : Nat} (h : NeF a b) : b ≠ a := Ne.symm h
section
variable {w : World} {A : Around} {s : Shared} {base : Heap} {env : Env} {outer : List Env} {A₀ : Around} {h₀ : Heap} {L : Addr} {m : Str → Option Value} {mean : ExcName → Option Value} {mg mb : Str → Option Value} {news : List (Addr × Obj)} {gN : Obj → List (Addr × Obj)} {Q E : Value → Shared → Prop}
theorem pen_K {sc : Addr} {vs : List Value} {xs : List Int}
    (F : Fr h₀ L s.heap m) (N : News h₀ L s.heap news) (B : Below A₀ base outer h₀) (X : (Mine.hd.heap_39 w.params).In h₀) (T : Top Mine.hd.view_39 (looseW Mine.hd.view_39 []) mean mg mb h₀) (hA : A.frames = some (env :: outer)) (hf : env.frame = some L) (hk : env.scope.kind = .function) (hh : A.handled = none)
    (hd : A.depth + 15 < recursionLimit) (hu : A.units + 100 < cLine) (hcl : h₀.IsList sc (List.toArray vs)) (hi : IntsAre vs xs) (hlen : xs.length ≤ 63)
    (h : ∀ a ca ws ys h' tk' po n, Fr h₀ L h' m → News h₀ L h' ((a, po) :: (ca, PySem.W.listOf (List.toArray ws) n) :: news) → PenO ca 0 po → IntsAre ws ys → ys.length ≤ 63 → NeF ca a → (∀ p ∈ news, NeF p.1 a) → (∀ p ∈ news, NeF p.1 ca) → Q (.ref a) { s with heap := h', toks := tk' }) :
    wpAny (model PySem.Challenge.rw_no0353_01.row.prog w) A (call (.ref 131) [.ref sc]) Q E s := by
  have C : Ctx w A s.heap [] base env outer A₀ h₀ L m mean mg mb := ⟨B, F, X, T, hA, hf, hk, hh, fun _ ha => nomatch ha⟩
  refine pen_spec C hd hu (hcl.at fun o e => F.keep _ o e) hi hlen fun a ca ws ys h' tk' po n kk hn hP hI hL => ?_
  refine h a ca ws ys h' tk' po n (C.fr kk) (hn.news F (news_kept N kk fun _ _ q => nomatch q)) hP hI hL (fun e => ?_) (hn.ne N _ (.head _)) (hn.ne N _ (.tail _ (.head _)))
  obtain ⟨great, state, place, t1, t2, t3, n', rfl, _⟩ := hP
  have h1 := (hn _ (.head _)).1
  have h2 := (hn _ (.tail _ (.head _))).1
  have e' : ca = a := e
  simp only [e'] at h1 h2
  rw [h1] at h2
  have h3 := congrArg (fun o : Option Obj => match o with | some ⟨_, _, .seq a _, _⟩ => a.toList | _ => []) h2
  simp only at h3
  rw [← h3] at hI
  cases hI

theorem cmd_K {pen cells : Addr} {po co : Obj} {Bd turn : Int} {t4 : Tok}
    (F : Fr h₀ L s.heap m) (N : News h₀ L s.heap news) (B : Below A₀ base outer h₀) (X : (Mine.hd.heap_39 w.params).In h₀) (T : Top Mine.hd.view_39 (looseW Mine.hd.view_39 []) mean mg mb h₀) (hA : A.frames = some (env :: outer)) (hf : env.frame = some L) (hk : env.scope.kind = .function) (hh : A.handled = none)
    (hd : A.depth + 15 < recursionLimit) (hu : A.units + 100 < cLine) (U : UpdF pen po news gN) (hP : PenO cells Bd po) (hm : (cells, co) ∈ news) (hc : CellsO co) (hne : @Ne Nat cells pen) (hB : Bd < 9000) (ht0 : 0 ≤ turn) (ht5 : turn < 5)
    (h : ∀ a hl t hv nh o hs po' h' tk', PenO cells (Bd + 9) po' → Fr h₀ L h' m → News h₀ L h' ((a, tupleOf [.bytes (List.toArray o) t, .ref hl]) :: (hl, PySem.W.listOf (List.toArray hv) nh) :: gN po') → IntsAre hv (hs.map fun n : Nat => (n : Int)) → CmdOf turn o hs → o.length ≤ 62 → hs.length ≤ 2 → NeF hl a → (∀ p ∈ news, NeF p.1 a) → (∀ p ∈ news, NeF p.1 hl) → Q (.ref a) { s with heap := h', toks := tk' }) :
    wpAny (model PySem.Challenge.rw_no0353_01.row.prog w) A (call (.ref 157) [.ref pen, .int turn t4]) Q E s := by
  have md := updF_mem U
  have C : Ctx w A s.heap [pen] base env outer A₀ h₀ L m mean mg mb := ⟨B, F, X, T, hA, hf, hk, hh, fun a ha => by rw [List.mem_singleton.mp ha]; exact ⟨(N _ md).2.2, (N _ md).2.1⟩⟩
  obtain ⟨vs, xs, n, rfl, hi, hlen⟩ := hc
  refine command_spec C hd hu (N _ md).1 hP (PySem.IsL.isList (n := n) (N _ hm).1) hi hlen hne hB ht0 ht5 fun a hl t hv nh o hs po' h' tk' kk hn ho hP' hI hC hO hH => ?_
  refine h a hl t hv nh o hs po' h' tk' hP' (C.fr kk) (hn.news F (upd_news N U kk ho)) hI hC hO hH (fun e => ?_) (hn.ne N _ (.head _)) (hn.ne N _ (.tail _ (.head _)))
  have h1 := (hn _ (.head _)).1
  have h2 := (hn _ (.tail _ (.head _))).1
  have e' : hl = a := e
  simp only [e'] at h1 h2
  rw [h1] at h2
  have h3 := congrArg (fun o : Option Obj => o.map (·.cls)) h2
  simp at h3

section
variable {x dx : Addr} {held held' : Bs} {asked asked' : Int} {k1 t1 k2 t2 : Tok}
theorem add_K {o : Bs} {t : Tok}
    (F : Fr h₀ L s.heap m) (N : News h₀ L s.heap news) (B : Below A₀ base outer h₀) (X : (Mine.hd.heap_39 w.params).In h₀) (T : Top Mine.hd.view_39 (looseW Mine.hd.view_39 []) mean mg mb h₀) (hA : A.frames = some (env :: outer)) (hf : env.frame = some L) (hk : env.scope.kind = .function) (hh : A.handled = none)
    (hd : A.depth + 15 < recursionLimit) (hu : A.units + 100 < cLine) (mx : (x, instObj 122 dx) ∈ news) (U : UpdF dx (cutDict w held asked k1 t1 k2 t2) news gN) (hne : @Ne Nat x dx) (hl : held.length + o.length ≤ 100000)
    (h : ∀ k1 t1 k2 t2 h' tk', Fr h₀ L h' m → News h₀ L h' (gN (cutDict w (held ++ o) asked k1 t1 k2 t2)) → Q .none { s with heap := h', toks := tk' }) :
    wpAny (model PySem.Challenge.rw_no0353_01.row.prog w) A (call (.ref 98) [.ref x, .bytes o.toArray t]) Q E s :=
  have md := updF_mem U
  have C : Ctx w A s.heap [x, dx] base env outer A₀ h₀ L m mean mg mb := ⟨B, F, X, T, hA, hf, hk, hh, cut_off N mx md⟩
  add_spec C hd hu ⟨hne, (N _ mx).1, _, _, _, _, (N _ md).1⟩ hl fun h' tk' kk hc => by
    obtain ⟨_, hx, k1, t1, k2, t2, hdx⟩ := hc
    exact h _ _ _ _ h' tk' (C.fr kk) (cut_news N U mx kk hx hdx)
theorem steps_K {sts : List Step}
    (F : Fr h₀ L s.heap m) (N : News h₀ L s.heap news) (B : Below A₀ base outer h₀) (X : (Mine.hd.heap_39 w.params).In h₀) (T : Top Mine.hd.view_39 (looseW Mine.hd.view_39 []) mean mg mb h₀) (hA : A.frames = some (env :: outer)) (hf : env.frame = some L) (hk : env.scope.kind = .function) (hh : A.handled = none)
    (hd : A.depth + 25 < recursionLimit) (hu : A.units + 140 < cLine) (mx : (x, instObj 122 dx) ∈ news) (U : UpdF dx (cutDict w held asked k1 t1 k2 t2) news gN) (hS : Steps held asked sts held' asked') (hne : @Ne Nat x dx) (hl : held.length ≤ 100000) (hlen : sts.length < 40)
    (h : ∀ a vs n tl k1 t1 k2 t2 h' tk', Fr h₀ L h' m → News h₀ L h' ((a, PySem.W.listOf (List.toArray vs) n) :: gN (cutDict w held' asked' k1 t1 k2 t2) ++ tl) → StepsIn tl vs sts → OwnOff tl (a :: news.map (·.1)) → (∀ p ∈ news, NeF p.1 a) → Q (.ref a) { s with heap := h', toks := tk' }) :
    wpAny (model PySem.Challenge.rw_no0353_01.row.prog w) A (call (.ref 164) [.ref x]) Q E s :=
  have md := updF_mem U
  have C : Ctx w A s.heap [x, dx] base env outer A₀ h₀ L m mean mg mb := ⟨B, F, X, T, hA, hf, hk, hh, cut_off N mx md⟩
  steps_spec C hd hu ⟨hne, (N _ mx).1, _, _, _, _, (N _ md).1⟩ hl hS hlen fun a vs n tl h' tk' kk hc hn hst hta => by
    obtain ⟨_, hx, k1, t1, k2, t2, hdx⟩ := hc
    have NN := hn.news F (cut_news N U mx kk hx hdx)
    refine h a vs n tl k1 t1 k2 t2 h' tk' (C.fr kk) (cb_drop NN fun p hp => ?_) hst ?_ (hn.ne N _ (.head _))
    · simp only [List.cons_append, List.mem_cons, List.mem_append] at hp ⊢
      rcases hp with hp | hp | hp
      · exact .inl hp
      · exact .inr (.inr hp)
      · exact .inr (.inl hp)
    · intro p hp b hb
      rcases List.mem_cons.mp hb with rfl | hb
      · exact hta p hp
      · obtain ⟨q, hq, rfl⟩ := List.mem_map.mp hb
        exact fun e => hn.ne N p (.tail _ hp) q hq e.symm
theorem line_K
    (F : Fr h₀ L s.heap m) (N : News h₀ L s.heap news) (B : Below A₀ base outer h₀) (X : (Mine.hd.heap_39 w.params).In h₀) (T : Top Mine.hd.view_39 (looseW Mine.hd.view_39 []) mean mg mb h₀) (hA : A.frames = some (env :: outer)) (hf : env.frame = some L) (hk : env.scope.kind = .function) (hh : A.handled = none)
    (hd : A.depth + 20 < recursionLimit) (hu : A.units + 120 < cLine) (mx : (x, instObj 122 dx) ∈ news) (U : UpdF dx (cutDict w held asked k1 t1 k2 t2) news gN) (hne : @Ne Nat x dx) (hl : held.length ≤ 100000) {e : Nat} (he : findCR held 0 = some e)
    (h : ∀ t k1 t1 k2 t2 h' tk', Fr h₀ L h' m → News h₀ L h' (gN (cutDict w (held.drop (e + 2)) (-1) k1 t1 k2 t2)) → Q (.bytes (held.take e).toArray t) { s with heap := h', toks := tk' }) :
    wpAny (model PySem.Challenge.rw_no0353_01.row.prog w) A (call (.ref 105) [.ref x]) Q E s :=
  have md := updF_mem U
  have C : Ctx w A s.heap [x, dx] base env outer A₀ h₀ L m mean mg mb := ⟨B, F, X, T, hA, hf, hk, hh, cut_off N mx md⟩
  line_spec C hd hu ⟨hne, (N _ mx).1, _, _, _, _, (N _ md).1⟩ hl fun v h' tk' kk hc => by
    rw [he] at hc
    obtain ⟨⟨t, rfl⟩, _, hx, k1, t1, k2, t2, hdx⟩ := hc
    exact h _ _ _ _ _ h' tk' (C.fr kk) (cut_news N U mx kk hx hdx)
theorem line_K0
    (F : Fr h₀ L s.heap m) (N : News h₀ L s.heap news) (B : Below A₀ base outer h₀) (X : (Mine.hd.heap_39 w.params).In h₀) (T : Top Mine.hd.view_39 (looseW Mine.hd.view_39 []) mean mg mb h₀) (hA : A.frames = some (env :: outer)) (hf : env.frame = some L) (hk : env.scope.kind = .function) (hh : A.handled = none)
    (hd : A.depth + 20 < recursionLimit) (hu : A.units + 120 < cLine) (mx : (x, instObj 122 dx) ∈ news) (U : UpdF dx (cutDict w held asked k1 t1 k2 t2) news gN) (hne : @Ne Nat x dx) (hl : held.length ≤ 100000) (he : findCR held 0 = none)
    (h : ∀ k1 t1 k2 t2 h' tk', Fr h₀ L h' m → News h₀ L h' (gN (cutDict w held asked k1 t1 k2 t2)) → Q .none { s with heap := h', toks := tk' }) :
    wpAny (model PySem.Challenge.rw_no0353_01.row.prog w) A (call (.ref 105) [.ref x]) Q E s :=
  have md := updF_mem U
  have C : Ctx w A s.heap [x, dx] base env outer A₀ h₀ L m mean mg mb := ⟨B, F, X, T, hA, hf, hk, hh, cut_off N mx md⟩
  line_spec C hd hu ⟨hne, (N _ mx).1, _, _, _, _, (N _ md).1⟩ hl fun v h' tk' kk hc => by
    rw [he] at hc
    obtain ⟨rfl, _, hx, k1, t1, k2, t2, hdx⟩ := hc
    exact h _ _ _ _ h' tk' (C.fr kk) (cut_news N U mx kk hx hdx)
end
end
end
/-! text LawS -/
section
theorem off_LawS : True := by
  w_top off
  trivial
noncomputable def lawBody : List Stmt := match PySem.Challenge.pw_no0353_01.main.body.getLast? with | some (.FunctionDef _ _ body ..) => body | _ => []
noncomputable def lawScope : Scope := match PySem.Challenge.pw_no0353_01.main.body.getLast? with | some (.FunctionDef _ _ _ _ _ _ scope ..) => scope | _ => default
noncomputable abbrev lawEnv (L fa : Addr) (cd : Value) : Env := envOfC (Str.ofString "law") lawScope L fa cd
abbrev LawGoal (k : Nat) (w : World) (dp un : Nat) (gd : Option (List Code)) (L fa : Addr) (cd : Value) (outer : List Env) (Q : Flow → Shared → Prop) (E : Value → Shared → Prop) (s : Shared) : Prop :=
  wpAny (model PySem.Challenge.rw_no0353_01.row.prog w) (ktrTop dp un gd (Str.ofString "law") lawScope L fa cd (cellsFrom (L + 1) lawScope.names []) outer) (execs (lawBody.drop k) (lawEnv L fa cd)) Q E s
structure LawG (w : World) (dp un : Nat) (L : Addr) (outer : List Env) (A₀ : Around) (base h₀ : Heap) (mean : ExcName → Option Value) (mg mb : Str → Option Value) (Q : Flow → Shared → Prop) (s : Shared) : Prop where
  B : Below A₀ base outer h₀
  X : (Mine.hd.heap_39 w.params).In h₀
  T : Top Mine.hd.view_39 (looseW Mine.hd.view_39 []) mean mg mb h₀
  hd : dp + 60 < recursionLimit
  hu : un + 300 < cLine
  retd : ∀ h' tk dr m', Fr h₀ L h' m' → Q (.ret (.bool true)) { s with heap := h', toks := tk, drawn := dr }
theorem LawG.ret {w : World} {dp un : Nat} {L : Addr} {outer : List Env} {A₀ : Around} {base h₀ : Heap} {mean : ExcName → Option Value} {mg mb : Str → Option Value} {Q : Flow → Shared → Prop} {s : Shared}
    (G : LawG w dp un L outer A₀ base h₀ mean mg mb Q s) (h' : Heap) (tk : Nat) (m' : Str → Option Value) (F : Fr h₀ L h' m') : Q (.ret (.bool true)) { s with heap := h', toks := tk } := G.retd h' tk s.drawn m' F
theorem LawG.tod {w : World} {dp un : Nat} {L : Addr} {outer : List Env} {A₀ : Around} {base h₀ : Heap} {mean : ExcName → Option Value} {mg mb : Str → Option Value} {Q : Flow → Shared → Prop} {s : Shared}
    (G : LawG w dp un L outer A₀ base h₀ mean mg mb Q s) (h' : Heap) (tk : Nat) (dr : Drawn) : LawG w dp un L outer A₀ base h₀ mean mg mb Q { s with heap := h', toks := tk, drawn := dr } := ⟨G.B, G.X, G.T, G.hd, G.hu, G.retd⟩
theorem LawG.to {w : World} {dp un : Nat} {L : Addr} {outer : List Env} {A₀ : Around} {base h₀ : Heap} {mean : ExcName → Option Value} {mg mb : Str → Option Value} {Q : Flow → Shared → Prop} {s : Shared}
    (G : LawG w dp un L outer A₀ base h₀ mean mg mb Q s) (h' : Heap) (tk : Nat) : LawG w dp un L outer A₀ base h₀ mean mg mb Q { s with heap := h', toks := tk } := ⟨G.B, G.X, G.T, G.hd, G.hu, fun h' tk dr m' => G.retd h' tk dr m'⟩
/-- the law from statement k on, where St holds -/
def SegAt (k : Nat) (St : World → Heap → Addr → Heap → Prop) : Prop := ∀ (w : World) (dp un : Nat) (gd : Option (List Code)) (L fa : Addr) (cd : Value) (outer : List Env) (A₀ : Around) (base h₀ : Heap) (mean : ExcName → Option Value) (mg mb : Str → Option Value) (Q : Flow → Shared → Prop) (s : Shared),
  LawG w dp un L outer A₀ base h₀ mean mg mb Q s → St w h₀ L s.heap → LawGoal k w dp un gd L fa cd outer Q (fun _ _ => False) s
theorem allLt_mem {d : Nat} : ∀ {l : List (Addr × Obj)}, AllLt d l → ∀ p ∈ l, @LT.lt Nat _ p.1 d
  | [], _, p, hp => nomatch hp
  | _ :: _, x, p, hp => by
    rcases List.mem_cons.mp hp with rfl | hp
    · exact x.1
    · exact allLt_mem x.2 p hp
theorem off1_mem {D : Addr} : ∀ {l : List (Addr × Obj)}, LCg.Off1 D l → ∀ p ∈ l, NeF p.1 D
  | [], _, p, hp => nomatch hp
  | _ :: _, x, p, hp => by
    rcases List.mem_cons.mp hp with rfl | hp
    · exact x.1
    · exact off1_mem x.2 p hp
theorem led_head {h₀ h : Heap} {L a : Addr} {o : Obj} {r : List (Addr × Obj)} (_ : News h₀ L h ((a, o) :: r)) : ∃ a', a' = a := ⟨_, rfl⟩
abbrev CellV (o : Obj) (v : Value) : Prop := o.data = .cell (some v)
abbrev AllNe (l : List Nat) : Prop := l.Pairwise NeF
/-- what the first loop leaves -/
structure Made (cs : List Cmd) : Prop where
  all : AllCom cs
  some : 1 ≤ cs.length
  few : cs.length ≤ 5
  short : ∀ c ∈ cs, c.1.length ≤ 62
  heads : ∀ c ∈ cs, c.2.length ≤ 2
  tags : ∀ (i : Nat) (c : Cmd), cs[i]? = Option.some c → ∃ r : Bs, c.1 = [116, (48 + (i : Int)).toNat.toUInt8, 32] ++ r
theorem kw_LawS_1 : True := by
  k_with "own k_ne" =>
    (refine neN ?_; (try dsimp only); first | exact NeF.ne (by with_reducible assumption) | exact NeF.ne' (by with_reducible assumption) | k_extra "ar")
  k_with "allne" =>
    ((try simp only [AllNe, List.pairwise_cons, List.mem_cons, List.not_mem_nil, or_false, forall_eq_or_imp, forall_eq, List.Pairwise.nil, and_true, false_implies, implies_true]); repeat' (first | apply And.intro | (show @_root_.Ne Nat _ _; first | exact NeF.ne (by assumption) | exact NeF.ne' (by assumption) | k_extra "ar")))
  trivial
theorem octs_len {cs : List Cmd} (h : Made cs) : (octs cs).length ≤ 310 := by
  have h1 := flat_len (k := 62) (cs.map (·.1)) (fun b hb => by
    obtain ⟨c, hc, rfl⟩ := List.mem_map.mp hb
    exact h.short c hc)
  have h2 := h.few
  rw [List.length_map] at h1
  show (cs.map (·.1)).flatten.length ≤ 310
  k_extra "ar"
theorem placed_len : ∀ {cs : List Cmd} {k : Nat}, (∀ c ∈ cs, c.2.length ≤ k) → (Placed cs).length ≤ k * cs.length
  | [], k, _ => Nat.zero_le _
  | (o, hs) :: r, k, h => by
    have h1 := h (o, hs) (.head _)
    have h2 := placed_len (cs := r) (k := k) fun c q => h c (.tail _ q)
    rw [Placed, List.length_append, List.length_map, List.length_cons, Nat.mul_add, Nat.mul_one]
    simp only at h1
    k_extra "ar"
abbrev restsL : List Bs := [[], [116, 57, 32, 76, 73, 83, 84], [116, 57, 32, 88, 32, 123, 53, 125, 13, 10, 97, 98]]
/-- what stands from the first loop on -/
structure Kern (B : Int) (m : Str → Option Value) (cs : List Cmd) (oD oP po co : Obj) (pen ca cl pl : Addr) (cv pv : List Value) : Prop where
  D : ∃ t, CellV oD (.bytes (List.toArray (octs cs)) t)
  P : CellV oP (.ref pen)
  po : PenO ca B po
  co : CellsO co
  cv : BytesIn cv (cs.map (·.1))
  pv : IntsAre pv ((Placed cs).map fun n : Nat => (n : Int))
  made : Made cs
  e1 : m (Str.ofString "commands") = some (.ref cl)
  e2 : m (Str.ofString "places") = some (.ref pl)
inductive At5 (w : World) (h₀ : Heap) (L : Addr) (h : Heap) : Prop
  | mk : ∀ m cs oD oP po co pen ca cl pl cv pv nc np, (Kern 100 m cs oD oP po co pen ca cl pl cv pv) → (Fr h₀ L h m) → (News h₀ L h [(L + 2, oD), (L + 1, oP), (pen, po), (ca, co), (cl, PySem.W.listOf (List.toArray cv) nc), (pl, PySem.W.listOf (List.toArray pv) np)]) → (AllNe [L + 2, L + 1, pen, ca, cl, pl]) → At5 w h₀ L h
inductive At8 (w : World) (h₀ : Heap) (L : Addr) (h : Heap) : Prop
  | mk : ∀ m cs oD oP po co pen ca cl pl cv pv nc np x dx rest k1 t1 k2 t2, (Kern 101 m cs oD oP po co pen ca cl pl cv pv) → (Fr h₀ L h m) → (News h₀ L h [(x, instObj 122 dx), (dx, cutDict w (octs cs ++ rest) (-1) k1 t1 k2 t2), (L + 2, oD), (L + 1, oP), (pen, po), (ca, co), (cl, PySem.W.listOf (List.toArray cv) nc), (pl, PySem.W.listOf (List.toArray pv) np)]) → (AllNe [x, dx, L + 2, L + 1, pen, ca, cl, pl]) → (rest ∈ restsL) → (m (Str.ofString "whole") = some (.ref x)) → ∀ t, (m (Str.ofString "rest") = some (.bytes rest.toArray t)) → At8 w h₀ L h
inductive At10 (w : World) (h₀ : Heap) (L : Addr) (h : Heap) : Prop
  | mk : ∀ m cs oD oP po co pen ca cl pl cv pv nc np du dv nd tl, (Kern 101 m cs oD oP po co pen ca cl pl cv pv) → (Fr h₀ L h m) → (News h₀ L h ([(L + 2, oD), (L + 1, oP), (pen, po), (ca, co), (cl, PySem.W.listOf (List.toArray cv) nc), (pl, PySem.W.listOf (List.toArray pv) np), (du, PySem.W.listOf (List.toArray dv) nd)] ++ tl)) → (AllNe [L + 2, L + 1, pen, ca, cl, pl, du]) → (OwnOff tl [L + 2, L + 1, pen, ca, cl, pl, du]) → (StepsIn tl dv (cs.map cmdS)) → (m (Str.ofString "due") = some (.ref du)) → At10 w h₀ L h
/-- the places where the octets are cut -/
structure Cuts (cs : List Cmd) (ks : List Nat) : Prop where
  few : ks.length ≤ 20
  up : ks.Pairwise (· < ·)
  bound : ∀ k ∈ ks, k ≤ (octs cs).length
inductive At14 (w : World) (h₀ : Heap) (L : Addr) (h : Heap) : Prop
  | mk : ∀ m cs oD cl pl cv pv nc np du dv nd tl cu uv nu ks x dx fo k1 t1 k2 t2, ((∃ t, CellV oD (.bytes (List.toArray (octs cs)) t))) → (BytesIn cv (cs.map (·.1))) → (IntsAre pv ((Placed cs).map fun n : Nat => (n : Int))) → (Made cs) → (Cuts cs ks) → (Fr h₀ L h m) → (News h₀ L h ([(L + 2, oD), (cl, PySem.W.listOf (List.toArray cv) nc), (pl, PySem.W.listOf (List.toArray pv) np), (du, PySem.W.listOf (List.toArray dv) nd), (cu, PySem.W.listOf (List.toArray uv) nu), (x, instObj 122 dx), (dx, cutDict w [] (-1) k1 t1 k2 t2), (fo, PySem.W.listOf (List.toArray []) 0)] ++ tl)) → (AllNe [L + 2, cl, pl, du, cu, x, dx, fo]) → (OwnOff tl [L + 2, cl, pl, du, cu, x, dx, fo]) → (StepsIn tl dv (cs.map cmdS)) → (IntsAre uv (ks.map fun n : Nat => (n : Int))) → (m (Str.ofString "commands") = some (.ref cl)) → (m (Str.ofString "places") = some (.ref pl)) → (m (Str.ofString "due") = some (.ref du)) → (m (Str.ofString "cuts") = some (.ref cu)) → (m (Str.ofString "cutter") = some (.ref x)) → (m (Str.ofString "found") = some (.ref fo)) → ∀ t, (m (Str.ofString "begin") = some (.int 0 t)) → At14 w h₀ L h
inductive At15 (w : World) (h₀ : Heap) (L : Addr) (h : Heap) : Prop
  | mk : ∀ m cs cl cv nc du dv nd tl x dx fo fv nf asked k1 t1 k2 t2, (BytesIn cv (cs.map (·.1))) → (Made cs) → (Fr h₀ L h m) → (News h₀ L h ([(cl, PySem.W.listOf (List.toArray cv) nc), (du, PySem.W.listOf (List.toArray dv) nd), (x, instObj 122 dx), (dx, cutDict w [] asked k1 t1 k2 t2), (fo, PySem.W.listOf (List.toArray fv) nf)] ++ tl)) → (AllNe [cl, du, x, dx, fo]) → (OwnOff tl [cl, du, x, dx, fo]) → (StepsIn tl dv (cs.map cmdS)) → (StepsIn tl fv (cs.map cmdS)) → (asked ≤ 0) → (m (Str.ofString "commands") = some (.ref cl)) → (m (Str.ofString "due") = some (.ref du)) → (m (Str.ofString "cutter") = some (.ref x)) → (m (Str.ofString "found") = some (.ref fo)) → At15 w h₀ L h
end
/-! text Seg5 -/
section
theorem off_Seg5 : True := by
  w_top off
  trivial
theorem kw_Seg5_1 : True := by
  k_with "own k_room" =>
    (simp only [depth_mark, depth_under_make, depth_under_kw, depth_in1, depth_deeper, ktrTop]; k_extra "ar")
  k_with "own execs cons" =>
    ((with_reducible show wpAny _ _ (execs (Stmt.Assign [Expr.Name (Str.ofString "due") _] _ _ :: _) _) _ _ _); refine Stop.out ?_)
  k_with "own call ref" =>
    (
    (with_reducible show wpAny _ _ (call (Value.ref 138) _) _ _ _);
    (k_dflt (refine draw_Kl (by k_asm) (by k_asm) (by k_asm) (by k_asm) (by k_asm) rfl rfl rfl rfl (by k_extra "room") (by k_extra "room") (by k_updF) (by assumption) (by k_mem) (by assumption) (by k_extra "ar") (by k_extra "ar") (by k_extra "ar") ?_)); (intro _ _ _ _ _ _ _ hpO hnF hnN); (try dsimp only at hnN); (try dsimp only))
  k_with "own call ref" =>
    (
    (with_reducible show wpAny _ _ (call (Value.ref 98) _) _ _ _);
    (k_dflt (refine add_K (by k_asm) (by k_asm) (by k_asm) (by k_asm) (by k_asm) rfl rfl rfl rfl (by k_extra "room") (by k_extra "room") (by k_mem) (by k_updF) (by k_ne) (by (simp only [List.length_append, List.length_nil, List.length_cons]; k_extra "ar")) ?_)); (intro _ _ _ _ _ _ hnF hnN); (try dsimp only at hnN); (try dsimp only))
  k_with "own binaryOp Add bytes bytes" =>
    ((with_reducible show wpAny _ _ (binaryOp _ (Value.bytes (List.toArray _) _) (Value.bytes (List.toArray _) _)) _ _ _); (k_dflt (refine add_B (by first | k_extra "ar" | (simp only [List.length_cons, List.length_nil, List.length_append]; k_extra "ar")) ?_)); intro _ _)
  trivial
theorem PenO.at5 {cells : Addr} {po : Obj} (h : PenO cells 100 po) : PenO cells 100 po := h
theorem seg5 (h8 : SegAt 8 At8) : SegAt 5 At5 := by
  rintro w dp un gd L fa cd outer A₀ base h₀ mean mg mb Q s G ⟨m, cs, oD, oP, po, co, pen, ca, cl, pl, cv, pv, nc, np, K, F, N, hne⟩
  have hol := octs_len K.made
  have H8 := fun s' => h8 w dp un gd L fa cd outer A₀ base h₀ mean mg mb Q s'
  rw [known K.e1, known K.e2] at F
  have hcv := K.cv
  have hpv := K.pv
  have hM := K.made
  obtain ⟨⟨t, hD⟩, hP, hpo, hco, -, -, -, -, -⟩ := K
  have G' := G
  obtain ⟨B, X, T, hd, hu, -⟩ := G'
  simp only [AllNe, List.pairwise_cons, List.mem_cons, List.not_mem_nil, or_false, forall_eq_or_imp, forall_eq, List.Pairwise.nil, and_true, false_implies, implies_true, and_assoc] at hne
  repeat (obtain ⟨_, hne⟩ := hne)
  have KX := X
  revert KX
  unfold LawGoal
  conv in (occs := *) lawScope => whnf
  conv in (occs := *) (List.drop _ _) => whnf
  k_fill
  intro KX
  clear h8
  show wpAny _ _ _ _ _ _
  k_steps
  all_goals (
    show wpAny _ _ _ _ _ _
    rename Fr _ _ _ _ => Fe
    rename News _ _ _ _ => Ne
    refine H8 _ (G.to _ _) ⟨_, cs, oD, oP, _, co, pen, ca, cl, pl, cv, pv, nc, np, _, _, _, _, _, _, _, ⟨⟨t, hD⟩, hP, by assumption, hco, hcv, hpv, hM, rfl, rfl⟩, Fe, cb_drop Ne (by kqd_sub), by k_extra "allne", ?_, rfl, _, rfl⟩)
  · exact .head _
  · exact .tail _ (.head _)
  · exact .tail _ (.tail _ (.head _))
end
/-! text EqSteps -/
section
theorem off_EqSteps : True := by
  w_top off
  trivial
theorem kw_EqSteps_0 : True := by
  k_with_none
  k_with "pick" =>
    (with_reducible (first
    | assumption | exact And.left (by assumption) | exact And.left (And.right (by assumption)) | exact And.left (And.right (And.right (by assumption)))
    | exact And.left (And.right (And.right (And.right (by assumption)))) | exact And.left (And.right (And.right (And.right (And.right (by assumption))))) | exact And.left (And.right (And.right (And.right (And.right (And.right (by assumption)))))) | exact And.right (by assumption)))
  k_with "ne1" =>
    first
    | (with_reducible assumption) | exact _root_.Ne.symm (by with_reducible assumption) | exact Nat.ne_of_lt (by k_extra "pick") | exact Nat.ne_of_gt (by k_extra "pick")
  k_with "ar" =>
    first
    | (with_reducible assumption)
    | exact room_up (by with_reducible assumption) rfl
    | ((repeat (first | (rename _ ≠ _ => hz9; clear hz9) | (rename (_ ≠ _ ∧ _) => hz9; clear hz9))); omega)
    | omega
  k_with "own k_ne" =>
    (refine neN ?_; (try dsimp only); first | k_extra "ne1" | omega)
  k_with "room" =>
    ((try dsimp only [ktrTop]); (first | k_extra "ar" | (simp only [ktrTop, Around.in1, Around.deeper, Around.mark]; k_extra "ar")))
  k_with "own call ref" =>
    (
    (with_reducible show wpAny _ _ (call (Value.ref 49) _) _ _ _);
    (refine isfig_K (by k_asm) (by k_asm) (by k_asm) (by k_asm) (by k_asm) rfl rfl rfl rfl (by k_extra "room") (by k_extra "room") ?_); intro _ _ _ _; (try dsimp only))
  k_with "own call ref" =>
    (
    (with_reducible show wpAny _ _ (call (Value.ref 56) _) _ _ _);
    (refine numfig_K (by k_asm) (by k_asm) (by k_asm) (by k_asm) (by k_asm) rfl rfl rfl rfl (by k_extra "room") (by k_extra "room") ?_); intro _ _ _ _ _; (try dsimp only))
  k_with "own exec While" =>
    (refine Stop.out ?_)
  k_with "own exec While BoolOp" =>
    (refine Stop.out ?_)
  k_with "own subscriptTail" =>
    (k_here; (with_reducible show wpAny _ _ (subscriptTail _ _ (Value.bytes (List.toArray _) _) (Value.int _ _)) _ _ _); (refine KBy.item_N (by k_extra "ar") (by k_extra "ar") (by k_extra "ar") ?_))
  k_with "own subscriptTail" =>
    (k_here; (with_reducible show wpAny _ _ (subscriptTail _ (Expr.Slice (some _) (some _) none _) (Value.bytes (List.toArray _) _) (Value.ref _)) _ _ _); (with_reducible rename Fr _ _ _ _ => F'); (with_reducible rename News _ _ _ _ => N'); (refine slice_both (s := ⟨_, _, _, _, _⟩) F' N' (by k_extra "ar") (by k_extra "ar") (by k_extra "ar") ?_); intro _ _ _ _ _)
  k_with "own subscriptTail" =>
    (k_here; (with_reducible show wpAny _ _ (subscriptTail _ (Expr.Slice none (some _) none _) (Value.bytes (List.toArray _) _) (Value.ref _)) _ _ _); (with_reducible rename Fr _ _ _ _ => F'); (with_reducible rename News _ _ _ _ => N'); (refine slice_to (s := ⟨_, _, _, _, _⟩) F' N' (by k_extra "ar") (by k_extra "ar") ?_); intro _ _ _ _ _)
  k_with "own subscriptTail" =>
    (k_here; (with_reducible show wpAny _ _ (subscriptTail _ (Expr.Slice (some _) none none _) (Value.bytes (List.toArray _) _) (Value.ref _)) _ _ _); (with_reducible rename Fr _ _ _ _ => F'); (with_reducible rename News _ _ _ _ => N'); (refine slice_from (s := ⟨_, _, _, _, _⟩) F' N' (by k_extra "ar") (by k_extra "ar") ?_); intro _ _ _ _ _)
  k_with "own call builtin:len" =>
    (k_here; (with_reducible show wpAny _ _ (call (Value.builtin "len") [Value.bytes (List.toArray _) _]) _ _ _); (refine len_B (by first | k_extra "ar" | (simp only [List.length_take, List.length_drop, cut]; k_extra "ar")) ?_); intro _ _)
  k_with "own getMethod bytes" =>
    (refine method_find ?_)
  k_with "own call builtin:bytes.find" =>
    ((refine find3 rfl ?_); intro _ _; simp only [findV, *])
  k_with "own call ref" =>
    (
    (with_reducible show wpAny _ _ (call (Value.ref 63) _) _ _ _);
    (refine lithead_Kn (by k_asm) (by k_asm) (by k_asm) (by k_asm) (by k_asm) rfl rfl rfl rfl (by k_extra "room") (by k_extra "room") (by assumption) (by k_extra "ar") (by k_extra "ar") (by k_extra "ar") ?_); intro _ _ _ _; (try dsimp only))
  k_with "own call ref" =>
    (
    (with_reducible show wpAny _ _ (call (Value.ref 63) _) _ _ _);
    (refine lithead_Ks (by k_asm) (by k_asm) (by k_asm) (by k_asm) (by k_asm) rfl rfl rfl rfl (by k_extra "room") (by k_extra "room") (by assumption) (by k_extra "ar") (by k_extra "ar") (by k_extra "ar") ?_); intro _ _ _ _ _ _; (try dsimp only))
  k_with "own binaryOp Add bytes bytes" =>
    (k_here; (with_reducible show wpAny _ _ (binaryOp Operator.Add (Value.bytes (List.toArray _) _) (Value.bytes (List.toArray _) _)) _ _ _); (refine add_B (by k_extra "ar") ?_); intro _ _)
  k_with "own k_room" =>
    (k_extra "room")
  k_with "nes" =>
    (simp only [List.forall_mem_cons, List.not_mem_nil, false_implies, implies_true, and_true] at *)
  k_with "own call ref" =>
    (
    (with_reducible show wpAny _ _ (call (Value.ref 70) _) _ _ _);
    (refine cmdend_Kn (by k_asm) (by k_asm) (by k_asm) (by k_asm) (by k_asm) rfl rfl rfl rfl (by k_extra "room") (by k_extra "room") (by assumption) (by k_extra "ar") ?_); (intro _ _ _ _ _ _ hne1); (simp only [List.forall_mem_cons, List.not_mem_nil, false_implies, implies_true, and_true] at hne1); (try dsimp only))
  k_with "own call ref" =>
    (
    (with_reducible show wpAny _ _ (call (Value.ref 70) _) _ _ _);
    (refine cmdend_Ks (by k_asm) (by k_asm) (by k_asm) (by k_asm) (by k_asm) rfl rfl rfl rfl (by k_extra "room") (by k_extra "room") (by assumption) (by k_extra "ar") ?_); (intro _ _ _ _ _ _ _ _ hne1 hne2); (simp only [List.forall_mem_cons, List.not_mem_nil, false_implies, implies_true, and_true] at hne1 hne2); (try dsimp only))
  k_with "own call builtin:bytes.find" =>
    ((refine find2 ?_); intro _ _; simp only [findV, *])
  k_with "small" =>
    (first | k_extra "ar" | (simp only [List.length_append, List.length_cons, List.length_nil, List.length_map]; k_extra "ar"))
  k_with "own call builtin:len" =>
    (k_here; (with_reducible show wpAny _ _ (call (Value.builtin "len") [Value.ref _]) _ _ _); (k_dflt (refine len_led (by k_asm) (by k_mem) (by k_extra "small") ?_)); intro _ _; (try simp only [List.length_append, List.length_cons, List.length_nil, List.length_map]))
  k_with "own call builtin:list.append" =>
    (k_here; (with_reducible show wpAny _ _ (call (Value.builtin "list.append") [Value.ref _, _]) _ _ _); (k_dflt (refine append_led (by k_asm) (by k_asm) (by k_upd) (by k_extra "small") ?_)); intro _ _ hnN; (try dsimp only at hnN))
  k_with "own call ref" =>
    (
    (with_reducible show wpAny _ _ (call (Value.ref 119) _) _ _ _);
    (k_dflt (refine next_Kn (by k_asm) (by k_asm) (by k_asm) (by k_asm) (by k_asm) rfl rfl rfl rfl (by k_extra "room") (by k_extra "room") (by k_mem) (by k_updF) (by assumption) (by assumption) (by k_extra "ar") ?_)); (intro _ _ _ _ _ _ _ hnN); (try dsimp only at hnN); (try dsimp only))
  k_with "own call ref" =>
    (
    (with_reducible show wpAny _ _ (call (Value.ref 119) _) _ _ _);
    (k_dflt (refine next_Ks (by k_asm) (by k_asm) (by k_asm) (by k_asm) (by k_asm) rfl rfl rfl rfl (by k_extra "room") (by k_extra "room") (by k_mem) (by k_updF) (by assumption) (by assumption) (by k_extra "ar") ?_)); (intro _ _ _ _ _ _ _ _ _ _ hnN hne1); (try dsimp only at hnN); (simp only [List.forall_mem_cons, List.not_mem_nil, false_implies, implies_true, and_true] at hne1); (try dsimp only))
  k_with "own exec While Compare cons nil" =>
    (refine Stop.out ?_)
  k_with "own eval ListComp" =>
    (k_here; lcg_look; k_dflt (refine LCg.ListComp_U (F₀ := by k_asm) (by with_unfolding_all rfl) (by decide) (by rfl) (by decide) (by rfl) ?_))
  k_with "own exec Assign cons ListComp" =>
    (k_here; lcg_look; k_dflt (refine LCg.Assign_ListComp_U (F₀ := by k_asm) (by rfl) (by with_unfolding_all rfl) (by with_unfolding_all rfl) (by decide) (by rfl) (by decide) (by rfl) (by rfl) (by rfl) ?_))
  k_with "own eval ListComp" =>
    (k_here; lcf_look; k_dflt (refine LCg.ListComp_U (F₀ := by k_asm) (by with_unfolding_all rfl) (by decide) (by rfl) (by decide) (by rfl) ?_))
  k_with "own exec Assign cons ListComp" =>
    (k_here; lcf_look; k_dflt (refine LCg.Assign_ListComp_U (F₀ := by k_asm) (by rfl) (by with_unfolding_all rfl) (by with_unfolding_all rfl) (by decide) (by rfl) (by decide) (by rfl) (by rfl) (by rfl) ?_))
  k_with "own eval ListComp" =>
    (k_here; lct_look; k_dflt (refine LCt.ListComp_T (F₀ := by k_asm) (by with_unfolding_all rfl) (by decide) (by rfl) (by decide) (by rfl) ?_))
  k_with "own exec Assign cons ListComp" =>
    (k_here; lct_look; k_dflt (refine LCt.Assign_ListComp_T (F₀ := by k_asm) (by rfl) (by with_unfolding_all rfl) (by with_unfolding_all rfl) (by decide) (by rfl) (by decide) (by rfl) (by rfl) (by rfl) ?_))
  k_with "own CompSrc" =>
    (k_here; k_dflt (first
    | (refine LCg.CompSrc.ledger (by rfl) (by k_asm) (by k_asm) (by k_mem) (by rw [List.size_toArray, PySem.sizeLine_eq]; (first | omega | (simp only [List.length_append, List.length_cons, List.length_nil, List.length_map]; omega))) ?_; intro g'; refine Stop.out ?_)
    | (refine LCg.CompSrc.base (by rfl) (by k_asm) (by k_asm) (by assumption) (by rw [List.size_toArray, PySem.sizeLine_eq]; (first | omega | (simp only [List.length_append, List.length_cons, List.length_nil, List.length_map]; omega))) ?_; intro g'; refine Stop.out ?_)
    | (refine LCg.CompSrc.range (by rfl) (by k_asm) (by k_asm) (by assumption) (small_one (by omega) (by omega) (by omega) (by omega)) (rangeSize_nat _ _) (by rw [PySem.sizeLine_eq]; omega) ?_; intro g'; refine Stop.out ?_)))
  k_with "own CompSrcT" =>
    (k_here; k_dflt (first
    | (refine LCt.CompSrcT.ledger (by rfl) (by k_asm) (by k_asm) (by k_mem) (by rw [List.size_toArray, PySem.sizeLine_eq]; (first | omega | (simp only [List.length_append, List.length_cons, List.length_nil, List.length_map]; omega))) ?_; intro g'; refine Stop.out ?_)
    | (refine LCt.CompSrcT.base (by rfl) (by k_asm) (by k_asm) (by assumption) (by rw [List.size_toArray, PySem.sizeLine_eq]; (first | omega | (simp only [List.length_append, List.length_cons, List.length_nil, List.length_map]; omega))) ?_; intro g'; refine Stop.out ?_)
    | (refine LCt.CompSrcT.range (by rfl) (by k_asm) (by k_asm) (by assumption) (small_one (by omega) (by omega) (by omega) (by omega)) (rangeSize_nat _ _) (by rw [PySem.sizeLine_eq]; omega) ?_; intro g'; refine Stop.out ?_)))
  k_with "own exec For Name Call cons nil" =>
    (refine Stop.out ?_)
  k_with "own call ref" =>
    (
    (with_reducible show wpAny _ _ (call (Value.ref 138) _) _ _ _);
    (k_dflt (refine draw_Kb (by k_asm) (by k_asm) (by k_asm) (by k_asm) (by k_asm) rfl rfl rfl rfl (by k_extra "room") (by k_extra "room") (by k_updF) (by assumption) (by assumption) (by k_extra "ar") (by k_extra "ar") (by k_extra "ar") ?_)); (intro _ _ _ _ _ _ _ hpO hnF hnN); (try dsimp only at hnN); (try dsimp only))
  k_with "own call type:range" =>
    (k_here; (k_dflt (refine range1_rows (by k_asm) (by k_asm) ?_)); intro _ _ _ _ _ _ _ hnN _; (try dsimp only))
  k_with "own subscriptTail" =>
    ((with_reducible show wpAny _ _ (subscriptTail _ _ (Value.ref _) (Value.int _ _)) _ _ _); (k_dflt (refine item_bytes (by k_asm) (by k_mem) (by repeat (first | exact BytesIn.nil | apply BytesIn.cons)) (by assumption) (by (simp only [List.length_cons, List.length_nil]; k_extra "ar")) (by k_extra "ar") ?_)); intro _ _ hbm; have hlb := len7 hbm rfl)
  k_with "own getMethod str" =>
    (refine method_enc ?_)
  k_with "own getMethod bytes" =>
    (refine method_bjoin ?_)
  k_with "own call builtin:str.encode" =>
    (k_dflt (refine enc_K (by k_extra "ar") ?_); intro _ _)
  k_with "own call builtin:bytes.join" =>
    (k_here; (k_dflt (refine join_led (by k_asm) (by k_mem) (by assumption) (by assumption) (by assumption) ?_)); intro _ _)
  k_with "own binaryOp Add bytes bytes" =>
    ((with_reducible show wpAny _ _ (binaryOp _ (Value.bytes (List.toArray _) _) (Value.bytes (List.toArray _) _)) _ _ _); (k_dflt (refine add_B (by first | k_extra "ar" | (simp only [List.length_cons, List.length_nil, List.length_append]; k_extra "ar")) ?_)); intro _ _)
  k_with "own k_ne" =>
    (refine neN ?_; (try dsimp only); first | exact NeF.ne (by with_reducible assumption) | exact NeF.ne' (by with_reducible assumption) | k_extra "ar")
  k_with "allne" =>
    ((try simp only [AllNe, List.pairwise_cons, List.mem_cons, List.not_mem_nil, or_false, forall_eq_or_imp, forall_eq, List.Pairwise.nil, and_true, false_implies, implies_true]); repeat' (first | apply And.intro | (show @_root_.Ne Nat _ _; first | exact NeF.ne (by assumption) | exact NeF.ne' (by assumption) | k_extra "ar")))
  trivial
open SeqAt
theorem all_range_eq {α : Type} [DecidableEq α] : ∀ (xs ys : List α), xs.length = ys.length → ((List.range xs.length).all fun j => decide (xs[j]? = ys[j]?)) = decide (xs = ys) := by
  intro xs ys hl
  rw [Bool.eq_iff_iff, List.all_eq_true, decide_eq_true_eq]
  constructor
  · intro h
    refine List.ext_getElem? fun i => ?_
    by_cases hi : i < xs.length
    · exact of_decide_eq_true (h i (List.mem_range.mpr hi))
    · rw [List.getElem?_eq_none (by k_extra "ar"), List.getElem?_eq_none (by k_extra "ar")]
  · rintro rfl i _
    simp
section
variable {A : Around} {s : Shared}
theorem eqAt_bytes (b c : Array UInt8) (t u : Tok) : EqAt A s (.bytes b t) (.bytes c u) (decide (b.toList = c.toList)) := fun prog w E Q h => eqBool_bytes h
theorem eqAt_step {a b : Addr} {tag tag' : Str} {x x' : Bs} {t1 t2 t3 t4 : Tok} (ha : s.heap.get? a = some (tupleOf [.str tag t1, .bytes x.toArray t2])) (hb : s.heap.get? b = some (tupleOf [.str tag' t3, .bytes x'.toArray t4])) (hu : A.units + 4 < cLine) :
    EqAt A s (.ref a) (.ref b) (decide ((tag, x) = (tag', x'))) := by
  by_cases hab : a = b
  · subst hab
    rw [ha] at hb
    have h3 := congrArg (fun o : Option Obj => match o with | some ⟨_, _, .seq a _, _⟩ => a.toList | _ => []) hb
    simp only [List.cons.injEq, Value.str.injEq, Value.bytes.injEq, and_true] at h3
    obtain ⟨⟨rfl, _⟩, h4, _⟩ := h3
    have h5 : x = x' := congrArg Array.toList h4
    subst h5
    rw [decide_eq_true rfl]
    exact EqAt.same _
  · have h1 : s.heap.IsTuple a #[.str tag t1, .bytes x.toArray t2] := ⟨_, ha, rfl, _, rfl⟩
    have h2 : s.heap.IsTuple b #[.str tag' t3, .bytes x'.toArray t4] := ⟨_, hb, rfl, _, rfl⟩
    have key := RcAt.tuples (A := A) (s := s) (e := fun j => if j = 0 then tag == tag' else decide (x = x')) h1 h2 (by k_extra "ar") (fun j j1 j2 => by
      match j, j1, j2 with
      | 0, _, _ => exact EqAt.str_str _ _ _ _
      | 1, _, _ => exact eqAt_bytes _ _ _ _)
    refine EqAt.of_refs hab ?_
    have e : ((List.range (min (#[Value.str tag t1, .bytes x.toArray t2] : Array Value).size (#[Value.str tag' t3, .bytes x'.toArray t4] : Array Value).size)).all (fun j => if j = 0 then tag == tag' else decide (x = x')) && (#[Value.str tag t1, .bytes x.toArray t2] : Array Value).size == (#[Value.str tag' t3, .bytes x'.toArray t4] : Array Value).size) = decide ((tag, x) = (tag', x')) := by
      show ((List.range 2).all _ && true) = _
      rw [Bool.and_true, Bool.eq_iff_iff]
      simp [List.range_succ]
    rw [e] at key
    exact key
end
theorem StepsIn.get {tl : List (Addr × Obj)} {vs : List Value} {sts : List Step} (h : StepsIn tl vs sts) : ∀ {i : Nat} {v : Value}, vs[i]? = some v → ∃ a t t' tag b, v = .ref a ∧ (a, tupleOf [.str tag t, .bytes b.toArray t']) ∈ tl ∧ sts[i]? = some (tag, b) := by
  induction h with
  | nil => intro i v e; cases e
  | cons hm _ ih =>
    intro i v e
    cases i with
    | zero => cases e; exact ⟨_, _, _, _, _, rfl, hm, rfl⟩
    | succ i => exact ih e
section
variable {prog : Program} {w : World} {A : Around} {E : Value → Shared → Prop} {s : Shared} {h₀ : Heap} {L a b : Addr} {news tl tl' : List (Addr × Obj)} {vs ws : List Value} {n k : Nat} {sts rs : List Step} {Q : Value → Shared → Prop}
theorem ne_steps (N : News h₀ L s.heap news) (ma : (a, PySem.W.listOf (List.toArray vs) n) ∈ news) (mb : (b, PySem.W.listOf (List.toArray ws) k) ∈ news) (Sa : StepsIn tl vs sts) (Sb : StepsIn tl' ws rs) (ha : ∀ p ∈ tl, p ∈ news) (hb : ∀ p ∈ tl', p ∈ news) (hu : A.units + 64 < cLine)
    (h : Q (.bool (!decide (sts = rs))) s) : wpAny (model prog w) A (compareOp .NotEq (.ref a) (.ref b)) Q E s := by
  have la : s.heap.IsList a vs.toArray := PySem.IsL.isList (n := n) (N _ ma).1
  have lb : s.heap.IsList b ws.toArray := PySem.IsL.isList (n := k) (N _ mb).1
  have e1 := Sa.length
  have e2 := Sb.length
  by_cases hl : sts.length = rs.length
  · have key := RcNeAt.lists (A := A) (s := s) (e := fun j => decide (sts[j]? = rs[j]?)) la lb (by simp; k_extra "ar") (by k_extra "ar") (fun j j1 j2 => by
      have j1' : j < vs.length := by simpa using j1
      have j2' : j < ws.length := by simpa using j2
      obtain ⟨x, t1, t2, tag, o, ex, mx, sx⟩ := Sa.get (List.getElem?_eq_getElem j1')
      obtain ⟨y, t3, t4, tag', o', ey, my, sy⟩ := Sb.get (List.getElem?_eq_getElem j2')
      have f1 : (List.toArray vs)[j] = .ref x := by rw [← ex]; simp
      have f2 : (List.toArray ws)[j] = .ref y := by rw [← ey]; simp
      rw [f1, f2]
      have := eqAt_step (A := A.in1) (s := s) (N _ (ha _ mx)).1 (N _ (hb _ my)).1 (by rw [Around.in1_units]; k_extra "ar")
      have e : decide ((tag, o) = (tag', o')) = decide (sts[j]? = rs[j]?) := by rw [sx, sy]; simp
      rw [e] at this
      exact this)
    have e : ((List.range (List.toArray vs).size).all fun j => decide (sts[j]? = rs[j]?)) = decide (sts = rs) := by
      rw [← all_range_eq sts rs hl]
      simp [e1]
    rw [e] at key
    exact key prog w E Q h
  · have key := RcNeAt.lists_lengths (A := A) (s := s) la lb (by simp; k_extra "ar") (by k_extra "ar")
    have : decide (sts = rs) = false := decide_eq_false fun q => hl (by rw [q])
    rw [this] at h
    exact key prog w E Q h
theorem eq_steps (N : News h₀ L s.heap news) (ma : (a, PySem.W.listOf (List.toArray vs) n) ∈ news) (mb : (b, PySem.W.listOf (List.toArray ws) k) ∈ news) (Sa : StepsIn tl vs sts) (Sb : StepsIn tl' ws rs) (ha : ∀ p ∈ tl, p ∈ news) (hb : ∀ p ∈ tl', p ∈ news) (hu : A.units + 64 < cLine)
    (h : Q (.bool (decide (sts = rs))) s) : wpAny (model prog w) A (compareOp .Eq (.ref a) (.ref b)) Q E s := by
  have la : s.heap.IsList a vs.toArray := PySem.IsL.isList (n := n) (N _ ma).1
  have lb : s.heap.IsList b ws.toArray := PySem.IsL.isList (n := k) (N _ mb).1
  have e1 := Sa.length
  have e2 := Sb.length
  by_cases hl : sts.length = rs.length
  · have key := RcAt.lists (A := A) (s := s) (e := fun j => decide (sts[j]? = rs[j]?)) la lb (by simp; k_extra "ar") (by k_extra "ar") (fun j j1 j2 => by
      have j1' : j < vs.length := by simpa using j1
      have j2' : j < ws.length := by simpa using j2
      obtain ⟨x, t1, t2, tag, o, ex, mx, sx⟩ := Sa.get (List.getElem?_eq_getElem j1')
      obtain ⟨y, t3, t4, tag', o', ey, my, sy⟩ := Sb.get (List.getElem?_eq_getElem j2')
      have f1 : (List.toArray vs)[j] = .ref x := by rw [← ex]; simp
      have f2 : (List.toArray ws)[j] = .ref y := by rw [← ey]; simp
      rw [f1, f2]
      have := eqAt_step (A := A.in1) (s := s) (N _ (ha _ mx)).1 (N _ (hb _ my)).1 (by rw [Around.in1_units]; k_extra "ar")
      have e : decide ((tag, o) = (tag', o')) = decide (sts[j]? = rs[j]?) := by rw [sx, sy]; simp
      rw [e] at this
      exact this)
    have e : ((List.range (List.toArray vs).size).all fun j => decide (sts[j]? = rs[j]?)) = decide (sts = rs) := by
      rw [← all_range_eq sts rs hl]
      simp [e1]
    rw [e] at key
    exact key prog w E Q h
  · have key := RcAt.lists_lengths (A := A) (s := s) la lb (by simp; k_extra "ar") (by k_extra "ar")
    have : decide (sts = rs) = false := decide_eq_false fun q => hl (by rw [q])
    rw [this] at h
    exact key prog w E Q h
end
end
/-! text LedRules -/
section
theorem off_LedRules : True := by
  w_top off
  trivial
open SeqAt
section
variable {prog : Program} {w : World} {A : Around} {E : Value → Shared → Prop} {s : Shared} {h₀ : Heap} {L a b l : Addr} {m : Str → Option Value} {news : List (Addr × Obj)} {vs ws : List Value} {n k : Nat} {Q : Value → Shared → Prop}
theorem cat_led (F : Fr h₀ L s.heap m) (N : News h₀ L s.heap news) (ma : (a, PySem.W.listOf (List.toArray vs) n) ∈ news) (mb : (b, PySem.W.listOf (List.toArray ws) k) ∈ news) (hz : vs.length + ws.length ≤ 1000000)
    (h : ∀ D h', Fr h₀ L h' m → News h₀ L h' ((D, PySem.W.listOf (List.toArray (vs ++ ws)) 0) :: news) → (∀ p ∈ news, p.1 < D) → Q (.ref D) { s with heap := h' }) :
    wpAny (model prog w) A (binaryOp .Add (.ref a) (.ref b)) Q E s :=
  kmk_add_lit F N (PySem.IsL.isList (n := n) (N _ ma).1) (PySem.IsL.isList (n := k) (N _ mb).1) rfl h (by rw [sizeLine_eq]; simp only [List.toList_toArray]; k_extra "ar")
theorem last_led {value slice : PySem.Expr} {t : Tok} (F : Fr h₀ L s.heap m) (N : News h₀ L s.heap news) (ma : (a, PySem.W.listOf (List.toArray vs) n) ∈ news) (hz : vs.length ≤ 1000000)
    (h : ∀ D h', Fr h₀ L h' m → News h₀ L h' ((D, PySem.W.listOf (List.toArray (vs.drop (vs.length - 1))) 0) :: news) → (∀ p ∈ news, p.1 < D) → Q (.ref D) { s with heap := h' })
    (hs : subscripted slice false (.ref a) (.ref s.heap.objs.size) = operate [.ref s.heap.objs.size, .ref a] (getItem (.ref a) (.ref s.heap.objs.size))) (ht : ∀ r, letTemporaryGo value (.ref a) r = pure ()) :
    wpAny (model prog w) A (subscriptTail value slice (.ref a) (.ref s.heap.objs.size)) Q E { s with heap := s.heap.push { cls := .type "slice", data := .fields #[.int (-1) t, .none, .none] } } := by
  refine kms_slice_lit (lo := some (-1)) (hi := none) F N (PySem.IsL.isList (n := n) (N _ ma).1) (by first | exact ⟨_, rfl⟩ | constructor | rfl) (by first | exact rfl | constructor) ?_ h hs ht (by rw [sizeLine_eq, List.size_toArray]; k_extra "ar")
  unfold kms_pick
  simp only [List.toList_toArray]
  have e1 : kms_lo (some (-1)) vs.length = vs.length - 1 := by
    simp only [kms_lo]
    first | k_extra "ar" | (split <;> k_extra "ar")
  have e2 : kms_hi none vs.length = vs.length := by simp [kms_hi]
  rw [e1, e2, List.take_of_length_le (by rw [List.length_drop]; k_extra "ar")]
section
variable {tl : List (Addr × Obj)} {sts : List Step} {q : Addr} {tag : Str} {x' : Bs} {t3 t4 : Tok}
theorem eq_one (N : News h₀ L s.heap news) (ma : (a, PySem.W.listOf (List.toArray vs) n) ∈ news) (mb : (b, PySem.W.listOf (List.toArray [.ref q]) k) ∈ news) (mq : (q, tupleOf [.str tag t3, .bytes (List.toArray x') t4]) ∈ news) (Sa : StepsIn tl vs sts) (ha : ∀ p ∈ tl, p ∈ news) (hu : A.units + 64 < cLine) (he : sts = [(tag, x')])
    (h : Q (.bool true) s) : wpAny (model prog w) A (compareOp .Eq (.ref a) (.ref b)) Q E s :=
  eq_steps N ma mb Sa (.cons mq .nil) ha (fun _ h => h) hu (by rw [decide_eq_true he]; exact h)
theorem ne_one (N : News h₀ L s.heap news) (ma : (a, PySem.W.listOf (List.toArray vs) n) ∈ news) (mb : (b, PySem.W.listOf (List.toArray [.ref q]) k) ∈ news) (mq : (q, tupleOf [.str tag t3, .bytes (List.toArray x') t4]) ∈ news) (Sa : StepsIn tl vs sts) (ha : ∀ p ∈ tl, p ∈ news) (hu : A.units + 64 < cLine) (he : sts = [(tag, x')])
    (h : Q (.bool false) s) : wpAny (model prog w) A (compareOp .NotEq (.ref a) (.ref b)) Q E s :=
  ne_steps N ma mb Sa (.cons mq .nil) ha (fun _ h => h) hu (by rw [decide_eq_true he]; exact h)
theorem ne_nil (N : News h₀ L s.heap news) (ma : (a, PySem.W.listOf (List.toArray vs) n) ∈ news) (mb : (b, PySem.W.listOf (List.toArray []) k) ∈ news) (Sa : StepsIn tl vs sts) (ha : ∀ p ∈ tl, p ∈ news) (hu : A.units + 64 < cLine) (he : sts = [])
    (h : Q (.bool false) s) : wpAny (model prog w) A (compareOp .NotEq (.ref a) (.ref b)) Q E s :=
  ne_steps N ma mb Sa (.nil (tl := [])) ha (fun _ h => nomatch h) hu (by rw [decide_eq_true he]; exact h)
end
theorem in_led {k' : Int} {t : Tok} {ns : List Int} (N : News h₀ L s.heap news) (hm : (l, PySem.W.listOf (List.toArray vs) n) ∈ news) (hi : IntsAre vs ns) (h : Q (.bool (decide (k' ∈ ns))) s) : wpAny (model prog w) A (compareOp .In (.int k' t) (.ref l)) Q E s := by
  refine in_listAt (fun y => match y with | .int i _ => i == k' | _ => false) (PySem.IsL.isList (n := n) (N _ hm).1) (fun y hy => ?_) ?_
  · rw [List.mem_toArray] at hy
    obtain ⟨i, hlt, rfl⟩ := List.getElem_of_mem hy
    obtain ⟨u, e⟩ := IntsAre.int_at hi i vs[i] (List.getElem?_eq_getElem hlt)
    rw [e]
    exact EqAt.int_int _ _ _ _
  · have e : (List.toArray vs).any (fun y => match y with | .int i _ => i == k' | _ => false) = decide (k' ∈ ns) := by
      rw [← Array.any_toList]
      clear hm h
      induction hi with
      | nil => rfl
      | cons j u _ ih =>
        simp only [List.toList_toArray, List.any_cons] at ih ⊢
        rw [ih, Bool.eq_iff_iff]
        simp only [Bool.or_eq_true, beq_iff_eq, decide_eq_true_eq, List.mem_cons]
        constructor
        · rintro (h | h)
          · exact .inl h.symm
          · exact .inr h
        · rintro (h | h)
          · exact .inl h.symm
          · exact .inr h
    rw [e]
    exact h
end
end
/-! text Filt -/
section
theorem off_Filt : True := by
  w_top off
  trivial
open LCg LCt
theorem take_filter {α : Type} {p : α → Bool} {l : List α} {i : Nat} {x : α} (h : l[i]? = some x) : (l.take (i + 1)).filter p = (l.take i).filter p ++ if p x then [x] else [] := by
  rw [List.take_add_one, h, List.filter_append]
  congr 1
  show List.filter p [x] = _
  rw [List.filter_cons]
  rfl
section
variable {prog : Program} {w : World} {A : Around} {h₀ : Heap} {L : Addr} {m : Str → Option Value} {env : Env} {ct elt : Expr} {x : Str} {scope : Scope} {cl : List (Str × Addr)} {s : Shared} {S : List (Addr × Obj) → Prop} {Fin : List Value → List (Addr × Obj) → Prop} {news tl : List (Addr × Obj)} {vs : List Value} {sts : List Step}
/-- the steps of a list that a test takes -/
theorem rest_filt (p : Step → Bool) (hst : StepsIn tl vs sts)
    (turn : ∀ (a : Addr) (t t' : Tok) (tag : Str) (b : Bs) ys I oI C oC D m₂ h tk (E' : Value → Shared → Prop), (tag, b) ∈ sts → (a, tupleOf [.str tag t, .bytes b.toArray t']) ∈ tl → NsObj oC m₂ → m₂ x = some (.ref a) → Fr h₀ L h m → News h₀ L h ((I, oI) :: (C, oC) :: (D, lst ys) :: news) → Off3 I C D news → ((@Ne Nat I C) ∧ (@Ne Nat I D) ∧ (@Ne Nat C D)) →
      wpAny (model prog w) A (isTrue ct (compEnvC scope cl C env) (eval ct (compEnvC scope cl C env))) (fun ok s' => if ok = true then
        wpAny (model prog w) A (eval elt (compEnvC scope cl C env)) (CompEnd h₀ L m { s with heap := h, toks := tk } I oI C oC D (lst ys) S (fun y nx' => nx' = news ∧ y = .ref a ∧ p (tag, b) = true)) E' s'
        else CompEnd h₀ L m { s with heap := h, toks := tk } I oI C oC D (lst ys) S (fun _ nx' => nx' = news ∧ p (tag, b) = false) Value.none s') E' { s with heap := h, toks := tk })
    (done : ∀ ys, StepsIn tl ys (sts.filter p) → Fin ys news) : CompRestT prog w A h₀ L m env ct elt x scope cl s S (fun i v => (List.toArray vs)[i]? = some v) Fin (List.toArray vs).size 0 [] news := by
  refine restT_inv (fun i ys nx => nx = news ∧ StepsIn tl ys ((sts.take i).filter p)) ⟨rfl, StepsIn.nil⟩ ?_ ?_
  · rintro i v ys nx I oI C oC D m₂ h tk E' hi hv ⟨rfl, hj⟩ hC hx F N off ne
    rw [List.getElem?_toArray] at hv
    obtain ⟨a, t, t', tag, b, rfl, hm, hs⟩ := hst.get hv
    refine wpAny_mono (turn a t t' tag b ys I oI C oC D m₂ h tk E' (List.mem_of_getElem? hs) hm hC hx F N off ne) (fun ok s₂ hq => ?_) fun _ _ e => e
    have e := take_filter (p := p) hs
    cases ok with
    | true =>
      simp only [if_true] at hq ⊢
      refine wpAny_mono hq (fun y s₃ hr => ?_) fun _ _ e => e
      obtain ⟨h', tk', nw, e1, F', N', off', hS, hn, rfl, hp⟩ := hr
      rw [hp] at e
      refine ⟨h', tk', nw, e1, F', N', off', hS, hn, ?_⟩
      rw [e]
      exact hj.append (.cons hm .nil)
    | false =>
      simp only [Bool.false_eq_true, if_false] at hq ⊢
      obtain ⟨h', tk', nw, e1, F', N', off', hS, hn, hp⟩ := hq
      rw [hp] at e
      refine ⟨h', tk', nw, e1, F', N', off', hS, hn, ?_⟩
      rw [e]
      simpa using hj
  · rintro ys nx ⟨rfl, hj⟩
    refine done ys ?_
    have hl := hst.length
    rw [List.size_toArray, hl, List.take_length] at hj
    exact hj
end
theorem news_add {h₀ h : Heap} {L : Addr} {news : List (Addr × Obj)} {q : Addr × Obj} (N : News h₀ L h news) (hq : q ∈ news) : News h₀ L h (q :: news) := fun p hp => by
  rcases List.mem_cons.mp hp with rfl | hp
  · exact N _ hq
  · exact N _ hp
theorem stepsIn_tl {tl : List (Addr × Obj)} {vs : List Value} {sts : List Step} (_ : StepsIn tl vs sts) : ∃ t, t = tl := ⟨_, rfl⟩
theorem led_cut {h₀ h : Heap} {L x dx : Addr} {w : World} {held : Bs} {asked : Int} {k1 t1 k2 t2 : Tok} {news : List (Addr × Obj)} (_ : News h₀ L h news) (_ : (x, instObj 122 dx) ∈ news) (_ : (dx, cutDict w held asked k1 t1 k2 t2) ∈ news) : ∃ a b c d, a = k1 ∧ b = t1 ∧ c = k2 ∧ d = t2 := ⟨_, _, _, _, rfl, rfl, rfl, rfl⟩
theorem News.mem_sub {h₀ h : Heap} {L : Addr} {news : List (Addr × Obj)} (N : News h₀ L h news) : News h₀ L h news := N
theorem kw_Filt_1 : True := by
  k_with "own k_all" =>
    (refine List.forall_mem_append.mpr ⟨?_, ?_⟩ <;> k_all)
  trivial
abbrev isAsk (st : Step) : Bool := decide (st.1 = Str.ofString "ask")
abbrev isCmd (st : Step) : Bool := decide (st.1 ≠ Str.ofString "ask")
theorem cmd_ne_ask : Str.ofString "command" ≠ Str.ofString "ask" := by decide
theorem filt_ask (d : List Cmd) (q : List Step) (hq : ∀ s ∈ q, s = askS) : (d.map cmdS ++ q).filter isAsk = q := by
  rw [List.filter_append]
  have e1 : (d.map cmdS).filter isAsk = [] := by
    rw [List.filter_eq_nil_iff]
    intro a ha
    obtain ⟨c, _, rfl⟩ := List.mem_map.mp ha
    simp [isAsk, cmd_ne_ask]
  have e2 : q.filter isAsk = q := by
    rw [List.filter_eq_self]
    intro a ha
    rw [hq a ha]
    simp [isAsk]
  rw [e1, e2, List.nil_append]
theorem filt_cmd (d : List Cmd) (q : List Step) (hq : ∀ s ∈ q, s = askS) : (d.map cmdS ++ q).filter isCmd = d.map cmdS := by
  rw [List.filter_append]
  have e1 : (d.map cmdS).filter isCmd = d.map cmdS := by
    rw [List.filter_eq_self]
    intro a ha
    obtain ⟨c, _, rfl⟩ := List.mem_map.mp ha
    simp [isCmd, cmd_ne_ask]
  have e2 : q.filter isCmd = [] := by
    rw [List.filter_eq_nil_iff]
    intro a ha
    rw [hq a ha]
    simp [isCmd]
  rw [e1, e2, List.append_nil]
theorem step_tags (d : List Cmd) (q : List Step) (hq : ∀ s ∈ q, s = askS) : ∀ s ∈ d.map cmdS ++ q, s.1 = Str.ofString "command" ∨ s.1 = Str.ofString "ask" := by
  intro s hs
  rcases List.mem_append.mp hs with h | h
  · obtain ⟨c, _, rfl⟩ := List.mem_map.mp h
    exact .inl rfl
  · rw [hq s h]
    exact .inr rfl
theorem in_tl {α : Type} {a b : α} {l : List α} (h : a ∈ l) : a ∈ b :: l := .tail _ h
theorem sub_nil {α : Type} {T : List α} : ∀ p ∈ ([] : List α), p ∈ T := fun _ h => nomatch h
theorem sub_cons {α : Type} {a : α} {l T : List α} (h : a ∈ T) (r : ∀ p ∈ l, p ∈ T) : ∀ p ∈ a :: l, p ∈ T := List.forall_mem_cons.mpr ⟨h, r⟩
theorem sub_app {α : Type} {l k T : List α} (h : ∀ p ∈ l, p ∈ T) (r : ∀ p ∈ k, p ∈ T) : ∀ p ∈ l ++ k, p ∈ T := List.forall_mem_append.mpr ⟨h, r⟩
theorem off_nil {tl : List (Addr × Obj)} : OwnOff tl [] := fun _ _ _ h => nomatch h
theorem off_cons {tl : List (Addr × Obj)} {b : Addr} {l : List Addr} (h : ∀ p ∈ tl, p.1 ≠ b) (r : OwnOff tl l) : OwnOff tl (b :: l) := fun p hp q hq => by
  rcases List.mem_cons.mp hq with rfl | hq
  · exact h p hp
  · exact r p hp q hq
theorem off_lt {tl : List (Addr × Obj)} {b : Nat} (h : ∀ p ∈ tl, @LT.lt Nat _ p.1 b) : ∀ p ∈ tl, p.1 ≠ b := fun p hp => Nat.ne_of_lt (h p hp)
theorem off_union {t1 t2 : List (Addr × Obj)} {l : List Addr} (h : OwnOff t1 l) (r : OwnOff t2 l) : OwnOff (t1 ++ t2) l := fun p hp q hq => (List.mem_append.mp hp).elim (fun x => h p x q hq) (fun x => r p x q hq)
theorem kw_Filt_2 : True := by
  k_with "leaf" =>
    (intro p hp; iterate 24 try (with_reducible (first | exact hp | exact List.mem_append_left _ hp | apply List.mem_append_right | apply in_tl)))
  k_with "elem" =>
    (iterate 24 try (with_reducible (first | exact List.mem_cons_self | apply in_tl | apply List.mem_append_right)))
  k_with "sub9" =>
    (repeat' (first | exact sub_nil | refine sub_cons (by first | (k_extra "elem"; done) | k_mem) ?_ | (k_extra "leaf"; done) | refine sub_app ?_ ?_))
  k_with "mm" =>
    (iterate 14 (try (first | exact List.mem_cons_self | apply in_tl)))
  k_with "off9" =>
    (repeat' (first | exact off_nil | refine off_cons (by first | exact off_lt (by assumption) | exact OwnOff.ne (by assumption) (by k_extra "mm")) ?_))
  trivial
end
/-! text Seg8 -/
section
theorem off_Seg8 : True := by
  w_top off
  trivial
theorem kw_Seg8_1 : True := by
  k_with "own execs cons" =>
    ((with_reducible show wpAny _ _ (execs (Stmt.Assign [Expr.Name (Str.ofString "cuts") _] _ _ :: _) _) _ _ _); refine Stop.out ?_)
  k_with "own call ref" =>
    (
    (with_reducible show wpAny _ _ (call (Value.ref 164) _) _ _ _);
    (k_dflt (refine steps_K (by k_asm) (by k_asm) (by k_asm) (by k_asm) (by k_asm) rfl rfl rfl rfl (by k_extra "room") (by k_extra "room") (by k_mem) (by k_updF) (by assumption) (by k_ne) (by (simp only [List.length_append, List.length_nil, List.length_cons]; k_extra "ar")) (by (simp only [List.length_append, List.length_nil, List.length_cons, List.length_map]; k_extra "ar")) ?_)); (intro _ _ _ _ _ _ _ _ _ _ hnF hnN _ hoff1 hne1); (try simp only [List.cons_append, List.nil_append] at hnN); (try simp only [List.map_cons, List.map_nil, List.map_append] at hoff1); (simp only [List.forall_mem_cons, List.not_mem_nil, false_implies, implies_true, and_true] at hne1); (repeat (obtain ⟨_, hne1⟩ := hne1)); (try dsimp only))
  k_with "own compareOp NotEq ref ref" =>
    (k_here; (k_dflt (refine ne_steps (by k_asm) (by k_mem) (by k_mem) (by assumption) (by assumption) (by k_extra "leaf") (by k_extra "leaf") (by k_extra "room") ?_)); (try simp only [eq_self, decide_true, Bool.not_true]))
  k_with "own compareOp NotEq bytes bytes" =>
    ((k_dflt (refine ne_bytes ?_)); rw [bne_self_eq_false])
  trivial
theorem len13 {b : Bs} {bs : List Bs} (h : b ∈ bs) (e : bs.all (fun b => decide (b.length ≤ 13)) = true) : b.length ≤ 13 := by
  have := List.all_eq_true.mp e b h
  simpa using this
theorem seg8 (h10 : SegAt 10 At10) : SegAt 8 At8 := by
  rintro w dp un gd L fa cd outer A₀ base h₀ mean mg mb Q s G ⟨m, cs, oD, oP, po, co, pen, ca, cl, pl, cv, pv, nc, np, x, dx, rest, k1, t1, k2, t2, K, F, N, hne, hrest, e3, t4, e4⟩
  have hol := octs_len K.made
  have H10 := fun s' => h10 w dp un gd L fa cd outer A₀ base h₀ mean mg mb Q s'
  rw [known K.e1, known K.e2, known e3, known e4] at F
  have hcv := K.cv
  have hpv := K.pv
  have hM := K.made
  have hcl := hM.few
  have hcl2 := hcv.length
  rw [List.length_map] at hcl2
  obtain ⟨⟨t, hD⟩, hP, hpo, hco, -, -, -, -, -⟩ := K
  have G' := G
  obtain ⟨B, X, T, hd, hu, -⟩ := G'
  simp only [AllNe, List.pairwise_cons, List.mem_cons, List.not_mem_nil, or_false, forall_eq_or_imp, forall_eq, List.Pairwise.nil, and_true, false_implies, implies_true, and_assoc] at hne
  repeat (obtain ⟨_, hne⟩ := hne)
  have KX := X
  revert KX
  unfold LawGoal
  conv in (occs := *) lawScope => whnf
  conv in (occs := *) (List.drop _ _) => whnf
  k_fill
  intro KX
  clear h10
  show wpAny _ _ _ _ _ _
  k_steps
  show LCg.CompRest _ _ _ _ _ _ _ _ _ _ _ _ _ _ _ _ _ _ _
  obtain ⟨base, hb⟩ : ∃ b : List (Addr × Obj), b = [(x, instObj 122 dx), (dx, cutDict w (octs cs ++ rest) (-1) k1 t1 k2 t2), (L + 2, oD), (L + 1, oP), (pen, po), (ca, co), (cl, PySem.W.listOf (List.toArray cv) nc), (pl, PySem.W.listOf (List.toArray pv) np)] := ⟨_, rfl⟩
  have hmem : (cl, PySem.W.listOf (List.toArray cv) nc) ∈ base := by rw [hb]; k_mem
  refine rest_inv (fun i ys nx => ∃ tl, nx = tl ++ base ∧ OwnOff tl (base.map (·.1)) ∧ StepsIn tl ys ((cs.take i).map cmdS)) ⟨[], by rw [hb]; rfl, fun p hp => (nomatch hp), StepsIn.nil⟩ ?_ ?_
  · intro i v ys nx I oI C oC D m₂ h tk E' hi hv hJ9 hC hx F N off0 ne
    refine hide fun X9 hX9 => ?_
    obtain ⟨tl, hnx, hoff, hst⟩ := hJ9
    refine hX9 ?_
    clear hX9 X9
    rw [List.getElem?_toArray] at hv
    obtain ⟨b, tb, rfl, hbi⟩ := hcv.at hv
    have hmem' : (cl, PySem.W.listOf (List.toArray cv) nc) ∈ nx := by rw [hnx]; exact List.mem_append_right _ hmem
    k_steps
    rename (_ ∧ _ ∧ _ ∧ AllLt _ _) => hlt
    have hall := allLt_mem hlt.2.2.2
    exact LCg.CompEnd.intro (by assumption) (by assumption) (_ :: nx) (fun p hp => by
        simp only [List.mem_cons] at hp ⊢
        rcases hp with h | h | h | h | h
        · exact .inr (.inl h)
        · exact .inr (.inr (.inl h))
        · exact .inr (.inr (.inr (.inl h)))
        · exact .inl h
        · exact .inr (.inr (.inr (.inr h)))) ⟨⟨by k_extra "ar", by k_extra "ar", by k_extra "ar"⟩, off0⟩ (Or.inr ⟨_, .tail _ hmem', rfl, _, rfl⟩)
      ⟨_ :: tl, by rw [hnx]; rfl, fun p hp q hq => by
        rcases List.mem_cons.mp hp with rfl | hp
        · obtain ⟨z, hz, rfl⟩ := List.mem_map.mp hq
          exact Nat.ne_of_gt (hall z (by rw [hnx]; exact List.mem_append_right _ hz))
        · exact hoff p hp q hq, by
        have hbi' : cs[i]? = some (cs[i]'(by have := List.getElem?_eq_some_iff.mp hbi; obtain ⟨q, _⟩ := this; simpa using q)) := List.getElem?_eq_getElem _
        rw [List.getElem?_map, hbi'] at hbi
        rw [List.take_add_one, hbi', List.map_append]
        refine (hst.mono fun p hp => .tail _ hp).append ?_
        have hb2 := Option.some.inj hbi
        simp only at hb2
        simp only [Option.toList, List.map_cons, List.map_nil, cmdS]
        rw [hb2]
        exact .cons (.head _) .nil⟩
  · intro ys nx hJ9 
    refine hide fun X9 hX9 => ?_
    obtain ⟨tl, rfl, hoff, hst⟩ := hJ9
    refine hX9 ?_
    clear hX9 X9
    have hi2 : (List.toArray cv).size = cs.length := by rw [List.size_toArray]; exact hcl2
    rw [hi2, List.take_length] at hst
    intro D h tk F N off1
    rw [hb] at hoff N off1
    simp only [List.map_cons, List.map_nil] at hoff
    have hD : ∀ p ∈ tl ++ [(x, instObj 122 dx), (dx, cutDict w (octs cs ++ rest) (-1) k1 t1 k2 t2), (L + 2, oD), (L + 1, oP), (pen, po), (ca, co), (cl, PySem.W.listOf (List.toArray cv) nc), (pl, PySem.W.listOf (List.toArray pv) np)], NeF p.1 D := fun p hp => off1_mem off1 p hp
    replace hoff : OwnOff tl [D, x, dx, L + 2, L + 1, pen, ca, cl, pl] := fun p hp q hq => by
      rcases List.mem_cons.mp hq with rfl | hq
      · exact hD p (List.mem_append_left _ hp)
      · exact hoff p hp q hq
    clear off1
    replace N := cb_drop (news := (D, LCg.lst ys) :: (x, instObj 122 dx) :: (dx, cutDict w (octs cs ++ rest) (-1) k1 t1 k2 t2) :: (L + 2, oD) :: (L + 1, oP) :: (pen, po) :: (ca, co) :: (cl, PySem.W.listOf (List.toArray cv) nc) :: (pl, PySem.W.listOf (List.toArray pv) np) :: tl) N (by k_extra "sub9")
    obtain ⟨asked', hS⟩ := steps_whole (rest_quiet hrest) cs (-1) hM.all
    simp only [List.forall_mem_append, List.forall_mem_cons, List.not_mem_nil, false_implies, implies_true, and_true] at hD
    obtain ⟨-, hD2⟩ := hD
    refine hide fun X9 hX9 => ?_
    repeat (obtain ⟨_, hD2⟩ := hD2)
    refine hX9 ?_
    clear hX9 X9
    have hrl : rest.length ≤ 13 := len13 hrest rfl
    show wpAny _ _ _ _ _ _
    dsimp only
    k_steps
    show wpAny _ _ _ _ _ _
    rename Fr _ _ _ _ => Fe
    rename News _ _ _ _ => Ne
    refine H10 _ (G.to _ _) ⟨_, cs, oD, oP, po, co, pen, ca, cl, pl, cv, pv, nc, np, D, ys, ys.length, tl, ⟨⟨t, hD⟩, hP, by assumption, hco, hcv, hpv, hM, rfl, rfl⟩, Fe, cb_drop Ne ?_, by k_extra "allne", ?_, hst, rfl⟩
    · k_extra "sub9"
    · k_extra "off9"
end
/-! text SetTab -/
section
theorem off_SetTab : True := by
  w_top off
  trivial
theorem kw_SetTab_0 : True := by
  k_with_none
  k_with "pick" =>
    (with_reducible (first
    | assumption | exact And.left (by assumption) | exact And.left (And.right (by assumption)) | exact And.left (And.right (And.right (by assumption)))
    | exact And.left (And.right (And.right (And.right (by assumption)))) | exact And.left (And.right (And.right (And.right (And.right (by assumption))))) | exact And.left (And.right (And.right (And.right (And.right (And.right (by assumption)))))) | exact And.right (by assumption)))
  k_with "ne1" =>
    first
    | (with_reducible assumption) | exact _root_.Ne.symm (by with_reducible assumption) | exact Nat.ne_of_lt (by k_extra "pick") | exact Nat.ne_of_gt (by k_extra "pick")
  k_with "ar" =>
    first
    | (with_reducible assumption)
    | exact room_up (by with_reducible assumption) rfl
    | ((repeat (first | (rename _ ≠ _ => hz9; clear hz9) | (rename (_ ≠ _ ∧ _) => hz9; clear hz9))); omega)
    | omega
  k_with "own k_ne" =>
    (refine neN ?_; (try dsimp only); first | k_extra "ne1" | omega)
  k_with "room" =>
    ((try dsimp only [ktrTop]); (first | k_extra "ar" | (simp only [ktrTop, Around.in1, Around.deeper, Around.mark]; k_extra "ar")))
  k_with "own call ref" =>
    (
    (with_reducible show wpAny _ _ (call (Value.ref 49) _) _ _ _);
    (refine isfig_K (by k_asm) (by k_asm) (by k_asm) (by k_asm) (by k_asm) rfl rfl rfl rfl (by k_extra "room") (by k_extra "room") ?_); intro _ _ _ _; (try dsimp only))
  k_with "own call ref" =>
    (
    (with_reducible show wpAny _ _ (call (Value.ref 56) _) _ _ _);
    (refine numfig_K (by k_asm) (by k_asm) (by k_asm) (by k_asm) (by k_asm) rfl rfl rfl rfl (by k_extra "room") (by k_extra "room") ?_); intro _ _ _ _ _; (try dsimp only))
  k_with "own exec While" =>
    (refine Stop.out ?_)
  k_with "own exec While BoolOp" =>
    (refine Stop.out ?_)
  k_with "own subscriptTail" =>
    (k_here; (with_reducible show wpAny _ _ (subscriptTail _ _ (Value.bytes (List.toArray _) _) (Value.int _ _)) _ _ _); (refine KBy.item_N (by k_extra "ar") (by k_extra "ar") (by k_extra "ar") ?_))
  k_with "own subscriptTail" =>
    (k_here; (with_reducible show wpAny _ _ (subscriptTail _ (Expr.Slice (some _) (some _) none _) (Value.bytes (List.toArray _) _) (Value.ref _)) _ _ _); (with_reducible rename Fr _ _ _ _ => F'); (with_reducible rename News _ _ _ _ => N'); (refine slice_both (s := ⟨_, _, _, _, _⟩) F' N' (by k_extra "ar") (by k_extra "ar") (by k_extra "ar") ?_); intro _ _ _ _ _)
  k_with "own subscriptTail" =>
    (k_here; (with_reducible show wpAny _ _ (subscriptTail _ (Expr.Slice none (some _) none _) (Value.bytes (List.toArray _) _) (Value.ref _)) _ _ _); (with_reducible rename Fr _ _ _ _ => F'); (with_reducible rename News _ _ _ _ => N'); (refine slice_to (s := ⟨_, _, _, _, _⟩) F' N' (by k_extra "ar") (by k_extra "ar") ?_); intro _ _ _ _ _)
  k_with "own subscriptTail" =>
    (k_here; (with_reducible show wpAny _ _ (subscriptTail _ (Expr.Slice (some _) none none _) (Value.bytes (List.toArray _) _) (Value.ref _)) _ _ _); (with_reducible rename Fr _ _ _ _ => F'); (with_reducible rename News _ _ _ _ => N'); (refine slice_from (s := ⟨_, _, _, _, _⟩) F' N' (by k_extra "ar") (by k_extra "ar") ?_); intro _ _ _ _ _)
  k_with "own call builtin:len" =>
    (k_here; (with_reducible show wpAny _ _ (call (Value.builtin "len") [Value.bytes (List.toArray _) _]) _ _ _); (refine len_B (by first | k_extra "ar" | (simp only [List.length_take, List.length_drop, cut]; k_extra "ar")) ?_); intro _ _)
  k_with "own getMethod bytes" =>
    (refine method_find ?_)
  k_with "own call builtin:bytes.find" =>
    ((refine find3 rfl ?_); intro _ _; simp only [findV, *])
  k_with "own call ref" =>
    (
    (with_reducible show wpAny _ _ (call (Value.ref 63) _) _ _ _);
    (refine lithead_Kn (by k_asm) (by k_asm) (by k_asm) (by k_asm) (by k_asm) rfl rfl rfl rfl (by k_extra "room") (by k_extra "room") (by assumption) (by k_extra "ar") (by k_extra "ar") (by k_extra "ar") ?_); intro _ _ _ _; (try dsimp only))
  k_with "own call ref" =>
    (
    (with_reducible show wpAny _ _ (call (Value.ref 63) _) _ _ _);
    (refine lithead_Ks (by k_asm) (by k_asm) (by k_asm) (by k_asm) (by k_asm) rfl rfl rfl rfl (by k_extra "room") (by k_extra "room") (by assumption) (by k_extra "ar") (by k_extra "ar") (by k_extra "ar") ?_); intro _ _ _ _ _ _; (try dsimp only))
  k_with "own binaryOp Add bytes bytes" =>
    (k_here; (with_reducible show wpAny _ _ (binaryOp Operator.Add (Value.bytes (List.toArray _) _) (Value.bytes (List.toArray _) _)) _ _ _); (refine add_B (by k_extra "ar") ?_); intro _ _)
  k_with "own k_room" =>
    (k_extra "room")
  k_with "nes" =>
    (simp only [List.forall_mem_cons, List.not_mem_nil, false_implies, implies_true, and_true] at *)
  k_with "own call ref" =>
    (
    (with_reducible show wpAny _ _ (call (Value.ref 70) _) _ _ _);
    (refine cmdend_Kn (by k_asm) (by k_asm) (by k_asm) (by k_asm) (by k_asm) rfl rfl rfl rfl (by k_extra "room") (by k_extra "room") (by assumption) (by k_extra "ar") ?_); (intro _ _ _ _ _ _ hne1); (simp only [List.forall_mem_cons, List.not_mem_nil, false_implies, implies_true, and_true] at hne1); (try dsimp only))
  k_with "own call ref" =>
    (
    (with_reducible show wpAny _ _ (call (Value.ref 70) _) _ _ _);
    (refine cmdend_Ks (by k_asm) (by k_asm) (by k_asm) (by k_asm) (by k_asm) rfl rfl rfl rfl (by k_extra "room") (by k_extra "room") (by assumption) (by k_extra "ar") ?_); (intro _ _ _ _ _ _ _ _ hne1 hne2); (simp only [List.forall_mem_cons, List.not_mem_nil, false_implies, implies_true, and_true] at hne1 hne2); (try dsimp only))
  k_with "own call builtin:bytes.find" =>
    ((refine find2 ?_); intro _ _; simp only [findV, *])
  k_with "small" =>
    (first | k_extra "ar" | (simp only [List.length_append, List.length_cons, List.length_nil, List.length_map]; k_extra "ar"))
  k_with "own call builtin:len" =>
    (k_here; (with_reducible show wpAny _ _ (call (Value.builtin "len") [Value.ref _]) _ _ _); (k_dflt (refine len_led (by k_asm) (by k_mem) (by k_extra "small") ?_)); intro _ _; (try simp only [List.length_append, List.length_cons, List.length_nil, List.length_map]))
  k_with "own call builtin:list.append" =>
    (k_here; (with_reducible show wpAny _ _ (call (Value.builtin "list.append") [Value.ref _, _]) _ _ _); (k_dflt (refine append_led (by k_asm) (by k_asm) (by k_upd) (by k_extra "small") ?_)); intro _ _ hnN; (try dsimp only at hnN))
  k_with "own call ref" =>
    (
    (with_reducible show wpAny _ _ (call (Value.ref 119) _) _ _ _);
    (k_dflt (refine next_Kn (by k_asm) (by k_asm) (by k_asm) (by k_asm) (by k_asm) rfl rfl rfl rfl (by k_extra "room") (by k_extra "room") (by k_mem) (by k_updF) (by assumption) (by assumption) (by k_extra "ar") ?_)); (intro _ _ _ _ _ _ _ hnN); (try dsimp only at hnN); (try dsimp only))
  k_with "own call ref" =>
    (
    (with_reducible show wpAny _ _ (call (Value.ref 119) _) _ _ _);
    (k_dflt (refine next_Ks (by k_asm) (by k_asm) (by k_asm) (by k_asm) (by k_asm) rfl rfl rfl rfl (by k_extra "room") (by k_extra "room") (by k_mem) (by k_updF) (by assumption) (by assumption) (by k_extra "ar") ?_)); (intro _ _ _ _ _ _ _ _ _ _ hnN hne1); (try dsimp only at hnN); (simp only [List.forall_mem_cons, List.not_mem_nil, false_implies, implies_true, and_true] at hne1); (try dsimp only))
  k_with "own exec While Compare cons nil" =>
    (refine Stop.out ?_)
  k_with "own eval ListComp" =>
    (k_here; lcg_look; k_dflt (refine LCg.ListComp_U (F₀ := by k_asm) (by with_unfolding_all rfl) (by decide) (by rfl) (by decide) (by rfl) ?_))
  k_with "own exec Assign cons ListComp" =>
    (k_here; lcg_look; k_dflt (refine LCg.Assign_ListComp_U (F₀ := by k_asm) (by rfl) (by with_unfolding_all rfl) (by with_unfolding_all rfl) (by decide) (by rfl) (by decide) (by rfl) (by rfl) (by rfl) ?_))
  k_with "own eval ListComp" =>
    (k_here; lcf_look; k_dflt (refine LCg.ListComp_U (F₀ := by k_asm) (by with_unfolding_all rfl) (by decide) (by rfl) (by decide) (by rfl) ?_))
  k_with "own exec Assign cons ListComp" =>
    (k_here; lcf_look; k_dflt (refine LCg.Assign_ListComp_U (F₀ := by k_asm) (by rfl) (by with_unfolding_all rfl) (by with_unfolding_all rfl) (by decide) (by rfl) (by decide) (by rfl) (by rfl) (by rfl) ?_))
  k_with "own eval ListComp" =>
    (k_here; lct_look; k_dflt (refine LCt.ListComp_T (F₀ := by k_asm) (by with_unfolding_all rfl) (by decide) (by rfl) (by decide) (by rfl) ?_))
  k_with "own exec Assign cons ListComp" =>
    (k_here; lct_look; k_dflt (refine LCt.Assign_ListComp_T (F₀ := by k_asm) (by rfl) (by with_unfolding_all rfl) (by with_unfolding_all rfl) (by decide) (by rfl) (by decide) (by rfl) (by rfl) (by rfl) ?_))
  k_with "own CompSrc" =>
    (k_here; k_dflt (first
    | (refine LCg.CompSrc.ledger (by rfl) (by k_asm) (by k_asm) (by k_mem) (by rw [List.size_toArray, PySem.sizeLine_eq]; (first | omega | (simp only [List.length_append, List.length_cons, List.length_nil, List.length_map]; omega))) ?_; intro g'; refine Stop.out ?_)
    | (refine LCg.CompSrc.base (by rfl) (by k_asm) (by k_asm) (by assumption) (by rw [List.size_toArray, PySem.sizeLine_eq]; (first | omega | (simp only [List.length_append, List.length_cons, List.length_nil, List.length_map]; omega))) ?_; intro g'; refine Stop.out ?_)
    | (refine LCg.CompSrc.range (by rfl) (by k_asm) (by k_asm) (by assumption) (small_one (by omega) (by omega) (by omega) (by omega)) (rangeSize_nat _ _) (by rw [PySem.sizeLine_eq]; omega) ?_; intro g'; refine Stop.out ?_)))
  k_with "own CompSrcT" =>
    (k_here; k_dflt (first
    | (refine LCt.CompSrcT.ledger (by rfl) (by k_asm) (by k_asm) (by k_mem) (by rw [List.size_toArray, PySem.sizeLine_eq]; (first | omega | (simp only [List.length_append, List.length_cons, List.length_nil, List.length_map]; omega))) ?_; intro g'; refine Stop.out ?_)
    | (refine LCt.CompSrcT.base (by rfl) (by k_asm) (by k_asm) (by assumption) (by rw [List.size_toArray, PySem.sizeLine_eq]; (first | omega | (simp only [List.length_append, List.length_cons, List.length_nil, List.length_map]; omega))) ?_; intro g'; refine Stop.out ?_)
    | (refine LCt.CompSrcT.range (by rfl) (by k_asm) (by k_asm) (by assumption) (small_one (by omega) (by omega) (by omega) (by omega)) (rangeSize_nat _ _) (by rw [PySem.sizeLine_eq]; omega) ?_; intro g'; refine Stop.out ?_)))
  k_with "own exec For Name Call cons nil" =>
    (refine Stop.out ?_)
  k_with "own call ref" =>
    (
    (with_reducible show wpAny _ _ (call (Value.ref 138) _) _ _ _);
    (k_dflt (refine draw_Kb (by k_asm) (by k_asm) (by k_asm) (by k_asm) (by k_asm) rfl rfl rfl rfl (by k_extra "room") (by k_extra "room") (by k_updF) (by assumption) (by assumption) (by k_extra "ar") (by k_extra "ar") (by k_extra "ar") ?_)); (intro _ _ _ _ _ _ _ hpO hnF hnN); (try dsimp only at hnN); (try dsimp only))
  k_with "own call type:range" =>
    (k_here; (k_dflt (refine range1_rows (by k_asm) (by k_asm) ?_)); intro _ _ _ _ _ _ _ hnN _; (try dsimp only))
  k_with "own subscriptTail" =>
    ((with_reducible show wpAny _ _ (subscriptTail _ _ (Value.ref _) (Value.int _ _)) _ _ _); (k_dflt (refine item_bytes (by k_asm) (by k_mem) (by repeat (first | exact BytesIn.nil | apply BytesIn.cons)) (by assumption) (by (simp only [List.length_cons, List.length_nil]; k_extra "ar")) (by k_extra "ar") ?_)); intro _ _ hbm; have hlb := len7 hbm rfl)
  k_with "own getMethod str" =>
    (refine method_enc ?_)
  k_with "own getMethod bytes" =>
    (refine method_bjoin ?_)
  k_with "own call builtin:str.encode" =>
    (k_dflt (refine enc_K (by k_extra "ar") ?_); intro _ _)
  k_with "own call builtin:bytes.join" =>
    (k_here; (k_dflt (refine join_led (by k_asm) (by k_mem) (by assumption) (by assumption) (by assumption) ?_)); intro _ _)
  k_with "own binaryOp Add bytes bytes" =>
    ((with_reducible show wpAny _ _ (binaryOp _ (Value.bytes (List.toArray _) _) (Value.bytes (List.toArray _) _)) _ _ _); (k_dflt (refine add_B (by first | k_extra "ar" | (simp only [List.length_cons, List.length_nil, List.length_append]; k_extra "ar")) ?_)); intro _ _)
  k_with "own k_ne" =>
    (refine neN ?_; (try dsimp only); first | exact NeF.ne (by with_reducible assumption) | exact NeF.ne' (by with_reducible assumption) | k_extra "ar")
  k_with "allne" =>
    ((try simp only [AllNe, List.pairwise_cons, List.mem_cons, List.not_mem_nil, or_false, forall_eq_or_imp, forall_eq, List.Pairwise.nil, and_true, false_implies, implies_true]); repeat' (first | apply And.intro | (show @_root_.Ne Nat _ _; first | exact NeF.ne (by assumption) | exact NeF.ne' (by assumption) | k_extra "ar")))
  k_with "own k_all" =>
    (refine List.forall_mem_append.mpr ⟨?_, ?_⟩ <;> k_all)
  k_with "leaf" =>
    (intro p hp; iterate 24 try (with_reducible (first | exact hp | exact List.mem_append_left _ hp | apply List.mem_append_right | apply in_tl)))
  k_with "elem" =>
    (iterate 24 try (with_reducible (first | exact List.mem_cons_self | apply in_tl | apply List.mem_append_right)))
  k_with "sub9" =>
    (repeat' (first | exact sub_nil | refine sub_cons (by first | (k_extra "elem"; done) | k_mem) ?_ | (k_extra "leaf"; done) | refine sub_app ?_ ?_))
  k_with "mm" =>
    (iterate 14 (try (first | exact List.mem_cons_self | apply in_tl)))
  k_with "off9" =>
    (repeat' (first | exact off_nil | refine off_cons (by first | exact off_lt (by assumption) | exact OwnOff.ne (by assumption) (by k_extra "mm")) ?_))
  trivial
/-- a set's table: its maker is led as told, nothing was taken out, its places rise -/
structure TGood (led : Bool) (t : SetTable) : Prop where
  led : t.led = led
  dum : t.dummies = #[]
  up : t.place.toList.Pairwise (· < ·)
theorem up_getD {xs : Array Nat} (h : xs.toList.Pairwise (· < ·)) {i k : Nat} (hik : i < k) (hk : k < xs.size) : xs.getD i 0 < xs.getD k 0 := by
  rw [List.pairwise_iff_getElem] at h
  have := h i k (by rw [Array.length_toList]; k_extra "ar") (by rw [Array.length_toList]; exact hk) hik
  simp only [Array.getElem_toList] at this
  have hi : i < xs.size := by k_extra "ar"
  simp only [Array.getD, hi, hk, dif_pos]
  exact this
theorem below_go {xs : Array Nat} (h : xs.toList.Pairwise (· < ·)) (j : Nat) : ∀ (fuel lo hi : Nat), lo ≤ hi → hi ≤ xs.size → hi - lo ≤ fuel → (∀ i, i < lo → xs.getD i 0 < j) → (∀ i, hi ≤ i → i < xs.size → j ≤ xs.getD i 0) →
    SetTable.below.go xs j fuel lo hi ≤ xs.size ∧ (∀ i, i < SetTable.below.go xs j fuel lo hi → xs.getD i 0 < j) ∧ (∀ i, SetTable.below.go xs j fuel lo hi ≤ i → i < xs.size → j ≤ xs.getD i 0) := by
  intro fuel
  induction fuel with
  | zero =>
    intro lo hi h1 h2 h3 h4 h5
    have e : lo = hi := by k_extra "ar"
    subst e
    exact ⟨h2, h4, h5⟩
  | succ f ih =>
    intro lo hi h1 h2 h3 h4 h5
    unfold SetTable.below.go
    by_cases hlt : lo < hi
    · rw [if_pos hlt]
      have hm : (lo + hi) / 2 < xs.size := by k_extra "ar"
      have e : xs.getD ((lo + hi) / 2) j = xs.getD ((lo + hi) / 2) 0 := by simp [Array.getD, hm]
      dsimp only
      rw [e]
      by_cases hc : xs.getD ((lo + hi) / 2) 0 < j
      · rw [if_pos hc]
        refine ih _ _ (by k_extra "ar") h2 (by k_extra "ar") (fun i hi' => ?_) h5
        by_cases q : i = (lo + hi) / 2
        · rw [q]; exact hc
        · have := up_getD h (i := i) (k := (lo + hi) / 2) (by k_extra "ar") hm
          k_extra "ar"
      · rw [if_neg hc]
        refine ih _ _ (by k_extra "ar") (by k_extra "ar") (by k_extra "ar") h4 (fun i hi' hs => ?_)
        by_cases q : i = (lo + hi) / 2
        · rw [q]; k_extra "ar"
        · have := up_getD h (i := (lo + hi) / 2) (k := i) (by k_extra "ar") hs
          k_extra "ar"
    · rw [if_neg hlt]
      have e : lo = hi := by k_extra "ar"
      subst e
      exact ⟨h2, h4, h5⟩
theorem below_spec {xs : Array Nat} (h : xs.toList.Pairwise (· < ·)) (j : Nat) : SetTable.below xs j ≤ xs.size ∧ (∀ i, i < SetTable.below xs j → xs.getD i 0 < j) ∧ (∀ i, SetTable.below xs j ≤ i → i < xs.size → j ≤ xs.getD i 0) :=
  below_go h j _ _ _ (Nat.zero_le _) (Nat.le_refl _) (by k_extra "ar") (fun i hi => absurd hi (Nat.not_lt_zero _)) (fun i h1 h2 => by k_extra "ar")
theorem has_nil (j : Nat) : SetTable.has #[] j = false := by
  simp [SetTable.has]
theorem slot_live_or {t : SetTable} (hd : t.dummies = #[]) (j : Nat) : (∃ i, t.slot j = .live i) ∨ (t.slot j = .empty ∧ t.place[SetTable.below t.place j]? ≠ some j) := by
  unfold SetTable.slot
  dsimp only
  by_cases h : t.place[SetTable.below t.place j]? = some j
  · left
    rw [h]
    simp
  · right
    have e : (t.place[SetTable.below t.place j]? == some j) = false := by simpa using h
    rw [e, hd, has_nil]
    exact ⟨rfl, h⟩
theorem advance_dummy (t : SetTable) (p : SetTable.Probe) : (t.advance p).dummy = p.dummy := by
  unfold SetTable.advance
  split <;> rfl
theorem probe_empty {t : SetTable} (hd : t.dummies = #[]) (hashAt : Nat → Int) (h : Int) {j : Nat} {d : Option Nat} : ∀ (fuel : Nat) (p : SetTable.Probe), p.dummy = none → SetTable.probe.go t hashAt h fuel p = some (.empty j d) → d = none ∧ t.place[SetTable.below t.place j]? ≠ some j := by
  intro fuel
  induction fuel with
  | zero => intro p _ e; cases e
  | succ f ih =>
    intro p hp e
    unfold SetTable.probe.go at e
    rcases slot_live_or hd p.j with ⟨i, hs⟩ | ⟨hs, hne⟩
    · rw [hs] at e
      dsimp only at e
      split at e
      · cases e
      · exact ih _ (by rw [advance_dummy]; exact hp) e
    · rw [hs] at e
      dsimp only at e
      cases e
      exact ⟨hp, hne⟩
theorem freeSlot_spec {t : SetTable} (hd : t.dummies = #[]) {h : Int} {slot : Nat} {was : Bool} (e : t.freeSlot h = some (slot, was)) : t.place[SetTable.below t.place slot]? ≠ some slot := by
  unfold SetTable.freeSlot SetTable.probe at e
  split at e
  · rename_i j d hp
    obtain ⟨rfl, hne⟩ := probe_empty hd _ _ _ _ rfl hp
    cases e
    exact hne
  · cases e
theorem insert_up {xs : Array Nat} (h : xs.toList.Pairwise (· < ·)) {j : Nat} (hj : xs[SetTable.below xs j]? ≠ some j) : (SetTable.insertAt xs (SetTable.below xs j) j).toList.Pairwise (· < ·) := by
  obtain ⟨h1, h2, h3⟩ := below_spec h j
  rw [SetTable.toList_insertAt]
  have hget : ∀ i (hi : i < xs.size), xs.getD i 0 = xs[i] := fun i hi => by simp [Array.getD, hi]
  have lo : ∀ a ∈ xs.toList.take (SetTable.below xs j), a < j := by
    intro a ha
    obtain ⟨i, hi, rfl⟩ := List.getElem_of_mem ha
    rw [List.length_take, Array.length_toList] at hi
    rw [List.getElem_take, Array.getElem_toList, ← hget i (by k_extra "ar")]
    exact h2 i (by k_extra "ar")
  have hi' : ∀ b ∈ xs.toList.drop (SetTable.below xs j), j < b := by
    intro b hb
    obtain ⟨i, hi, rfl⟩ := List.getElem_of_mem hb
    rw [List.length_drop, Array.length_toList] at hi
    rw [List.getElem_drop, Array.getElem_toList]
    have hlt : SetTable.below xs j + i < xs.size := by k_extra "ar"
    rw [← hget _ hlt]
    have hle := h3 (SetTable.below xs j + i) (by k_extra "ar") hlt
    cases i with
    | zero =>
      have hlt0 : SetTable.below xs j < xs.size := by k_extra "ar"
      have : xs[SetTable.below xs j]? = some xs[SetTable.below xs j] := by simp [hlt0]
      rw [this] at hj
      have hne : xs[SetTable.below xs j] ≠ j := fun q => hj (by rw [q])
      rw [← hget _ hlt0] at hne
      have e0 : SetTable.below xs j + 0 = SetTable.below xs j := rfl
      rw [e0] at hle ⊢
      k_extra "ar"
    | succ i =>
      have h4 := up_getD h (i := SetTable.below xs j) (k := SetTable.below xs j + (i + 1)) (by k_extra "ar") hlt
      have h5 := h3 (SetTable.below xs j) (Nat.le_refl _) (by k_extra "ar")
      k_extra "ar"
  refine List.pairwise_append.mpr ⟨h.sublist (List.take_sublist _ _), List.pairwise_cons.mpr ⟨hi', h.sublist (List.drop_sublist _ _)⟩, fun a ha b hb => ?_⟩
  rcases List.mem_cons.mp hb with rfl | hb
  · exact lo a ha
  · exact Nat.lt_trans (lo a ha) (hi' b hb)
theorem range_up (n : Nat) : (Array.range n).toList.Pairwise (· < ·) := by
  rw [Array.toList_range]
  exact List.pairwise_lt_range
theorem standIn_good {led : Bool} {t : SetTable} (h : t.led = led) (n : Nat) : TGood led (t.standIn n) := ⟨h, rfl, range_up n⟩
theorem TGood.off {led : Bool} {t : SetTable} (h : TGood led t) : TGood led { t with plain := false } := ⟨h.led, h.dum, h.up⟩
theorem fresh_good (led : Bool) : TGood led (.fresh 0 0 led) := ⟨rfl, rfl, List.Pairwise.nil⟩
theorem put_good {led : Bool} {t : SetTable} (h : TGood led t) {j : Nat} (hj : t.place[SetTable.below t.place j]? ≠ some j) : TGood led (t.put j).1 := by
  unfold SetTable.put
  refine ⟨h.led, ?_, insert_up h.up hj⟩
  show (if SetTable.has t.dummies j = true then _ else t.dummies) = #[]
  rw [h.dum, has_nil]
  rfl
theorem layNew_good {led : Bool} {t : SetTable} (g : TGood led t) (es : Array (Int × Value)) (h : Int) (x : Value) : TGood led (layNew t es h x).2.1 := by
  unfold layNew
  split
  · rename_i slot was e
    have hp := put_good g (freeSlot_spec g.dum e)
    dsimp only
    unfold SetTable.orStandIn
    split
    · exact hp
    · exact standIn_good hp.led _
  · exact standIn_good g.led _
theorem laid_good {mask finger moves : Nat} {led plain : Bool} {hashes : Array Int} {t : SetTable} {order : Array Nat} (e : SetTable.laid mask finger moves led plain hashes = some (t, order)) : TGood led t := by
  unfold SetTable.laid at e
  cases ho : SetTable.layClean mask hashes with
  | none => rw [ho] at e; cases e
  | some owner =>
    rw [ho] at e
    cases e
    refine ⟨rfl, rfl, ?_⟩
    dsimp only
    rw [List.pairwise_map, List.pairwise_filterMap]
    refine List.pairwise_lt_range.imp fun {a b} hab x hx y hy => ?_
    rw [Option.map_eq_some_iff] at hx hy
    obtain ⟨_, _, rfl⟩ := hx
    obtain ⟨_, _, rfl⟩ := hy
    exact hab
theorem relayAll_good {led : Bool} {t : SetTable} (g : TGood led t) (es : Array (Int × Value)) (wanted : Nat) : TGood led (relayAll t es wanted).2.1 := by
  unfold relayAll
  split
  · rename_i t' order e
    have := laid_good e
    rw [g.led] at this
    dsimp only
    split
    · exact this
    · exact standIn_good g.led _
  · exact standIn_good g.led _
end
/-! text SetAdd -/
section
theorem off_SetAdd : True := by
  w_top off
  trivial
noncomputable def keyI : Value → Int
  | .int k _ => k
  | _ => 0
noncomputable abbrev keysI (l : List (Int × Value)) : List Int := l.map fun e => keyI e.2
def AllI (l : List (Int × Value)) : Prop := ∀ e ∈ l, ∃ k t, e = (hashInt k, .int k t)
/-- the object is a set of just the ints ks -/
structure SetIs (led : Bool) (ks : List Int) (n : Nat) (es : Array (Int × Value)) (t : SetTable) : Prop where
  allI : AllI es.toList
  nodup : (keysI es.toList).Nodup
  mem : ∀ k, k ∈ keysI es.toList ↔ k ∈ ks
  few : es.size ≤ n
  fits : t.fits es.size = true
  good : TGood led t
def SetGO (led : Bool) (ks : List Int) (n : Nat) (o : Obj) : Prop := ∃ es ep t, o.ExactSet ∧ o.data = .set es ep t ∧ SetIs led ks n es t
theorem AllI.elems {l : List (Int × Value)} (h : AllI l) (prog : Program) (w : World) : ElemsOf (intKind prog w) l := fun e he => by
  obtain ⟨k, t, rfl⟩ := h e he
  exact ⟨⟨k, intKind_is _ _ _ _, rfl⟩, rfl⟩
theorem AllI.perm {l l' : List (Int × Value)} (h : AllI l) (p : l'.Perm l) : AllI l' := fun e he => h e (p.mem_iff.mp he)
theorem SetIs.found {led : Bool} {ks : List Int} {n : Nat} {es : Array (Int × Value)} {t : SetTable} (h : SetIs led ks n es t) {k : Int} (hk : k ∈ ks) : SetIs led (ks ++ [k]) (n + 1) es t :=
  ⟨h.allI, h.nodup, fun x => by
    rw [h.mem x, List.mem_append, List.mem_singleton]
    exact ⟨.inl, fun q => q.elim id fun e => e ▸ hk⟩, Nat.le_succ_of_le h.few, h.fits, h.good⟩
theorem SetIs.added {led : Bool} {ks : List Int} {n : Nat} {es es' : Array (Int × Value)} {t t' : SetTable} (h : SetIs led ks n es t) {k : Int} {tk : Tok} (hk : k ∉ ks) (p : es'.toList.Perm (es.toList ++ [(hashInt k, .int k tk)])) (hf : t'.fits es'.size = true) (hg : TGood led t') : SetIs led (ks ++ [k]) (n + 1) es' t' := by
  have pk : (keysI es'.toList).Perm (keysI es.toList ++ [k]) := by
    have := p.map (fun e => keyI e.2)
    rw [List.map_append] at this
    exact this
  refine ⟨?_, ?_, fun x => ?_, ?_, hf, hg⟩
  · refine AllI.perm (fun e he => ?_) p
    rcases List.mem_append.mp he with q | q
    · exact h.allI e q
    · rw [List.mem_singleton.mp q]; exact ⟨_, _, rfl⟩
  · refine pk.nodup_iff.mpr (List.nodup_append.mpr ⟨h.nodup, List.nodup_cons.mpr ⟨(fun q => nomatch q), List.nodup_nil⟩, fun a ha b hb => ?_⟩)
    rw [List.mem_singleton.mp hb]
    rintro rfl
    exact hk ((h.mem _).mp ha)
  · rw [pk.mem_iff, List.mem_append, List.mem_append, h.mem x]
  · have := p.length_eq
    rw [List.length_append, Array.length_toList, Array.length_toList, List.length_singleton] at this
    have := h.few
    k_extra "ar"
theorem SetIs.relaid {led : Bool} {ks : List Int} {n : Nat} {es es' : Array (Int × Value)} {t t' : SetTable} (h : SetIs led ks n es t) (p : es'.toList.Perm es.toList) (hf : t'.fits es'.size = true) (hg : TGood led t') : SetIs led ks n es' t' := by
  have pk : (keysI es'.toList).Perm (keysI es.toList) := p.map _
  refine ⟨h.allI.perm p, pk.nodup_iff.mpr h.nodup, fun x => by rw [pk.mem_iff, h.mem x], ?_, hf, hg⟩
  have := p.length_eq
  rw [Array.length_toList, Array.length_toList] at this
  have := h.few
  k_extra "ar"
theorem key_found {l : List (Int × Value)} (h : AllI l) {k : Int} {e : Int × Value} (he : e ∈ l) (hi : Value.isInt k e.2 = true) : k ∈ keysI l := by
  obtain ⟨j, t, rfl⟩ := h e he
  refine List.mem_map.mpr ⟨_, he, ?_⟩
  have : j = k := by simpa [Value.isInt] using hi
  exact this
theorem key_absent {l : List (Int × Value)} (h : AllI l) {k : Int} (hn : ∀ e ∈ l, Value.isInt k e.2 = false) : k ∉ keysI l := by
  intro hk
  obtain ⟨e, he, hq⟩ := List.mem_map.mp hk
  obtain ⟨j, t, rfl⟩ := h e he
  have := hn _ he
  have hj : j = k := hq
  subst hj
  simp [Value.isInt] at this
section
variable {prog : Program} {w : World} {A : Around} {E : Value → Shared → Prop} {s : Shared}
theorem store_get {h : Heap} {a : Addr} {o : Obj} {es es' : Array (Int × Value)} {ep : Nat} {t t' : SetTable} (ho : h.get? a = some o) (hd : o.data = .set es ep t) : (h.update a (Obj.putSet es' t')).get? a = some { o with data := .set es' (ep + 1) t' } := by
  have := Heap.get?_update_self (Obj.putSet es' t') ho (by rw [putSet_of es' t' hd]; rfl)
  rw [putSet_of es' t' hd] at this
  exact this
theorem add_good {led : Bool} {ks : List Int} {n : Nat} {a : Addr} {o : Obj} {k : Int} {tk : Tok} {Q : Bool → Shared → Prop} (ho : s.heap.get? a = some o) (g : SetGO led ks n o) (hn : n ≤ 1000)
    (h : ∀ b h' o', Heap.SameBut a s.heap h' → h'.get? a = some o' → SetGO led (ks ++ [k]) (n + 1) o' → Q b { s with heap := h' }) :
    wpAny (model prog w) A (setAddHashed a (.int k tk) (hashInt k)) Q E s := by
  obtain ⟨es, ep, t, hex, hd, g⟩ := g
  have hel := g.allI.elems prog w
  have hbs : ∀ m : Nat, m ≤ 1001 → m < scanBound := fun m hm => by
    have h1 : scanBound = 4096 := rfl
    k_extra "ar"
  have hfew := g.few
  unfold setAddHashed setAddHashedIn
  refine wpAny_holding (wpAny_bind (wpAny_setState_of ho hd g.fits ?_))
  dsimp only
  rw [byScan_of (knd := intKind prog w) rfl (hbs _ (by k_extra "ar")) hel]
  simp only [↓reduceIte]
  unfold setAddByScan
  refine wpAny_bind ?_
  refine wpAny_bind (wpAny_rule ?_)
  refine wpAny_bind (wpAny_setScan_of (knd := intKind prog w) (intKind_is _ _ _ _) ho hd g.fits hel ?_)
  cases hr : List.findIdx? (fun e => (intKind prog w).is k e.2) es.toList with
  | some j =>
    dsimp only
    obtain ⟨hj, hpj, _⟩ := List.findIdx?_eq_some_iff_getElem.mp hr
    have hk : k ∈ ks := (g.mem k).mp (key_found g.allI (List.getElem_mem hj) hpj)
    refine wpAny_pure (wpAny_pure ?_)
    have e : s = { s with heap := s.heap } := by cases s; rfl
    rw [e]
    exact h _ s.heap o (Heap.SameBut.refl a s.heap) ho ⟨es, ep, t, hex, hd, g.found hk⟩
  | none =>
    dsimp only
    have hk : k ∉ ks := fun q => key_absent g.allI (fun e he => by
      have := List.findIdx?_eq_none_iff.mp hr e he
      exact this) ((g.mem k).mpr q)
    have hgw : ∀ (b : Bool) {s₁ : Shared} {Q' : Unit → Shared → Prop}, Q' () s₁ → wpAny (model prog w) A (match b with | true => rule "set.scan.the-table-gave-way" | false => pure ()) Q' E s₁ :=
      fun b s₁ Q' hq => by cases b <;> first | exact wpAny_pure hq | exact wpAny_rule hq
    have hperm := layNew_perm t es (hashInt k) (.int k tk)
    have hfits := layNew_fits t es (hashInt k) (.int k tk)
    have hgood := layNew_good g.good es (hashInt k) (.int k tk)
    have hhash : (intKind prog w).hash k = hashInt k := rfl
    generalize hL : layNew t es (hashInt k) (.int k tk) = L at hperm hfits hgood ⊢
    obtain ⟨es1, t1, wasDummy, gave⟩ := L
    dsimp only at hperm hfits hgood ⊢
    rw [Array.toList_push] at hperm
    refine wpAny_bind (hgw _ ?_)
    have tail : ∀ t2 : SetTable, t2.fits es1.size = true → TGood led t2 → wpAny (model prog w) A (do
        storeSet a es1 t2
        if (!wasDummy && t2.tooFull) = true then do
            (match (relayAll t2 es1 (SetTable.grown es1.size)).2.2 with | true => rule "set.scan.the-table-gave-way" | false => pure ())
            storeSet a (relayAll t2 es1 (SetTable.grown es1.size)).1 (relayAll t2 es1 (SetTable.grown es1.size)).2.1
            pure (some true)
          else pure (some true)) (fun r s' => wpAny (model prog w) A (match r with | some added => pure added | none => setAddHashedIn a (.int k tk) (hashInt k) 99999) Q E s') E s := by
      intro t2 hf2 hg2
      have i1 := g.added hk hperm hf2 hg2
      have hz1 := i1.few
      refine wpAny_bind (wpAny_storeSet_of ho hd ?_ (fits_of_scanBound (hbs _ (by k_extra "ar"))))
      have ho1 := store_get (es' := es1) (t' := t2) ho hd
      have hsb1 := Heap.SameBut.update s.heap a (Obj.putSet es1 t2)
      split
      · have hp := relayAll_perm t2 es1 (SetTable.grown es1.size)
        have hfr := relayAll_fits t2 es1 (SetTable.grown es1.size)
        have hgr := relayAll_good hg2 es1 (SetTable.grown es1.size)
        generalize hRl : relayAll t2 es1 (SetTable.grown es1.size) = Rl at hp hfr hgr ⊢
        obtain ⟨es2, t3, gave2⟩ := Rl
        dsimp only at hp hfr hgr ⊢
        have i2 := i1.relaid hp hfr hgr
        have hz2 := i2.few
        refine wpAny_bind (hgw _ ?_)
        refine wpAny_bind (wpAny_storeSet_of ho1 rfl ?_ (fits_of_scanBound (hbs _ (by k_extra "ar"))))
        refine wpAny_pure (wpAny_pure ?_)
        exact h _ _ _ (hsb1.trans (Heap.SameBut.update _ a _)) (store_get ho1 rfl) ⟨es2, _, t3, hex, rfl, i2⟩
      · refine wpAny_pure (wpAny_pure ?_)
        exact h _ _ _ hsb1 ho1 ⟨es1, _, t2, hex, rfl, i1⟩
    split
    · refine wpAny_bind ?_
      rw [hashByValue_scannable 8 rfl]
      refine wpAny_pure ?_
      refine tail _ ?_ ?_
      · split
        · exact hfits
        · exact SetTable.fits_plain_off hfits
      · split
        · exact hgood
        · exact hgood.off
    · refine wpAny_bind (wpAny_pure ?_)
      simp only [↓reduceIte]
      exact tail _ hfits hgood
end
end
/-! text SetNew -/
section
theorem off_SetNew : True := by
  w_top off
  trivial
abbrev ledOf (w : World) : Bool := !(w.params.followText "set-order")
section
variable {prog : Program} {w : World} {A : Around} {R : Result → Shared → Prop} {I : Addr} {fp wr : List Addr} {G : Array GenState → Array GenState → Prop} {n : Nat} {P : Nat → Value → Prop} {St : Nat → Shared → Prop} {led : Bool}
theorem upd_loop (W : WalksS prog w A.in1 I fp wr G n P St) (S : Addr) (hSf : S ∉ fp) (val : Nat → Int) (hval : ∀ i v, P i v → ∃ t, v = .int (val i) t) (hb : n ≤ 900) :
    ∀ (k i : Nat) (s : Shared), n - i = k → i ≤ n → St i s → (∃ o, s.heap.get? S = some o ∧ SetGO led ((List.range i).map val) i o) →
      (∀ s', Moved (S :: wr) G s s' → (∃ o, s'.heap.get? S = some o ∧ SetGO led ((List.range n).map val) n o) → R (.ok (.ret .none)) s') →
      codeAny (model prog w) A (.builtin "set.update.loop" ⟨[.ref S, .ref I], []⟩) R s := by
  have hSw : S ∉ wr := fun h => hSf (W.sub _ h)
  have hsub : ∀ b ∈ wr, b ∈ S :: wr := fun b hb => List.mem_cons_of_mem _ hb
  intro k
  induction k with
  | zero =>
    intro i s hk hi hst hS hR
    have hin : i = n := by k_extra "ar"
    subst hin
    refine codeAny_builtin PyProof.Rows.F.entry_set_update_loop ?_
    rw [Around.under_plainId PyProof.Rows.F.plain_set_update_loop _]
    show wpAny _ A.in1 (pyNext (.ref I) >>= _) _ _ s
    refine wpAny_bind (W.done s _ _ hst fun s' hm => ?_)
    show wpAny _ A.in1 (ret Value.none) _ _ s'
    obtain ⟨o, ho, hg⟩ := hS
    exact wpAny_pure (hR s' (hm.mono hsub) ⟨o, hm.heap S _ hSw ho, hg⟩)
  | succ k ih =>
    intro i s hk hi hst hS hR
    have hlt : i < n := by k_extra "ar"
    refine codeAny_builtin PyProof.Rows.F.entry_set_update_loop ?_
    rw [Around.under_plainId PyProof.Rows.F.plain_set_update_loop _]
    show wpAny _ A.in1 (pyNext (.ref I) >>= _) _ _ s
    refine wpAny_bind (W.item i s _ _ hlt hst fun v s' hP hst' hm => ?_)
    obtain ⟨t, rfl⟩ := hval i v hP
    obtain ⟨o, ho, hg⟩ := hS
    have ho' : s'.heap.get? S = some o := hm.heap S _ hSw ho
    show wpAny _ A.in1 (holding [Value.int (val i) t] (setAdd S (.int (val i) t)) >>= _) _ _ s'
    refine wpAny_bind (wpAny_holding ?_)
    unfold setAdd
    refine wpAny_holding ?_
    refine wpAny_bind ((intKind prog w).pyHash (k := val i) (intKind_is _ _ _ _) ?_)
    refine add_good (s := { s' with toks := s'.toks + 1 }) ho' hg (by k_extra "ar") fun _ h' o' hsb ho2 hg2 => ?_
    have hg3 : SetGO led ((List.range (i + 1)).map val) (i + 1) o' := by
      rw [List.range_succ, List.map_append]
      exact hg2
    refine wpAny_pure ⟨plainId_quiet PyProof.Rows.F.plain_set_update_loop _, ih (i + 1) _ (by k_extra "ar") hlt (W.frame _ s' _ _ hst' (Nat.le_succ _) fun b hb o e => ?_) ⟨o', ho2, hg3⟩ fun s'' hm'' hS'' => ?_⟩
    · rw [hsb.2 b (fun h : b = S => hSf (by rw [← h]; exact hb))]; exact e
    · refine hR s'' (Moved.trans W.gtrans ((hm.mono hsub).then_heap (Nat.le_succ _) fun b o hb e => ?_) hm'') hS''
      rw [hsb.2 b (fun h : b = S => hb (by rw [h]; exact List.mem_cons_self))]; exact e
end
section
variable {prog : Program} {w : World} {A : Around} {E : Value → Shared → Prop} {s : Shared}
theorem fresh_is (led : Bool) : SetGO led [] 0 { cls := .type "set", dict := none, data := .set #[] 0 (.fresh 0 0 led) } :=
  ⟨#[], 0, _, ⟨rfl, rfl, rfl⟩, rfl, ⟨fun e he => (by simp at he), List.nodup_nil, fun k => Iff.rfl, Nat.le_refl _, rfl, fresh_good led⟩⟩
abbrev setO0 (w : World) : Obj := { cls := .type "set", dict := none, data := .set #[] 0 (.fresh 0 0 (ledOf w)) }
theorem set_new_1 (a : Value) {Q₁ : Value → Shared → Prop} (h : Q₁ (.ref s.heap.objs.size) { s with heap := s.heap.push (setO0 w) }) :
    codeAny (model prog w) A (.call (.builtin "set.__new__") ⟨[.type "set", a], []⟩) (wants Q₁ E) s := by
  refine codeAny_of_tree ?_
  show wpAny _ A.in1 (do checkBuiltinCall "set.__new__" ⟨[.type "set", a], []⟩; again (.builtin "set.__new__" ⟨[.type "set", a], []⟩)) _ _ s
  refine wpAny_bind (wpAny_of_eq (PySem.F.newCall_set_1 a) (wpAny_pure ⟨plainId_quiet PySem.F.plain_set_new _, codeAny_builtin PySem.F.entry_set_new ?_⟩))
  rw [Around.under_plainId PySem.F.plain_set_new _]
  unfold Builtin.«set.__new__» Builtin.Frozenset.newClass
  have hsub := PySem.sub_set_self
  obtain ⟨hp, g, d, tk, os⟩ := s
  dsimp only
  wp_walk
  refine wpAny_askSetting (wpAny_pure ?_)
  dsimp only
  simp only [newObj]
  refine wpAny_bind (wpAny_alloc (wpAny_pure ?_))
  exact wpAny_pure h
end
end
/-! text SetCall -/
section
theorem off_SetCall : True := by
  w_top off
  trivial
section
variable {prog : Program} {w : World} {A : Around} {E : Value → Shared → Prop} {s : Shared}
theorem set_call {l : Addr} {items : Array Value} {ns : List Int} {Q : Value → Shared → Prop}
    (hh : A.handled = none) (hl : s.heap.IsList l items) (hi : IntsAre items.toList ns) (hb : items.size ≤ 900)
    (h : ∀ (h' : Heap) (tk : Nat) (o : Obj), h'.get? s.heap.objs.size = some o → SetGO (ledOf w) ((List.range items.size).map fun i => ns.getD i 0) items.size o →
      (∀ b o, b < s.heap.objs.size → s.heap.get? b = some o → h'.get? b = some o) → Q (.ref s.heap.objs.size) { s with heap := h', toks := tk }) :
    wpAny (model prog w) A (call (.type "set") [.ref l]) Q E s := by
  obtain ⟨c, tl, hmro⟩ := PySem.F.called_set.mro
  have hmade := PySem.F.called_set.made
  have hsub := PySem.F.called_set.sub
  refine wpAny_call (codeAny_of_tree ?_)
  show wpAny _ _ (callAny (.type "set") _) _ _ _
  refine wpAny_pure ⟨Code.quiet_builtin _ (by decide +kernel), codeAny_builtin PySem.F.entry_type_call ?_⟩
  rw [Around.under_plain (weight_type_call_type "set" [.ref l] []) rfl]
  have h1 := PySem.F.called_set.notType
  have h2 := PySem.F.called_set.canCreate
  have hct := PySem.F.typeCall_set_1 (.ref l)
  repeat (any_goals (first | assumption | wp_step))
  refine codeAny_mono (set_new_1 (.ref l) (E := E) (Q₁ := fun obj s₁ => obj = .ref s.heap.objs.size ∧ s₁ = { s with heap := s.heap.push (setO0 w) }) ⟨rfl, rfl⟩) fun r s₁ hr => ?_
  cases r with
  | error e => exact hr
  | ok fl =>
    cases fl with
    | ret obj =>
      obtain ⟨rfl, rfl⟩ := hr
      have hS : (s.heap.push (setO0 w)).get? s.heap.objs.size = some (setO0 w) := Heap.get?_push_size _ rfl
      have hT : Shared.TypeIs { s with heap := s.heap.push (setO0 w) } (.ref s.heap.objs.size) "set" := ⟨_, hS, rfl⟩
      have hli := PySem.F.called_set.init.lookup
      have hbi := PySem.F.called_set.init.bind (.ref s.heap.objs.size)
      repeat (any_goals (first | assumption | wp_step))
      refine codeAny_mono (codeAny_call_builtin (R := wants (fun r s₂ => r = .none ∧ ∃ h' tk o, s₂ = { s with heap := h', toks := tk } ∧
          h'.get? s.heap.objs.size = some o ∧ SetGO (ledOf w) ((List.range items.size).map fun i => ns.getD i 0) items.size o ∧
          (∀ b o, b < s.heap.objs.size → s.heap.get? b = some o → h'.get? b = some o)) E) PySem.F.called_set.init.plain PySem.F.entry_set_init (check_set_init_1 hT ?_)) fun r₂ s₂ hr₂ => ?_
      · obtain ⟨ol, hol, hcl, nl, hdl⟩ := hl
        obtain ⟨ocls, odict, odata, oslots⟩ := ol
        simp only at hcl hdl
        subst hcl; subst hdl
        have hol' : (s.heap.push (setO0 w)).get? l = some { cls := .type "list", dict := odict, data := .seq items nl, slots := oslots } := Heap.get?_push_of_some _ hol
        have hsls := PySem.F.sub_list_set
        have hslf := PySem.F.sub_list_frozenset
        have hne : (Value.type "list" == Value.type "dict") = false := by decide
        have hl1 : (s.heap.push (setO0 w)).IsList l items := ⟨_, hol', rfl, nl, rfl⟩
        unfold Builtin.«set.__init__» noKeywords Builtin.Frozenset.updateFrom
        generalize hPI : pyIter = PI
        wp_walk
        subst hPI
        refine wpAny_pyIter_list hl1 ?_
        refine wpAny_bind (wpAny_runValue ?_)
        have hlS : l < s.heap.objs.size := Heap.lt_size hol
        have hh3 : A.in1.in1.in1.handled = none := by simp [hh]
        have hneI : l ≠ (s.heap.push (setO0 w)).objs.size := by
          rw [Heap.size_push]; exact Nat.ne_of_lt (Nat.lt_succ_of_lt hlS)
        have hSf : s.heap.objs.size ∉ [(s.heap.push (setO0 w)).objs.size, l] := by
          rw [Heap.size_push]; simp only [List.mem_cons, List.mem_singleton, List.not_mem_nil, or_false, not_or]
          exact ⟨Nat.ne_of_lt (Nat.lt_succ_self _), Nat.ne_of_gt hlS⟩
        have hval : ∀ (i : Nat) (v : Value), items[i]? = some v → ∃ t, v = .int ((fun i => ns.getD i 0) i) t := fun i v hv =>
          IntsAre.int_at hi i v (by rw [Array.getElem?_toList]; exact hv)
        refine upd_loop (led := ledOf w) ((Walks.list hh3 _ l hneI items).toS) s.heap.objs.size
          hSf (fun i => ns.getD i 0) hval hb (items.size - 0) 0 _ (by k_extra "ar") (Nat.zero_le _)
          ⟨⟨_, Heap.get?_push_size _ rfl, rfl, rfl⟩, (hl1.push _)⟩ ?hS0 ?hR
        case hS0 => exact ⟨setO0 w, Heap.get?_push_of_some _ hS, fresh_is _⟩
        case hR =>
          intro s' hm hS'
          obtain ⟨h', g', d', tk', os'⟩ := s'
          have eg : g' = s.gens := hm.gens
          have ed : d' = s.drawn := hm.drawn
          have eo : os' = s.os := hm.os
          subst eg; subst ed; subst eo
          obtain ⟨o, ho, hg⟩ := hS'
          show wpAny _ _ _ _ _ _
          refine wpAny_pure ?_
          show wpAny _ _ (ret Value.none) _ _ _
          refine wpAny_pure ⟨rfl, h', tk', o, rfl, ho, hg, fun b o hb e => ?_⟩
          have hb1 : b ≠ s.heap.objs.size := Nat.ne_of_lt hb
          have hb2 : b ≠ (s.heap.push (setO0 w)).objs.size := by
            rw [Heap.size_push]; exact Nat.ne_of_lt (Nat.lt_succ_of_lt hb)
          exact hm.heap b o (by simp only [List.mem_cons, List.mem_singleton, List.not_mem_nil, or_false, not_or]; exact ⟨hb1, hb2⟩) (Heap.get?_push_of_some _ (Heap.get?_push_of_some _ e))
      · cases r₂ with
        | error e => exact hr₂
        | ok fl₂ =>
          cases fl₂ with
          | ret r =>
            obtain ⟨rfl, h', tk, o, rfl, ho, hg, hk'⟩ := hr₂
            repeat (any_goals (first | assumption | wp_step))
            exact h _ _ _ ho hg hk'
          | _ => exact hr₂.elim
    | _ => exact hr.elim
end
end
/-! text SetIter -/
section
theorem off_SetIter : True := by
  w_top off
  trivial
theorem entry_set_iter : entryFor table "set.__iter__" = some Builtin.«frozenset.__iter__» :=
  entryFor_alias (id' := "frozenset.__iter__") (by rw [fastTable_eq_tree]; kernel_rfl) rfl (by decide +kernel) (by rw [fastTable_eq_tree]; kernel_rfl)
theorem slot_si_next : Slot "set_iterator" "__next__" "set_iterator.__next__" :=
  .of (owner := "set_iterator") (n := "__next__") (by rw [typeLookup_type, builtinLookup_eq_fast]; kernel_rfl) (by decide +kernel) (by decide +kernel) (by decide +kernel)
    (by first | exact .inl (by decide +kernel) | exact .inr (by decide +kernel)) (by rw [isSubtype_type]; kernel_rfl)
theorem entry_si_next : entryFor table "set_iterator.__next__" = some Builtin.«set_iterator.__next__» := entryFor_of_tree (by kernel_rfl)
theorem owner_si : Manifest.owners.lookup (String.ofList ['r', 'o', 't', 'a', 'r', 'e', 't', 'i', '_', 't', 'e', 's'].reverse) = some Manifest.sig_set_iterator := by kernel_rfl
theorem args_si_next (a : Value) : argsOk "set_iterator.__next__" ⟨[a], []⟩ := by
  unfold argsOk; rw [signature?_of (id := "set_iterator.__next__") (n := ['_', '_', 't', 'x', 'e', 'n', '_', '_']) (o := ['r', 'o', 't', 'a', 'r', 'e', 't', 'i', '_', 't', 'e', 's']) (by kernel_rfl) owner_si]; kernel_rfl
theorem slot_si_iter : Slot "set_iterator" "__iter__" "set_iterator.__iter__" :=
  .of (owner := "set_iterator") (n := "__iter__") (by rw [typeLookup_type, builtinLookup_eq_fast]; kernel_rfl) (by decide +kernel) (by decide +kernel) (by decide +kernel)
    (by first | exact .inl (by decide +kernel) | exact .inr (by decide +kernel)) (by rw [isSubtype_type]; kernel_rfl)
theorem entry_si_iter : entryFor table "set_iterator.__iter__" = some Builtin.«dict_keyiterator.__iter__» :=
  entryFor_alias (id' := "dict_keyiterator.__iter__") (by rw [fastTable_eq_tree]; kernel_rfl) rfl (by decide +kernel) (by rw [fastTable_eq_tree]; kernel_rfl)
theorem args_si_iter (a : Value) : argsOk "set_iterator.__iter__" ⟨[a], []⟩ := by
  unfold argsOk; rw [signature?_of (id := "set_iterator.__iter__") (n := ['_', '_', 'r', 'e', 't', 'i', '_', '_']) (o := ['r', 'o', 't', 'a', 'r', 'e', 't', 'i', '_', 't', 'e', 's']) (by kernel_rfl) owner_si]; kernel_rfl
/-- an iterator over a set -/
def IsSetIter (h : Heap) (it sa : Addr) (first : Value) (i n ep : Nat) : Prop := ∃ o, h.get? it = some o ∧ o.cls = .type "set_iterator" ∧ o.data = .fields #[first, .int i 0, .ref sa, .int n 0, .int ep 0]
theorem IsSetIter.typeIs {s : Shared} {it sa : Addr} {first : Value} {i n ep : Nat} (x : IsSetIter s.heap it sa first i n ep) : s.TypeIs (.ref it) "set_iterator" := let ⟨o, ho, hc, _⟩ := x; ⟨o, ho, hc⟩
section
variable {prog : Program} {w : World} {A : Around} {E : Value → Shared → Prop} {s : Shared} {it sa : Addr} {so : Obj} {es : Array (Int × Value)} {t : SetTable} {i n ep slot next : Nat} {x : Value} {Q : Option Value → Shared → Prop}
theorem upd_iter {h : Heap} {o : Obj} {fs : Array Value} {k : Nat} {v : Value} (ho : h.get? it = some o) (hd : o.data = .fields fs) :
    (h.update it (Obj.mapFields (·.setIfInBounds k v))).get? it = some (Obj.mapFields (·.setIfInBounds k v) o) := Heap.get?_update_self _ ho (Obj.isFreed_of_fields (Obj.data_mapFields hd _))
theorem si_next_int (hit : IsSetIter s.heap it sa (.int slot 0) i n ep) (hso : s.heap.get? sa = some so) (hsd : so.data = .set es ep t) (hf : t.fits es.size = true) (hn : es.size = n)
    (hnext : ∀ (A : Around) (E : Value → Shared → Prop) (Q : Option (Value × Nat) → Shared → Prop), Q (some (x, next)) s → wpAny (model prog w) A (setNext sa slot i ep) Q E s)
    (hQ : ∀ h', IsSetIter h' it sa (.int next 0) (i + 1) n ep → Heap.SameBut it s.heap h' → Q (some x) { s with heap := h' }) :
    wpAny (model prog w) A (pyNext (.ref it)) Q E s := by
  obtain ⟨o, ho, hc, hd⟩ := id hit
  unfold pyNext
  refine wpAny_bind (wpAny_attempt (wpAny_callSpecial?_slot (name := Str.ofString "__next__") hit.typeIs slot_si_next
    (wpAny_call_entry slot_si_next hit.typeIs entry_si_next ?_ (args_si_next _))))
  unfold Builtin.«set_iterator.__next__»
  refine wpAny_bind (wpAny_pure ?_)
  refine wpAny_bind (wpAny_fieldsOf ho hd ?_)
  dsimp only
  refine wpAny_bind (wpAny_setEntries_of hso hsd hf ?_)
  rw [if_neg (by rw [hn]; simp)]
  rw [Int.toNat_natCast, Int.toNat_natCast, Int.toNat_natCast]
  refine wpAny_bind (hnext _ _ _ ?_)
  dsimp only
  refine wpAny_bind (wpAny_setField ho hd (by simp) ?_)
  have ho1 := upd_iter (it := it) (k := 0) (v := rawInt next) ho hd
  have hd1 := Obj.data_mapFields hd (·.setIfInBounds 0 (rawInt next))
  refine wpAny_bind (wpAny_setField (s := { s with heap := _ }) ho1 hd1 (by simp) ?_)
  have ho2 := upd_iter (it := it) (k := 1) (v := rawInt ((i : Int) + 1)) ho1 hd1
  refine wpAny_pure ⟨x, rfl, wpAny_pure (hQ _ ⟨_, ho2, ?_, ?_⟩ ((Heap.SameBut.update ..).trans (Heap.SameBut.update ..)))⟩
  · rw [Obj.cls_mapFields, Obj.cls_mapFields]; exact hc
  · rw [Obj.data_mapFields hd1]; simp [rawInt]
/-- the end: StopIteration is made and caught -/
theorem stop_tail {h1 : Heap} {s₁ : Shared} (hh : A.handled = none) (hk : Heap.ExtBut it h1 s₁.heap) (hQ : ∀ h', Heap.ExtBut it h1 h' → Q none { s₁ with heap := h' }) :
    wpAny (model prog w) A.in1 (newExc (.type "StopIteration") [] >>= fun e => (raiseNew e : Sem Fin)) (fun fin s' => ∃ v, fin = Fin.done (Flow.ret v) ∧ wpAny (model prog w) A (pure (some v)) Q E s')
      (fun e s' => wpAny (model prog w) A (isInstance e (.type "StopIteration") >>= fun b => if b = true then pure none else throw e) Q E s') s₁ := by
  refine wpAny_bind ?_
  simp only [newExc, newTuple]
  refine wpAny_bind (wpAny_newObj_type ?_ (by size_fits))
  refine wpAny_bind (m := firstArgMember _ _) (wpAny_of_eq (a := Value.none) (by first | rfl | (simp only [firstArgMember]; rfl)) ?_)
  refine wpAny_newObj_type ?_ (by size_fits)
  simp only [raiseNew]
  refine wpAny_bind (wpAny_handled ?_)
  rw [show A.in1.handled = none from hh]
  refine wpAny_bind (wpAny_pure (wpAny_throw ?_))
  refine wpAny_bind (wpAny_isInstance (T := "StopIteration") (b := true) ⟨_, Heap.get?_push_size _ rfl, rfl⟩ isSubtype_stop ?_)
  exact wpAny_pure (hQ _ ((hk.push _).push _))
theorem si_end_int (hh : A.handled = none) (hit : IsSetIter s.heap it sa (.int slot 0) i n ep) (hso : s.heap.get? sa = some so) (hsd : so.data = .set es ep t) (hf : t.fits es.size = true) (hn : es.size = n)
    (hnext : ∀ (A : Around) (E : Value → Shared → Prop) (Q : Option (Value × Nat) → Shared → Prop), Q none s → wpAny (model prog w) A (setNext sa slot i ep) Q E s)
    (hQ : ∀ h', Heap.ExtBut it s.heap h' → Q none { s with heap := h' }) :
    wpAny (model prog w) A (pyNext (.ref it)) Q E s := by
  obtain ⟨o, ho, hc, hd⟩ := id hit
  unfold pyNext
  refine wpAny_bind (wpAny_attempt (wpAny_callSpecial?_slot (name := Str.ofString "__next__") hit.typeIs slot_si_next
    (wpAny_call_entry slot_si_next hit.typeIs entry_si_next ?_ (args_si_next _))))
  unfold Builtin.«set_iterator.__next__»
  refine wpAny_bind (wpAny_pure ?_)
  refine wpAny_bind (wpAny_fieldsOf ho hd ?_)
  dsimp only
  refine wpAny_bind (wpAny_setEntries_of hso hsd hf ?_)
  rw [if_neg (by rw [hn]; simp)]
  rw [Int.toNat_natCast, Int.toNat_natCast, Int.toNat_natCast]
  refine wpAny_bind (hnext _ _ _ ?_)
  dsimp only
  refine wpAny_bind (wpAny_setField ho hd (by simp) ?_)
  exact stop_tail (s₁ := { s with heap := _ }) hh (Heap.SameBut.update ..).extBut hQ
theorem si_next_tup {T : Addr} {to : Obj} {arr : Array Value} {tn place : Nat} (hit : IsSetIter s.heap it sa (.ref T) i n ep) (hso : s.heap.get? sa = some so) (hsd : so.data = .set es ep t) (hf : t.fits es.size = true) (hn : es.size = n)
    (hT : s.heap.get? T = some to) (hTd : to.data = .seq arr tn) (ha : arr[i]? = some (.int (place : Int) 0)) {hx : Int} (he : es[place]? = some (hx, x))
    (hQ : ∀ h', IsSetIter h' it sa (.ref T) (i + 1) n ep → Heap.SameBut it s.heap h' → Q (some x) { s with heap := h' }) :
    wpAny (model prog w) A (pyNext (.ref it)) Q E s := by
  obtain ⟨o, ho, hc, hd⟩ := id hit
  unfold pyNext
  refine wpAny_bind (wpAny_attempt (wpAny_callSpecial?_slot (name := Str.ofString "__next__") hit.typeIs slot_si_next
    (wpAny_call_entry slot_si_next hit.typeIs entry_si_next ?_ (args_si_next _))))
  unfold Builtin.«set_iterator.__next__»
  refine wpAny_bind (wpAny_pure ?_)
  refine wpAny_bind (wpAny_fieldsOf ho hd ?_)
  dsimp only
  refine wpAny_bind (wpAny_setEntries_of hso hsd hf ?_)
  rw [if_neg (by rw [hn]; simp)]
  refine wpAny_bind (wpAny_seqItems hT hTd ?_)
  dsimp only
  rw [Int.toNat_natCast, ha]
  dsimp only
  rw [Int.toNat_natCast, Int.toNat_natCast]
  refine wpAny_bind ?_
  unfold setNextDrawn
  refine wpAny_bind (wpAny_setState_of hso hsd hf ?_)
  dsimp only
  rw [if_neg (by simp), he]
  refine wpAny_pure ?_
  try dsimp only
  refine wpAny_bind (wpAny_setField ho hd (by simp) ?_)
  have ho1 := upd_iter (it := it) (k := 1) (v := rawInt ((i : Int) + 1)) ho hd
  refine wpAny_pure ⟨x, rfl, wpAny_pure (hQ _ ⟨_, ho1, ?_, ?_⟩ (Heap.SameBut.update ..))⟩
  · rw [Obj.cls_mapFields]; exact hc
  · rw [Obj.data_mapFields hd]; simp [rawInt]
theorem si_end_tup {T : Addr} {to : Obj} {arr : Array Value} {tn : Nat} (hh : A.handled = none) (hit : IsSetIter s.heap it sa (.ref T) i n ep) (hso : s.heap.get? sa = some so) (hsd : so.data = .set es ep t) (hf : t.fits es.size = true) (hn : es.size = n)
    (hT : s.heap.get? T = some to) (hTd : to.data = .seq arr tn) (ha : arr[i]? = none)
    (hQ : ∀ h', Heap.ExtBut it s.heap h' → Q none { s with heap := h' }) :
    wpAny (model prog w) A (pyNext (.ref it)) Q E s := by
  obtain ⟨o, ho, hc, hd⟩ := id hit
  unfold pyNext
  refine wpAny_bind (wpAny_attempt (wpAny_callSpecial?_slot (name := Str.ofString "__next__") hit.typeIs slot_si_next
    (wpAny_call_entry slot_si_next hit.typeIs entry_si_next ?_ (args_si_next _))))
  unfold Builtin.«set_iterator.__next__»
  refine wpAny_bind (wpAny_pure ?_)
  refine wpAny_bind (wpAny_fieldsOf ho hd ?_)
  dsimp only
  refine wpAny_bind (wpAny_setEntries_of hso hsd hf ?_)
  rw [if_neg (by rw [hn]; simp)]
  refine wpAny_bind (wpAny_seqItems hT hTd ?_)
  dsimp only
  rw [Int.toNat_natCast, ha]
  dsimp only
  refine wpAny_bind (wpAny_setField ho hd (by simp) ?_)
  have ho1 := upd_iter (it := it) (k := 0) (v := rawInt 0) ho hd
  have hd1 := Obj.data_mapFields hd (·.setIfInBounds 0 (rawInt 0))
  refine wpAny_bind (wpAny_setField (s := { s with heap := _ }) ho1 hd1 (by simp) ?_)
  exact stop_tail (s₁ := { s with heap := _ }) hh ((Heap.SameBut.update ..).trans (Heap.SameBut.update ..)).extBut hQ
theorem si_self {first : Value} {Q : Value → Shared → Prop} (hit : IsSetIter s.heap it sa first i n ep) (h : Q (.ref it) s) : wpAny (model prog w) A (pyIter (.ref it)) Q E s := by
  refine wpAny_pyIter_slot hit.typeIs slot_si_iter (wpAny_call_entry slot_si_iter hit.typeIs entry_si_iter ?_ (args_si_iter _))
  show wpAny _ _ (ret (.ref it)) _ _ s
  exact wpAny_pure ⟨_, rfl, "set_iterator", _, hit.typeIs, slot_si_next.lookup, h⟩
end
end
/-! text SetOrd -/
section
theorem off_SetOrd : True := by
  w_top off
  trivial
theorem perm_erase {α : Type} {xs : List α} {i : Nat} {x : α} (h : xs[i]? = some x) : (x :: xs.eraseIdx i).Perm xs := by
  induction xs generalizing i with
  | nil => cases h
  | cons a r ih =>
    cases i with
    | zero => cases h; exact .rfl
    | succ i =>
      rw [List.eraseIdx_cons_succ]
      exact (List.Perm.swap a x _).trans ((ih h).cons a)
theorem pick_go {α : Type} (next : Nat → Nat) : ∀ (fuel k : Nat) (left : List α) (out : Array α), left.length = fuel → (pickOrder.go next fuel k left out).toList.Perm (out.toList ++ left) := by
  intro fuel
  induction fuel with
  | zero =>
    intro k left out h
    have : left = [] := List.length_eq_zero_iff.mp h
    subst this
    unfold pickOrder.go
    simp
  | succ f ih =>
    intro k left out h
    unfold pickOrder.go
    have hlt : next k % left.length < left.length := Nat.mod_lt _ (by k_extra "ar")
    have hg := List.getElem?_eq_getElem hlt
    rw [hg]
    dsimp only
    have := ih (k + 1) (left.eraseIdx (next k % left.length)) (out.push left[next k % left.length]) (by rw [List.length_eraseIdx_of_lt hlt]; k_extra "ar")
    refine this.trans ?_
    rw [Array.toList_push, List.append_assoc]
    exact List.Perm.append_left _ (perm_erase hg)
theorem pick_perm {α : Type} (next : Nat → Nat) (xs : Array α) : (pickOrder next xs).toList.Perm xs.toList := by
  have := pick_go next xs.size 0 xs.toList #[] (by simp)
  unfold pickOrder
  simpa using this
section
variable {prog : Program} {w : World} {s : Shared} {sa : Addr} {so : Obj} {es : Array (Int × Value)} {t : SetTable} {i ep slot : Nat}
theorem wp_byText {A : Around} {E : Value → Shared → Prop} {Q : Bool → Shared → Prop} (h : Q (w.params.followText "set-order") s) : wpAny (model prog w) A setsByText Q E s := by
  unfold setsByText
  exact wpAny_bind (wpAny_askSetting (wpAny_pure h))
theorem next_text (hb : w.params.followText "set-order" = true) (hso : s.heap.get? sa = some so) (hsd : so.data = .set es ep t) (hf : t.fits es.size = true) (A : Around) (E : Value → Shared → Prop) (Q : Option (Value × Nat) → Shared → Prop)
    (h : Q (((pickOrder (w.params.setOrder sa ep) es)[i]?).map fun e => (e.2, slot)) s) : wpAny (model prog w) A (setNext sa slot i ep) Q E s := by
  unfold setNext
  refine wpAny_bind (wpAny_setState_of hso hsd hf ?_)
  dsimp only
  refine wpAny_bind (wp_byText ?_)
  rw [hb, if_pos rfl, if_neg (by simp)]
  refine wpAny_bind ?_
  unfold setWalk
  refine wpAny_bind (wpAny_setState_of hso hsd hf ?_)
  dsimp only
  refine wpAny_bind (wp_byText ?_)
  rw [hb, if_pos rfl]
  refine wpAny_bind (wpAny_askSetting (wpAny_pure ?_))
  exact wpAny_pure h
theorem next_plain (hb : w.params.followText "set-order" = false) (hl : t.led = true) (hp : t.plain = true ∨ es.size ≤ 1) (hso : s.heap.get? sa = some so) (hsd : so.data = .set es ep t) (hf : t.fits es.size = true) (A : Around) (E : Value → Shared → Prop) (Q : Option (Value × Nat) → Shared → Prop)
    (h : Q (match es[SetTable.below t.place slot]?, t.place[SetTable.below t.place slot]? with | some (_, x), some j => some (x, j + 1) | _, _ => none) s) : wpAny (model prog w) A (setNext sa slot i ep) Q E s := by
  unfold setNext
  refine wpAny_bind (wpAny_setState_of hso hsd hf ?_)
  dsimp only
  refine wpAny_bind (wp_byText ?_)
  rw [hb, if_neg Bool.false_ne_true]
  refine wpAny_ite_split (fun hab => absurd hab ?_) (fun _ => ?_)
  · show ¬ ((!t.plain && decide (es.size > 1)) = true)
    rcases hp with hp | hp
    · rw [hp]; simp
    · simp; intro _; k_extra "ar"
  · refine wpAny_bind ?_
    show wpAny _ _ (if (!t.led && !es.isEmpty) = true then unsupported _ else pure ()) _ _ _
    rw [hl, if_neg (by simp)]
    refine wpAny_pure ?_
    exact wpAny_pure h
theorem wp_choose {A : Around} {E : Value → Shared → Prop} {n : Nat} {Q : Nat → Shared → Prop} (hn : n ≠ 0) (h : ∀ r, r < n → Q r { s with drawn := s.drawn.bump .order }) : wpAny (model prog w) A (choose .order n) Q E s :=
  fun _ _ _ => ⟨hn, h _ (Nat.mod_lt _ (Nat.pos_of_ne_zero hn))⟩
theorem wp_drawOrder {α : Type} {A : Around} {E : Value → Shared → Prop} : ∀ (n : Nat) (xs : List α) (s : Shared) (Q : List α → Shared → Prop), xs.length = n → (∀ L dr, L.Perm xs → Q L { s with drawn := dr }) → wpAny (model prog w) A (drawOrder n xs) Q E s := by
  intro n
  induction n with
  | zero =>
    intro xs s Q hl h
    have : xs = [] := List.length_eq_zero_iff.mp hl
    subst this
    unfold drawOrder
    exact wpAny_pure (by have := h [] s.drawn .rfl; exact this)
  | succ n ih =>
    intro xs s Q hl h
    cases xs with
    | nil => cases hl
    | cons a r =>
      unfold drawOrder
      refine wpAny_bind (wp_choose (by simp) fun k hk => ?_)
      have hg : (a :: r)[k]? = some (a :: r)[k] := List.getElem?_eq_getElem hk
      rw [hg]
      dsimp only
      refine wpAny_bind (ih _ _ _ ?_ fun L dr hp => ?_)
      · rw [List.length_eraseIdx_of_lt hk, hl]; rfl
      · exact wpAny_pure (h _ dr ((hp.cons _).trans (perm_erase hg)))
end
noncomputable def slotAt (xs : Array Nat) : Nat → Nat
  | 0 => 0
  | i + 1 => xs.getD i 0 + 1
theorem below_slot {xs : Array Nat} (h : xs.toList.Pairwise (· < ·)) {i : Nat} (hi : i ≤ xs.size) : SetTable.below xs (slotAt xs i) = i := by
  obtain ⟨h1, h2, h3⟩ := below_spec h (slotAt xs i)
  cases i with
  | zero =>
    cases hb : SetTable.below xs (slotAt xs 0) with
    | zero => rfl
    | succ b =>
      have := h2 0 (by k_extra "ar")
      exact absurd this (Nat.not_lt_zero _)
  | succ k =>
    have hk : k < xs.size := by k_extra "ar"
    have a1 : k < SetTable.below xs (slotAt xs (k + 1)) := by
      rcases Nat.lt_or_ge k (SetTable.below xs (slotAt xs (k + 1))) with q | q
      · exact q
      · have := h3 k q hk
        have e : slotAt xs (k + 1) = xs.getD k 0 + 1 := rfl
        k_extra "ar"
    have a2 : SetTable.below xs (slotAt xs (k + 1)) ≤ k + 1 := by
      rcases Nat.lt_or_ge (k + 1) (SetTable.below xs (slotAt xs (k + 1))) with q | q
      · have b1 := h2 (k + 1) q
        have b2 := up_getD h (i := k) (k := k + 1) (by k_extra "ar") (by k_extra "ar")
        have e : slotAt xs (k + 1) = xs.getD k 0 + 1 := rfl
        k_extra "ar"
      · exact q
    k_extra "ar"
abbrev PL (L : List (Int × Value)) (i : Nat) (v : Value) : Prop := ∃ h, L[i]? = some (h, v)
theorem IsSetIter.at {h h' : Heap} {it sa : Addr} {first : Value} {i n ep : Nat} (x : IsSetIter h it sa first i n ep) (e : ∀ o, h.get? it = some o → h'.get? it = some o) : IsSetIter h' it sa first i n ep := let ⟨o, ho, r⟩ := x; ⟨o, e _ ho, r⟩
section
variable {prog : Program} {w : World} {A : Around} {sa : Addr} {so : Obj} {es : Array (Int × Value)} {t : SetTable} {ep : Nat}
theorem Walks.setText (hh : A.handled = none) (hb : w.params.followText "set-order" = true) (I : Addr) (hne : sa ≠ I) (hsd : so.data = .set es ep t) (hf : t.fits es.size = true) :
    Walks prog w A I [I, sa] [I] es.size (PL (pickOrder (w.params.setOrder sa ep) es).toList) (fun i h => IsSetIter h I sa (.int (0 : Nat) 0) i es.size ep ∧ h.get? sa = some so) where
  sub := fun b hb => by simp at hb; simp [hb]
  frame := fun _ _ _ st hk => ⟨st.1.at fun o e => hk I (by simp) o e, hk sa (by simp) _ st.2⟩
  item := fun i s Q E hi st hQ => by
    have hl : (pickOrder (w.params.setOrder sa ep) es).size = es.size := by
      have := (pick_perm (w.params.setOrder sa ep) es).length_eq
      simpa using this
    have hg : (pickOrder (w.params.setOrder sa ep) es)[i]? = some ((pickOrder (w.params.setOrder sa ep) es)[i]'(by k_extra "ar")) := by simp [hl, hi]
    refine si_next_int st.1 st.2 hsd hf rfl (x := ((pickOrder (w.params.setOrder sa ep) es)[i]'(by k_extra "ar")).2) (next := 0) (fun A E Q h => next_text hb st.2 hsd hf A E Q (by rw [hg]; exact h)) fun h' hit' hs' => ?_
    exact hQ _ h' s.toks ⟨((pickOrder (w.params.setOrder sa ep) es)[i]'(by k_extra "ar")).1, by rw [Array.getElem?_toList, hg]⟩ ⟨hit', hs'.extBut _ _ hne st.2⟩ fun b o hb e => hs'.extBut b o (fun h => hb (by simp [h])) e
  done := fun s Q E st hQ => by
    have hl : (pickOrder (w.params.setOrder sa ep) es).size = es.size := by
      have := (pick_perm (w.params.setOrder sa ep) es).length_eq
      simpa using this
    have hg : (pickOrder (w.params.setOrder sa ep) es)[es.size]? = none := by simp [hl]
    exact si_end_int hh st.1 st.2 hsd hf rfl (fun A E Q h => next_text hb st.2 hsd hf A E Q (by rw [hg]; exact h)) fun h' he' => hQ h' s.toks fun b o hb e => he' b o (fun h => hb (by simp [h])) e
  self := fun _ _ _ _ st hQ => si_self st.1 hQ
theorem Walks.setPlain (hh : A.handled = none) (hb : w.params.followText "set-order" = false) (hl : t.led = true) (hp : t.plain = true ∨ es.size ≤ 1) (hup : t.place.toList.Pairwise (· < ·)) (I : Addr) (hne : sa ≠ I) (hsd : so.data = .set es ep t) (hf : t.fits es.size = true) :
    Walks prog w A I [I, sa] [I] es.size (PL es.toList) (fun i h => IsSetIter h I sa (.int (slotAt t.place i : Nat) 0) i es.size ep ∧ h.get? sa = some so) where
  sub := fun b hb => by simp at hb; simp [hb]
  frame := fun _ _ _ st hk => ⟨st.1.at fun o e => hk I (by simp) o e, hk sa (by simp) _ st.2⟩
  item := fun i s Q E hi st hQ => by
    have hps : t.place.size = es.size := by
      simp only [SetTable.fits, Bool.and_eq_true, beq_iff_eq] at hf
      exact hf.1
    have e1 : es[i]? = some es[i] := by simp [hi]
    have e2 : t.place[i]? = some (t.place.getD i 0) := by simp [hps, hi]
    refine si_next_int st.1 st.2 hsd hf rfl (x := es[i].2) (next := slotAt t.place (i + 1)) (fun A E Q h => next_plain hb hl hp st.2 hsd hf A E Q (by rw [below_slot hup (by k_extra "ar"), e1, e2]; exact h)) fun h' hit' hs' => ?_
    exact hQ _ h' s.toks ⟨es[i].1, by rw [Array.getElem?_toList, e1]⟩ ⟨hit', hs'.extBut _ _ hne st.2⟩ fun b o hb e => hs'.extBut b o (fun h => hb (by simp [h])) e
  done := fun s Q E st hQ => by
    have hps : t.place.size = es.size := by
      simp only [SetTable.fits, Bool.and_eq_true, beq_iff_eq] at hf
      exact hf.1
    have e1 : es[es.size]? = none := by simp
    exact si_end_int hh st.1 st.2 hsd hf rfl (fun A E Q h => next_plain hb hl hp st.2 hsd hf A E Q (by rw [below_slot hup (by k_extra "ar"), e1]; exact h)) fun h' he' => hQ h' s.toks fun b o hb e => he' b o (fun h => hb (by simp [h])) e
  self := fun _ _ _ _ st hQ => si_self st.1 hQ
theorem Walks.setDrawn {T : Addr} {to : Obj} {tn : Nat} {ps : List Nat} (hh : A.handled = none) (I : Addr) (hne : sa ≠ I) (hTI : T ≠ I) (hsd : so.data = .set es ep t) (hf : t.fits es.size = true) (hTd : to.data = .seq (ps.map fun (i : Nat) => rawInt i).toArray tn) (hpl : ps.length = es.size) (hpb : ∀ p ∈ ps, p < es.size) :
    Walks prog w A I [I, sa, T] [I] es.size (PL (ps.filterMap fun p => es[p]?)) (fun i h => IsSetIter h I sa (.ref T) i es.size ep ∧ h.get? sa = some so ∧ h.get? T = some to) where
  sub := fun b hb => by simp at hb; simp [hb]
  frame := fun _ _ _ st hk => ⟨st.1.at fun o e => hk I (by simp) o e, hk sa (by simp) _ st.2.1, hk T (by simp) _ st.2.2⟩
  item := fun i s Q E hi st hQ => by
    have hip : i < ps.length := by k_extra "ar"
    have hb := hpb ps[i] (List.getElem_mem hip)
    have e1 : es[ps[i]]? = some es[ps[i]] := by simp [hb]
    have e2 : (ps.map fun (i : Nat) => rawInt i).toArray[i]? = some (.int (ps[i] : Int) 0) := by simp [hip, rawInt]
    refine si_next_tup st.1 st.2.1 hsd hf rfl st.2.2 hTd e2 (x := es[ps[i]].2) (hx := es[ps[i]].1) e1 fun h' hit' hs' => ?_
    refine hQ _ h' s.toks ⟨es[ps[i]].1, ?_⟩ ⟨hit', hs'.extBut _ _ hne st.2.1, hs'.extBut _ _ hTI st.2.2⟩ fun b o hb e => hs'.extBut b o (fun h => hb (by simp [h])) e
    have key : ∀ (l : List Nat), (∀ p ∈ l, p < es.size) → ∀ j (hj : j < l.length), (l.filterMap fun p => es[p]?)[j]? = es[l[j]]? := by
      intro l
      induction l with
      | nil => intro _ j hj; exact absurd hj (Nat.not_lt_zero _)
      | cons a r ih =>
        intro hl j hj
        have hlt := hl a (.head _)
        have ha : es[a]? = some (es[a]'hlt) := by simp [hlt]
        rw [List.filterMap_cons_some ha]
        cases j with
        | zero => simp [hlt]
        | succ j => exact ih (fun p q => hl p (.tail _ q)) j (by simpa using hj)
    rw [key ps hpb i hip, e1]
  done := fun s Q E st hQ => by
    have e2 : (ps.map fun (i : Nat) => rawInt i).toArray[es.size]? = none := by simp [hpl]
    exact si_end_tup hh st.1 st.2.1 hsd hf rfl st.2.2 hTd e2 fun h' he' => hQ h' s.toks fun b o hb e => he' b o (fun h => hb (by simp [h])) e
  self := fun _ _ _ _ st hQ => si_self st.1 hQ
end
end
/-! text SetIt2 -/
section
theorem off_SetIt2 : True := by
  w_top off
  trivial
section
variable {prog : Program} {w : World} {A : Around} {E : Value → Shared → Prop} {s : Shared} {sa : Addr} {so : Obj} {es : Array (Int × Value)} {t : SetTable} {ep n : Nat} {ks : List Int}
/-- what an iterator over the set gives: all its entries in some order -/
theorem set_pyIter {Q : Value → Shared → Prop} (hh : A.handled = none) (hso : s.heap.get? sa = some so) (hex : so.ExactSet) (hsd : so.data = .set es ep t) (g : SetIs (ledOf w) ks n es t) (hn : n ≤ 1000)
    (hQ : ∀ I fp h' dr L St, Walks prog w A I fp [I] es.size (PL L) St → St 0 h' → L.Perm es.toList → (∀ b ∈ fp, b = sa ∨ s.heap.get? b = none) → s.heap.get? I = none → (∀ b o, s.heap.get? b = some o → h'.get? b = some o) → Q (.ref I) { s with heap := h', drawn := dr }) :
    wpAny (model prog w) A (pyIter (.ref sa)) Q E s := by
  have hT : s.TypeIs (.ref sa) "set" := ⟨so, hso, hex.1⟩
  have hf := g.fits
  have hlt : sa < s.heap.objs.size := Heap.lt_size hso
  refine wpAny_pyIter_slot hT PySem.F.slot_set_iter (wpAny_call_entry PySem.F.slot_set_iter hT entry_set_iter ?_ (PySem.F.args_set_iter_1 _))
  unfold Builtin.«frozenset.__iter__»
  refine wpAny_bind ?_
  unfold Builtin.Frozenset.slot0
  refine wpAny_bind (wpAny_pure ?_)
  show wpAny _ _ (pure sa) _ _ s
  refine wpAny_pure ?_
  refine wpAny_bind ?_
  unfold Builtin.Frozenset.sizeOf
  refine wpAny_bind (wpAny_setEntries_of hso hsd hf (wpAny_pure ?_))
  have fresh : ∀ a, s.heap.objs.size ≤ a → s.heap.get? a = none := fun a ha => by
    cases e : s.heap.get? a with
    | none => rfl
    | some o' => exact absurd (Heap.lt_size e) (Nat.not_lt.mpr ha)
  have led := g.good.led
  have hu := g.good.up
  have fin : ∀ (first : Value) (s₁ : Shared), (∀ b o, s.heap.get? b = some o → s₁.heap.get? b = some o) →
      (∀ Q' : Value → Shared → Prop, Q' (.ref s₁.heap.objs.size) { s₁ with heap := s₁.heap.push { cls := .type "set_iterator", data := .fields #[first, .int (0 : Nat) 0, .ref sa, .int (es.size : Nat) 0, .int (ep : Nat) 0] } } →
        wpAny (model prog w) A.in1 (do let e ← setEpoch sa; let v ← newFields "set_iterator" [first, rawInt 0, .ref sa, rawInt es.size, rawInt e]; ret v) (fun fin s' => ∃ r, fin = Fin.done (.ret r) ∧ Q' r s') E s₁) := by
    intro first s₁ hk Q' hq
    refine wpAny_bind (wpAny_setEpoch_of (hk _ _ hso) hsd hf ?_)
    unfold newFields
    refine wpAny_bind (wpAny_newObj_type (wpAny_pure ⟨_, rfl, ?_⟩))
    exact hq
  refine wpAny_bind ?_
  refine wpAny_bind ?_
  refine wpAny_setState_of hso hsd hf ?_
  dsimp only
  refine wpAny_bind (wp_byText (wpAny_pure ?_))
  refine wpAny_ite_split (fun hd => ?_) (fun hd => ?_)
  · refine wpAny_bind (wp_drawOrder _ _ _ _ (by simp) fun ps dr hp => ?_)
    have hpl : ps.length = es.size := by have := hp.length_eq; simpa using this
    have hpb : ∀ p ∈ ps, p < es.size := fun p hm => List.mem_range.mp (hp.mem_iff.mp hm)
    unfold newTuple
    have hfew := g.few
    refine wpAny_bind (wpAny_newObj_type ?_ (by simp only [sizeOk, List.size_toArray, List.length_map, sizeLine_eq]; k_extra "ar"))
    refine fin (.ref s.heap.objs.size) _ (fun b o e => Heap.get?_push_of_some _ e) _ ?_
    dsimp only
    generalize hto : ({ cls := .type "tuple", data := .seq (ps.map fun (i : Nat) => rawInt i).toArray } : Obj) = to
    have hTd : to.data = .seq (ps.map fun (i : Nat) => rawInt i).toArray 0 := by rw [← hto]
    have hsz : (s.heap.push to).objs.size = s.heap.objs.size + 1 := Heap.size_push _ _
    have hT1 : s.heap.get? s.heap.objs.size = none := fresh _ (Nat.le_refl _)
    have hI : s.heap.get? (s.heap.push to).objs.size = none := fresh _ (by rw [hsz]; exact Nat.le_succ _)
    have hne : sa ≠ (s.heap.push to).objs.size := by rw [hsz]; exact Nat.ne_of_lt (Nat.lt_succ_of_lt hlt)
    have hTI : s.heap.objs.size ≠ (s.heap.push to).objs.size := by rw [hsz]; exact Nat.ne_of_lt (Nat.lt_succ_self _)
    refine ⟨"set_iterator", _, ⟨_, Heap.get?_push_size _ rfl, rfl⟩, slot_si_next.lookup, ?_⟩
    refine hQ _ _ _ dr _ _ (Walks.setDrawn (T := s.heap.objs.size) hh _ hne hTI hsd hf hTd hpl hpb) ⟨⟨_, Heap.get?_push_size _ rfl, rfl, rfl⟩, Heap.get?_push_of_some _ (Heap.get?_push_of_some _ hso), Heap.get?_push_of_some _ (Heap.get?_push_size _ (by rw [← hto]; rfl))⟩ ?_ ?_ hI fun b o e => Heap.get?_push_of_some _ (Heap.get?_push_of_some _ e)
    · exact (hp.filterMap _).trans (by rw [filterMap_getElem?_range])
    · intro b hb
      simp only [List.mem_cons, List.not_mem_nil, or_false] at hb
      rcases hb with rfl | rfl | rfl
      · exact .inr hI
      · exact .inl rfl
      · exact .inr hT1
  · refine wpAny_bind (wpAny_pure ?_)
    have hd' : ¬ ((!w.params.followText "set-order" && (!t.plain && decide (es.size > 1))) = true) := hd
    refine fin (rawInt 0) s (fun b o e => e) _ ?_
    have hI : s.heap.get? s.heap.objs.size = none := fresh _ (Nat.le_refl _)
    have hne : sa ≠ s.heap.objs.size := Nat.ne_of_lt hlt
    refine ⟨"set_iterator", _, ⟨_, Heap.get?_push_size _ rfl, rfl⟩, slot_si_next.lookup, ?_⟩
    have hst : ∀ first, IsSetIter (s.heap.push { cls := .type "set_iterator", data := .fields #[first, .int (0 : Nat) 0, .ref sa, .int (es.size : Nat) 0, .int (ep : Nat) 0] }) s.heap.objs.size sa first 0 es.size ep := fun first => ⟨_, Heap.get?_push_size _ rfl, rfl, rfl⟩
    have hfp : ∀ b ∈ [s.heap.objs.size, sa], b = sa ∨ s.heap.get? b = none := fun b hb => by
      rcases List.mem_cons.mp hb with rfl | hb
      · exact .inr hI
      · exact .inl (List.mem_singleton.mp hb)
    cases hb : w.params.followText "set-order" with
    | true =>
      exact hQ _ _ _ s.drawn _ _ (Walks.setText hh hb _ hne hsd hf) ⟨hst _, Heap.get?_push_of_some _ hso⟩ (pick_perm _ es) hfp hI fun b o e => Heap.get?_push_of_some _ e
    | false =>
      rw [hb] at hd'
      have hl : t.led = true := by rw [led]; show (!w.params.followText "set-order") = true; rw [hb]; rfl
      have hp : t.plain = true ∨ es.size ≤ 1 := by
        cases hpl : t.plain with
        | true => exact .inl rfl
        | false =>
          right
          rw [hpl] at hd'
          simpa using hd'
      exact hQ _ _ _ s.drawn _ _ (Walks.setPlain hh hb hl hp hu _ hne hsd hf) ⟨hst _, Heap.get?_push_of_some _ hso⟩ .rfl hfp hI fun b o e => Heap.get?_push_of_some _ e
end
end
/-! text SetSort -/
section
theorem off_SetSort : True := by
  w_top off
  trivial
/-- a set of the ints ks -/
def SetO (w : World) (o : Obj) (ks : List Int) : Prop := ∃ n, n ≤ 900 ∧ n = ks.length ∧ SetGO (ledOf w) ks n o
theorem range_getD (ns : List Int) : ((List.range ns.length).map fun i => ns.getD i 0) = ns := by
  refine List.ext_getElem (by simp) fun i h1 h2 => ?_
  simp [List.getElem?_eq_getElem h2]
theorem pl_ints {L : List (Int × Value)} (h : AllI L) {vs : List Value} (hl : vs.length = L.length) (hv : ∀ (j : Nat) (v : Value), vs[j]? = some v → PL L j v) : IntsAre vs (keysI L) := by
  induction L generalizing vs with
  | nil =>
    have : vs = [] := List.length_eq_zero_iff.mp hl
    subst this
    exact .nil
  | cons e L ih =>
    cases vs with
    | nil => cases hl
    | cons v vs =>
      obtain ⟨hx, e1⟩ := hv 0 v rfl
      obtain ⟨k, tk, e2⟩ := h e (.head _)
      have e3 : e = (hx, v) := Option.some.inj e1
      rw [e2] at e3
      have e4 : Value.int k tk = v := congrArg Prod.snd e3
      rw [← e4, e2]
      exact .cons k tk (ih (fun x q => h x (.tail _ q)) (by simpa using hl) fun j u hu => hv (j + 1) u hu)
section
variable {prog : Program} {w : World} {A : Around} {E : Value → Shared → Prop} {s : Shared} {sa : Addr} {so : Obj} {es : Array (Int × Value)} {t : SetTable} {ep n : Nat} {ks : List Int}
theorem set_hint {Q : Bool → Shared → Prop} (hT : s.TypeIs (.ref sa) "set") (h : Q false s) : wpAny (model prog w) A (Builtin.List.listLengthHint (.ref sa)) Q E s := by
  unfold Builtin.List.listLengthHint
  refine wpAny_bind (wpAny_specialOf hT PySem.F.slot_set_len.lookup ?_)
  generalize hid : ("set.__len__" : String) = id0
  wp_delta
  rw [show splitId id0 = some ("set", "__len__") from by subst hid; decide +kernel]
  subst hid
  refine wpAny_bind (wpAny_isInstance (T := "set") (b := true) hT (by rw [isSubtype_type]; kernel_rfl) ?_)
  refine wpAny_ite_split (fun hab => absurd hab (by decide)) (fun _ => ?_)
  refine wpAny_ite_split (fun _ => ?_) (fun hab => absurd (by decide +kernel) hab)
  refine wpAny_bind (wpAny_typeOf hT ?_)
  exact wpAny_pure h
theorem set_extend {R : Result → Shared → Prop} (hh : A.handled = none) (hso : s.heap.get? sa = some so) (hex : so.ExactSet) (hsd : so.data = .set es ep t) (g : SetIs (ledOf w) ks n es t) (hn : n ≤ 1000) (S : Addr) (hSa : S ≠ sa) (res : Value) (c₀ : Nat) (hS : s.heap.get? S = some { cls := .type "list", data := .seq #[] c₀ })
    (hR : ∀ h' tk dr acc' c' L, (∀ b o, b ≠ S → s.heap.get? b = some o → h'.get? b = some o) → h'.get? S = some { cls := .type "list", dict := none, data := .seq acc' c', slots := #[] } → L.Perm es.toList → ItemsOf (PL L) acc' es.size → R (.ok (.ret res)) { s with heap := h', toks := tk, drawn := dr }) :
    wpAny (model prog w) A.in1 (Builtin.List.listExtendWith (.ref S) (.ref sa) res)
      (fun fin s' => match fin with | .done f => R (.ok f) s' | .again c' => c'.quiet = true ∧ codeAny (model prog w) A c' R s') (fun e s' => R (.error e) s') s := by
  have hT : s.TypeIs (.ref sa) "set" := ⟨so, hso, hex.1⟩
  have hsz : es.size ≤ sizeLine := by have := g.few; rw [sizeLine_eq]; k_extra "ar"
  unfold Builtin.List.listExtendWith
  refine wpAny_bind (wpAny_typeOf (T := "set") hT ?_)
  have h1 : Builtin.List.listSameRef (.ref S) (.ref sa) = false := by simp [Builtin.List.listSameRef, hSa]
  have h2 : (Value.type "set" == Value.type "list") = false := by decide
  have h3 : (Value.type "set" == Value.type "tuple") = false := by decide
  simp only [h1, h2, h3, Bool.or_false, Bool.false_eq_true, if_false]
  refine wpAny_bind (set_pyIter hh hso hex hsd g hn fun I fp h₁ dr L St W st hp hfp hI hk => ?_)
  have hSf : S ∉ fp := fun hm => by
    rcases hfp S hm with q | q
    · exact hSa q
    · rw [hS] at q; cases q
  have hSI : S ≠ I := fun q => by rw [← q, hS] at hI; cases hI
  have key : ∀ (h : Heap) (c₁ tk : Nat), St 0 h → (∀ b o, b ≠ S → s.heap.get? b = some o → h.get? b = some o) →
      h.get? S = some { cls := .type "list", data := .seq #[] c₁ } → codeAny (model prog w) A (.builtin "list.extend.loop" ⟨[.ref S, .ref I, res], []⟩) R { s with heap := h, toks := tk, drawn := dr } := by
    intro h c₁ tk hst hk₁ hS₁
    refine codeAny_extend_loopS W.toS hsz S hSf res es.size 0 _ #[] c₁ rfl (Nat.zero_le _) hst hS₁ (ItemsOf.nil _) fun s' acc' c' hm hS' hacc => ?_
    rw [Moved.eq_with hm]
    refine hR s'.heap s'.toks dr acc' c' L (fun b o hb e => hm.heap b o (fun hmem => ?_) (hk₁ b o hb e)) hS' hp hacc
    rcases List.mem_cons.mp hmem with e' | hmem
    · exact hb e'
    · rw [List.mem_singleton.mp hmem, hI] at e; cases e
  have hS₁ := hk _ _ hS
  have hT₁ : Shared.TypeIs { s with heap := h₁, drawn := dr } (.ref sa) "set" := ⟨so, hk _ _ hso, hex.1⟩
  refine wpAny_bind (wpAny_holding (set_hint hT₁ ?_))
  refine wpAny_ite_split (fun _ => ?_) (fun _ => wpAny_pure ⟨plainId_quiet PySem.F.plain_extend_loop _, key _ c₀ _ st (fun b o _ e => hk b o e) hS₁⟩)
  refine wpAny_bind (wpAny_rule ?_)
  refine wpAny_bind ?_
  show wpAny _ _ (updateSeq S (·.push .none) >>= fun _ => updateSeq S (·.pop)) _ _ _
  refine wpAny_bind (wpAny_updateSeq hS₁ rfl ?_)
  have hS₂ := Heap.get?_update_self (Obj.mapSeq (·.push Value.none)) hS₁ rfl
  refine wpAny_updateSeq (hz := by seq_fits) hS₂ rfl ?_
  have hS₃ := Heap.get?_update_self (Obj.mapSeq (·.pop)) hS₂ rfl
  refine wpAny_pure ⟨plainId_quiet PySem.F.plain_extend_loop _, key _ _ _ ?_ (fun b o hb e => ?_) hS₃⟩
  · refine W.frame 0 _ _ st fun b hb o e => ?_
    have hbS : b ≠ S := fun h => hSf (h ▸ hb)
    exact (Heap.get?_update_other _ _ (Ne.symm hbS)).trans ((Heap.get?_update_other _ _ (Ne.symm hbS)).trans e)
  · exact (Heap.get?_update_other _ _ (Ne.symm hb)).trans ((Heap.get?_update_other _ _ (Ne.symm hb)).trans (hk b o e))
theorem set_collect {R : List Value → Shared → Prop} (hh : A.handled = none) (hso : s.heap.get? sa = some so) (hex : so.ExactSet) (hsd : so.data = .set es ep t) (g : SetIs (ledOf w) ks n es t) (hn : n ≤ 1000)
    (h : ∀ (h' : Heap) (tk : Nat) dr (acc : Array Value) L, s.heap.objs.size < h'.objs.size → (∀ b o, s.heap.get? b = some o → h'.get? b = some o) → L.Perm es.toList → ItemsOf (PL L) acc es.size → R acc.toList { s with heap := h', toks := tk, drawn := dr }) :
    wpAny (model prog w) A (collect (.ref sa)) R E s := by
  have hlt : sa < s.heap.objs.size := Heap.lt_size hso
  unfold collect
  refine wpAny_bind (wpAny_runValue (codeAny_builtin entry_proto_collect' ?_))
  rw [Around.under_plainId PySem.F.plain_proto_collect _]
  show wpAny _ A.in1 (newList [] >>= fun l => again (.builtin "list.__iadd__" ⟨[l, .ref sa], []⟩)) _ _ s
  refine wpAny_bind (wpAny_newObj_type ?_)
  refine wpAny_pure ⟨plainId_quiet PySem.F.plain_list_iadd _, codeAny_builtin entry_list_iadd' ?_⟩
  rw [Around.under_plainId PySem.F.plain_list_iadd _]
  have hS₁ : (s.heap.push { cls := .type "list", data := .seq ([] : List Value).toArray }).get? s.heap.objs.size = some { cls := .type "list", data := .seq #[] } := Heap.get?_push_size _ rfl
  show wpAny _ A.in1 (Builtin.List.listExtendWith (.ref s.heap.objs.size) (.ref sa) (.ref s.heap.objs.size)) _ _ _
  have key := set_extend (prog := prog) (A := A) (s := { s with heap := s.heap.push { cls := .type "list", data := .seq ([] : List Value).toArray } })
    (R := fun (q : Result) (s' : Shared) => ∃ (h' : Heap) (tk : Nat) (dr : Drawn) (acc' : Array Value) (c' : Nat) (L : List (Int × Value)), q = .ok (.ret (.ref s.heap.objs.size)) ∧ s' = { s with heap := h', toks := tk, drawn := dr } ∧
      (∀ b o, s.heap.get? b = some o → h'.get? b = some o) ∧ h'.get? s.heap.objs.size = some { cls := .type "list", dict := none, data := .seq acc' c', slots := #[] } ∧ L.Perm es.toList ∧ ItemsOf (PL L) acc' es.size)
    hh (Heap.get?_push_of_some _ hso) hex hsd g hn s.heap.objs.size (Nat.ne_of_gt hlt) (.ref s.heap.objs.size) 0 hS₁
    (fun h' tk dr acc' c' L hk hS' hp hacc => ⟨h', tk, dr, acc', c', L, rfl, rfl, fun b o e => hk b o (Nat.ne_of_lt (Heap.lt_size e)) (Heap.get?_push_of_some _ e), hS', hp, hacc⟩)
  refine wpAny_mono key (fun fin s' x => ?_) fun e s' x => ?_
  · cases fin with
    | done f =>
      obtain ⟨h', tk, dr, acc', c', L, e, rfl, hk, hS', hp, hacc⟩ := x
      cases e
      show wpAny _ A (load s.heap.objs.size >>= _) _ _ _
      refine wpAny_bind (wpAny_load hS' ?_)
      exact wpAny_pure (h h' tk dr acc' L (Heap.lt_size hS') hk hp hacc)
    | again c₁ =>
      refine ⟨x.1, codeAny_mono x.2 fun q s₂ y => ?_⟩
      obtain ⟨h', tk, dr, acc', c', L, rfl, rfl, hk, hS', hp, hacc⟩ := y
      show wpAny _ A (load s.heap.objs.size >>= _) _ _ _
      refine wpAny_bind (wpAny_load hS' ?_)
      exact wpAny_pure (h h' tk dr acc' L (Heap.lt_size hS') hk hp hacc)
  · obtain ⟨_, _, _, _, _, _, e', _⟩ := x
    cases e'
end
section
variable {prog : Program} {w : World} {A : Around} {E : Value → Shared → Prop} {s : Shared} {h₀ : Heap} {L a l : Addr} {m : Str → Option Value} {news : List (Addr × Obj)} {vs : List Value} {ns : List Int} {n : Nat} {o : Obj} {Q : Value → Shared → Prop}
theorem set_led (F : Fr h₀ L s.heap m) (N : News h₀ L s.heap news) (hm : (l, PySem.W.listOf (List.toArray vs) n) ∈ news) (hi : IntsAre vs ns) (hb : ns.length ≤ 60) (hh : A.handled = none)
    (h : ∀ a o h' tk, Fr h₀ L h' m → News h₀ L h' ((a, o) :: news) → (∀ p ∈ news, p.1 < a) → SetO w o ns → Q (.ref a) { s with heap := h', toks := tk }) : wpAny (model prog w) A (call (.type "set") [.ref l]) Q E s := by
  have hvn := hi.length
  refine set_call (items := List.toArray vs) (ns := ns) hh (PySem.IsL.isList (n := n) (N _ hm).1) (by simpa using hi) (by rw [List.size_toArray]; k_extra "ar") fun h' tk o ho hg hk => ?_
  rw [List.size_toArray, hvn, range_getD] at hg
  obtain ⟨oL, _, _, hL, _⟩ := F.ns
  have hLlt : L < s.heap.objs.size := Heap.lt_size hL
  refine h s.heap.objs.size o h' tk ⟨F.ns.at' fun o' e => hk L o' hLlt e, fun b o' e => hk b o' (Heap.lt_size (F.keep b o' e)) (F.keep b o' e), F.above⟩ (fun p hp => ?_) (fun p hp => Heap.lt_size (N p hp).1) ⟨_, by k_extra "ar", rfl, hg⟩
  rcases List.mem_cons.mp hp with rfl | hp
  · refine ⟨ho, Nat.ne_of_gt hLlt, ?_⟩
    cases hq : h₀.get? s.heap.objs.size with
    | none => rfl
    | some o' => exact absurd (Heap.lt_size (F.keep _ _ hq)) (Nat.lt_irrefl _)
  · exact ⟨hk _ _ (Heap.lt_size (N p hp).1) (N p hp).1, (N p hp).2.1, (N p hp).2.2⟩
theorem sorted_set (F : Fr h₀ L s.heap m) (N : News h₀ L s.heap news) (hm : (a, o) ∈ news) (hs : SetO w o ns) (hb : ns.length ≤ 60) (hh : A.handled = none)
    (h : ∀ D vs ns' c h' tk dr, Fr h₀ L h' m → News h₀ L h' ((D, PySem.W.listOf (List.toArray vs) c) :: news) → (∀ p ∈ news, p.1 < D) → IntsAre vs ns' → ns'.Pairwise (· < ·) → (∀ x, x ∈ ns' → x ∈ ns) → ns'.length ≤ ns.length → Q (.ref D) { s with heap := h', toks := tk, drawn := dr }) :
    wpAny (model prog w) A (call (.builtin "sorted") [.ref a]) Q E s := by
  obtain ⟨n, hn, hnl, es, ep, t, hex, hsd, g⟩ := hs
  have hfew := g.few
  refine Calls.call_function_entry kind_sorted plain_sorted entry_sorted (args_sorted1 _) ?_
  unfold Builtin.«sorted»
  refine wpAny_bind (m := checkCount "sorted" 1 1 _) (wpAny_pure ?_)
  refine wpAny_bind (set_collect (A := A.in1) hh (N _ hm).1 hex hsd g (by k_extra "ar") fun h' tk dr acc Lx hgr hk hp hacc => ?_)
  have hl : acc.toList.length = es.size := by rw [Array.length_toList]; exact hacc.1
  have hLl : Lx.length = es.size := by have := hp.length_eq; rw [this, Array.length_toList]
  have hI : IntsAre acc.toList (keysI Lx) := pl_ints (g.allI.perm hp) (by rw [hl, hLl]) fun j v e => hacc.2 j v (by rw [← Array.getElem?_toList]; exact e)
  refine wpAny_bind (wpAny_newList ?_ (by rw [hl, sizeLine_eq]; k_extra "ar"))
  have hoL : (h'.push (seqObj "list" acc.toList.toArray 0)).get? h'.objs.size = some (seqObj "list" acc.toList.toArray 0) := Heap.get?_push_size _ rfl
  refine wpAny_bind (wpAny_holding (wpAny_call_entry slot_list_sort ⟨_, hoL, rfl⟩ entry_list_sort (list_sort_tree hoL hI (by k_extra "ar") fun out ns' a1 a2 a3 => ⟨_, rfl, ?_⟩) (args_list_sort _)))
  refine wpAny_pure ⟨_, rfl, ?_⟩
  have hk2 : ∀ b o, s.heap.get? b = some o → (sortedHeap (h'.push (seqObj "list" acc.toList.toArray 0)) h'.objs.size acc.toList out).get? b = some o := fun b o e => by
    have e1 := hk b o e
    have hlt := Heap.lt_size e1
    rw [sortedHeap_old (Nat.ne_of_lt hlt) (by rw [Heap.size_push]; exact Nat.lt_succ_of_lt hlt)]
    exact Heap.get?_push_of_some _ e1
  obtain ⟨c, hc⟩ := sortedHeap_at (out := out) hoL
  have hsz : s.heap.objs.size ≤ h'.objs.size := Nat.le_of_lt hgr
  have hk3 : (keysI Lx).Perm (keysI es.toList) := hp.map _
  have hnd : ns'.Nodup := (a2.trans hk3).nodup_iff.mpr g.nodup
  refine h h'.objs.size out.toList ns' c _ _ dr (F.kept hk2) (News.kept_cons F N hk2 hsz hc) (fun p hp => Heap.lt_size (hk _ _ (N p hp).1)) a1 ?_ (fun x hx => (g.mem x).mp ((a2.trans hk3).mem_iff.mp hx)) ?_
  · exact List.Pairwise.imp₂ (fun a b h1 h2 => by k_extra "ar") a3 hnd
  · have := (a2.trans hk3).length_eq
    rw [this, List.length_map, Array.length_toList]
    k_extra "ar"
end
end
/-! text Seg0 -/
section
theorem off_Seg0 : True := by
  w_top off
  trivial
inductive At0 (w : World) (h₀ : Heap) (L : Addr) (h : Heap) : Prop
  | mk : ∀ m oD oP sc vs xs, (Fr h₀ L h m) → (News h₀ L h [(L + 2, oD), (L + 1, oP)]) → (oD.data = .cell none) → (oP.data = .cell none) → (m (Str.ofString "script") = some (.ref sc)) → (h₀.IsList sc (List.toArray vs)) → (IntsAre vs xs) → (xs.length ≤ 63) → At0 w h₀ L h
structure Grow (i : Nat) (cs : List Cmd) : Prop where
  all : AllCom cs
  len : cs.length = i
  short : ∀ c ∈ cs, c.1.length ≤ 62
  heads : ∀ c ∈ cs, c.2.length ≤ 2
  tags : ∀ (j : Nat) (c : Cmd), cs[j]? = Option.some c → ∃ r : Bs, c.1 = [116, (48 + (j : Int)).toNat.toUInt8, 32] ++ r
theorem Grow.zero : Grow 0 [] where
  all := fun c h => by cases h
  len := rfl
  short := fun c h => by cases h
  heads := fun c h => by cases h
  tags := fun j c h => by cases h
theorem Grow.made {i : Nat} {cs : List Cmd} (h : Grow i cs) (h1 : 1 ≤ i) (h5 : i ≤ 5) : Made cs := ⟨h.all, by rw [h.len]; exact h1, by rw [h.len]; exact h5, h.short, h.heads, h.tags⟩
theorem Grow.snoc {i : Nat} {cs : List Cmd} {o : Bs} {hs : List Nat} (h : Grow i cs) (hC : CmdOf (i : Int) o hs) (ho : o.length ≤ 62) (hh : hs.length ≤ 2) : Grow (i + 1) (cs ++ [(o, hs)]) where
  all := fun c hc => by
    rcases List.mem_append.mp hc with q | q
    · exact h.all c q
    · rw [List.mem_singleton.mp q]; exact hC.1
  len := by rw [List.length_append, h.len]; rfl
  short := fun c hc => by
    rcases List.mem_append.mp hc with q | q
    · exact h.short c q
    · rw [List.mem_singleton.mp q]; exact ho
  heads := fun c hc => by
    rcases List.mem_append.mp hc with q | q
    · exact h.heads c q
    · rw [List.mem_singleton.mp q]; exact hh
  tags := fun j c hc => by
    by_cases hj : j < cs.length
    · rw [List.getElem?_append_left hj] at hc
      exact h.tags j c hc
    · rw [List.getElem?_append_right (by k_extra "ar")] at hc
      have hj0 : j - cs.length = 0 := by
        cases q : j - cs.length with
        | zero => rfl
        | succ k => rw [q] at hc; cases hc
      rw [hj0] at hc
      cases hc
      have e : j = i := by have := h.len; k_extra "ar"
      rw [e]
      exact hC.2
theorem Grow.octs {i : Nat} {cs : List Cmd} (h : Grow i cs) : (octs cs).length ≤ 62 * i := by
  have h1 := flat_len (k := 62) (cs.map (·.1)) (fun b hb => by
    obtain ⟨c, hc, rfl⟩ := List.mem_map.mp hb
    exact h.short c hc)
  rw [List.length_map, h.len] at h1
  exact h1
theorem obj_name {o : Obj} {v : Value} (_ : CellV o v) : ∃ x, x = o := ⟨_, rfl⟩
theorem getD_shift (hs : List Nat) (n : Nat) {j : Nat} (h : j < hs.length) : ((hs.map (· + n)).map fun n : Nat => (n : Int)).getD j 0 = (n : Int) + (hs.map fun n : Nat => (n : Int)).getD j 0 := by
  rw [List.getD_eq_getElem?_getD, List.getD_eq_getElem?_getD, List.getElem?_map, List.getElem?_map, List.getElem?_map, List.getElem?_eq_getElem h]
  simp only [Option.map_some, Option.getD_some]
  k_extra "ar"
theorem octs_snoc (cs : List Cmd) (o : Bs) (hs : List Nat) : octs (cs ++ [(o, hs)]) = octs cs ++ o := by rw [octs_append]; simp [octs]
theorem led_head2 {h₀ h : Heap} {L a b : Addr} {o o' : Obj} {r : List (Addr × Obj)} (_ : News h₀ L h ((a, o) :: (b, o') :: r)) : ∃ x y, x = a ∧ y = b := ⟨_, _, rfl, rfl⟩
inductive Loop0J (L : Addr) (oP : Obj) (pen ca cl : Addr) (co : Obj) (i : Nat) (m : Str → Option Value) (nx : List (Addr × Obj)) : Prop
  | mk : ∀ cs oD po pl cv pv nc np, (nx = [(L + 2, oD), (L + 1, oP), (pen, po), (ca, co), (cl, PySem.W.listOf (List.toArray cv) nc), (pl, PySem.W.listOf (List.toArray pv) np)]) → ((NeF (L + 2) pl ∧ NeF (L + 1) pl ∧ NeF pen pl ∧ NeF ca pl ∧ NeF cl pl)) → ((∃ t, CellV oD (.bytes (List.toArray (octs cs)) t))) → (PenO ca (1 + 9 * (i : Int)) po) → (BytesIn cv (cs.map (·.1))) → (IntsAre pv ((Placed cs).map fun n : Nat => (n : Int))) → (Grow i cs) → (m (Str.ofString "commands") = some (.ref cl)) → (m (Str.ofString "places") = some (.ref pl)) → Loop0J L oP pen ca cl co i m nx
theorem kw_Seg0_1 : True := by
  k_with "own k_room" =>
    (simp only [depth_mark, depth_under_make, depth_under_kw, depth_in1, depth_deeper, ktrTop]; k_extra "ar")
  k_with "own exec For Name Call cons nil" =>
    (refine Stop.out ?_)
  k_with "own call ref" =>
    (
    (with_reducible show wpAny _ _ (call (Value.ref 138) _) _ _ _);
    (k_dflt (refine draw_Kl (by k_asm) (by k_asm) (by k_asm) (by k_asm) (by k_asm) rfl rfl rfl rfl (by k_extra "room") (by k_extra "room") (by k_updF) (by assumption) (by k_mem) (by assumption) (by k_extra "ar") (by k_extra "ar") (by k_extra "ar") ?_)); (intro _ _ _ _ _ _ _ hpO hnF hnN); (try dsimp only at hnN); (try dsimp only))
  k_with "own call ref" =>
    ((with_reducible show wpAny _ _ (call (Value.ref 131) _) _ _ _); (refine Stop.out ?_))
  k_with "own call ref" =>
    ((with_reducible show wpAny _ _ (call (Value.ref 157) _) _ _ _); (refine Stop.out ?_))
  k_with "own binaryOp Add bytes bytes" =>
    ((with_reducible show wpAny _ _ (binaryOp _ (Value.bytes (List.toArray _) _) (Value.bytes (List.toArray _) _)) _ _ _); (k_dflt (refine add_B (by first | k_extra "ar" | (simp only [List.length_cons, List.length_nil, List.length_append]; k_extra "ar")) ?_)); intro _ _)
  trivial
theorem seg0 (h5 : SegAt 5 At5) : SegAt 0 At0 := by
  rintro w dp un gd L fa cd outer A₀ base h₀ mean mg mb Q s G ⟨m, oD, oP, sc, vs, xs, F, N, hD, hP, e1, hsl, hsi, hsx⟩
  have H5 := fun s' => h5 w dp un gd L fa cd outer A₀ base h₀ mean mg mb Q s'
  rw [known e1] at F
  have G' := G
  obtain ⟨B, X, T, hd, hu, -⟩ := G'
  have hcc : NeF (L + 2) (L + 1) := fun e => absurd (Nat.add_left_cancel (e : (L : Nat) + 2 = L + 1)) (by decide)
  have KX := X
  revert KX
  unfold LawGoal
  conv in (occs := *) lawScope => whnf
  conv in (occs := *) (List.drop _ _) => whnf
  k_fill
  intro KX
  clear h5
  show wpAny _ _ _ _ _ _
  k_steps
  show wpAny _ _ _ _ _ _
  k_dflt (refine pen_K (by k_asm) (by k_asm) (by k_asm) (by k_asm) (by k_asm) rfl rfl rfl rfl (by k_extra "room") (by k_extra "room") (by assumption) (by assumption) (by k_extra "ar") ?_)
  intro pen ca ws ys h1 tk1 po nw F1 N1 hpo hwI hwL hn0 hn1 hn2
  have hco : CellsO (PySem.W.listOf (List.toArray ws) nw) := ⟨_, _, _, rfl, hwI, hwL⟩
  simp only [List.forall_mem_cons, List.not_mem_nil, false_implies, implies_true, and_true] at hn1 hn2
  obtain ⟨_, _⟩ := hn1
  obtain ⟨_, _⟩ := hn2
  k_steps
  show wpAny _ _ _ _ _ _
  refine For_invV h₀ rfl rfl ?_ (fun _ => rfl) PassesOwn.never
  refine stop_post ?_
  k_steps
  rename Fr _ _ _ _ => F₁
  rename News _ _ _ _ => N₁
  rename IsRange _ _ _ _ _ _ _ _ => hR
  rename PenO _ _ _ => hP₁
  rename _ < (5 : Int) => hr2
  rename 0 ≤ _ => hr0
  obtain ⟨pl, cl, rfl, rfl⟩ := led_head2 N₁
  rename _ = Data.cell (some (Value.ref pen)) => hPn
  rename _ = Data.cell (some (Value.bytes _ _)) => hDn
  obtain ⟨oPn, rfl⟩ := obj_name hPn
  obtain ⟨oDn, rfl⟩ := obj_name hDn
  refine Stop.out ?_
  show wpAny _ _ _ _ _ _
  have hnn : NeF (L + 2) pl ∧ NeF (L + 1) pl ∧ NeF pen pl ∧ NeF ca pl ∧ NeF cl pl ∧ NeF (L + 2) cl ∧ NeF (L + 1) cl ∧ NeF pen cl ∧ NeF ca cl := by k_extra "allne"
  refine hide fun X9 hX9 => ?_
  obtain ⟨_, _, _, _, _, _, _, _, _⟩ := hnn
  refine hX9 ?_
  clear hX9 X9
  refine iter_rangeG (Loop0J L oPn pen ca cl (PySem.W.listOf (List.toArray ws) nw)) rfl hR (small_one (by k_extra "ar") (by k_extra "ar") (by k_extra "ar") (by k_extra "ar")) (rangeSize_nat _ _) F₁ (cb_drop (news := [(L + 2, oDn), (L + 1, oPn), (pen, _), (ca, _), (cl, PySem.W.listOf (List.toArray []) 0), (pl, PySem.W.listOf (List.toArray []) 0)]) N₁ (by kqd_sub)) ?_ ?_ ?_
  · refine ⟨[], oDn, _, pl, [], [], 0, 0, rfl, ⟨by assumption, by assumption, by assumption, by assumption, by assumption⟩, ⟨_, hDn⟩, hP₁.mono (by k_extra "ar"), .nil, .nil, Grow.zero, rfl, rfl⟩
  · clear F₁ N₁ hP₁
    intro i tt m₁ nx hh tk own hi ho hJ9 F₂ N₂
    refine hide fun X9 hX9 => ?_
    obtain ⟨cs, oD, po, pl, cv, pv, nc, np, rfl, hpn, ⟨t9, hD⟩, hpo, hcv, hpv, hg, y1, y2⟩ := hJ9
    refine hX9 ?_
    clear hX9 X9
    refine hide fun X9 hX9 => ?_
    obtain ⟨_, _, _, _, _⟩ := hpn
    refine hX9 ?_
    clear hX9 X9
    rw [known y1, known y2] at F₂
    simp only [List.cons_append, List.nil_append] at N₂
    simp only [List.map_cons, List.map_nil] at ho
    have hi5 : i < 5 := by k_extra "ar"
    have hoc := hg.octs
    have hcvl := hcv.length
    rw [List.length_map, hg.len] at hcvl
    have hpl := placed_len hg.heads
    rw [hg.len] at hpl
    have hpvl := hpv.length
    rw [List.length_map] at hpvl
    have e0 : (0 : Int) + (i : Int) = (i : Int) := by k_extra "ar"
    rw [e0] at F₂
    k_steps
    show wpAny _ _ _ _ _ _
    k_dflt (refine cmd_K (by k_asm) (by k_asm) (by k_asm) (by k_asm) (by k_asm) rfl rfl rfl rfl (by k_extra "room") (by k_extra "room") (by k_updF) hpo (by k_mem) hco hn0 (by k_extra "ar") (by k_extra "ar") (by k_extra "ar") ?_)
    intro a hl t hv nh o hs po' h3 tk3 hpo' F3 N3 hhv hC ho62 hh2 hn3 hn4 hn5
    try dsimp only at N3
    simp only [List.forall_mem_cons, List.not_mem_nil, false_implies, implies_true, and_true] at hn4 hn5
    repeat (obtain ⟨_, hn4⟩ := hn4)
    repeat (obtain ⟨_, hn5⟩ := hn5)
    have hhl := hhv.length
    rw [List.length_map] at hhl
    clear F₂ N₂
    k_steps
    show LCg.CompRest _ _ _ _ _ _ _ _ _ _ _ _ _ _ _ _ _ _ _
    refine rest_map (fun j y => ∃ tz, y = Value.int (((octs cs).length : Int) + ((hs.map fun n : Nat => (n : Int)).getD j 0)) tz) ?_ ?_
    · intro j v ys I oI C oC D m₂ h tk E' hj hv' hCo hx F N off ne
      rw [List.getElem?_toArray] at hv'
      obtain ⟨tz, rfl⟩ := IntsAre.int_at hhv j v hv'
      k_steps
      exact LCg.CompEnd.intro (by assumption) (by assumption) _ (fun p hp => hp) off (Or.inr ⟨_, by k_mem, rfl, _, rfl⟩) ⟨rfl, _, rfl⟩
    · intro ys3 hl3 hG3
      dsimp only [LCg.FinE]
      intro E1 h4 tk4 Fx Nx off1x
      show wpAny _ _ _ _ _ _
      have hl4 : ys3.length ≤ 2 := by rw [hl3, List.size_toArray]; k_extra "ar"
      k_dflt (refine cat_led Fx Nx (by k_mem) (by k_mem) (by k_extra "ar") ?_)
      intro D9 h9 F9 N9 hl9
      k_lt hl9
      have hn9 : NeF (L + 2) D9 ∧ NeF (L + 1) D9 ∧ NeF pen D9 ∧ NeF ca D9 ∧ NeF cl D9 := by k_extra "allne"
      refine hide fun X9 hX9 => ?_
      obtain ⟨_, _, _, _, _⟩ := hn9
      refine hX9 ?_
      clear hX9 X9
      have hA9 : AllLt D9 own := by
        repeat (first | exact hl9 | (replace hl9 := hl9.2))
      clear hl9 off1x
      replace N9 := cb_drop (news := (D9, PySem.W.listOf (List.toArray (pv ++ ys3)) 0) :: (L + 2, oD) :: (L + 1, oPn) :: (pen, po') :: (ca, PySem.W.listOf (List.toArray ws) nw) :: (cl, PySem.W.listOf (List.toArray cv) nc) :: own) N9 (by k_extra "sub9")
      have hy3 : ys3.length = hs.length := by rw [hl3, List.size_toArray]; k_extra "ar"
      have hpv' : IntsAre (pv ++ ys3) ((Placed (cs ++ [(o, hs)])).map fun n : Nat => (n : Int)) := by
        rw [placed_snoc, List.map_append]
        refine IntsAre.append hpv (ints_of (by simp [hy3]) fun j y e => ?_)
        have hj : j < hs.length := by
          have := List.getElem?_eq_some_iff.mp e
          obtain ⟨q, _⟩ := this
          k_extra "ar"
        obtain ⟨tz, rfl⟩ := hG3 j y e
        exact ⟨tz, by rw [getD_shift hs _ hj]⟩
      k_steps
      rename Fr _ _ _ _ => Fe
      rename News _ _ _ _ => Ne
      rename _ = Data.cell (some (Value.bytes (List.toArray (octs cs ++ o)) _)) => hDe
      obtain ⟨oDe, rfl⟩ := obj_name hDe
      refine InvEndG.intro (nx := [(L + 2, oDe), (L + 1, oPn), (pen, po'), (ca, PySem.W.listOf (List.toArray ws) nw), (cl, PySem.W.listOf (List.toArray (cv ++ [.bytes (List.toArray o) t])) (nc + 1)), (D9, PySem.W.listOf (List.toArray (pv ++ ys3)) 0)]) Fe Ne
        ⟨cs ++ [(o, hs)], oDe, po', D9, _, _, _, _, rfl, ⟨by assumption, by assumption, by assumption, by assumption, by assumption⟩, ⟨_, by rw [octs_snoc]; exact hDe⟩, hpo'.mono (by k_extra "ar"), ?_, hpv', hg.snoc hC ho62 hh2, rfl, rfl⟩ ?_ (by kqd_sub) ?_
      · rw [List.map_append]
        exact hcv.append .one
      · have hto : ∀ p ∈ own, @LT.lt Nat _ p.1 D9 := allLt_mem hA9
        k_extra "off9"
      · k_extra "leaf"
  · intro m₁ nx hh tk hJ9 F₂ N₂
    refine hide fun X9 hX9 => ?_
    obtain ⟨cs, oD, po, pl, cv, pv, nc, np, rfl, hpn, hD, hpo, hcv, hpv, hg, y1, y2⟩ := hJ9
    refine hX9 ?_
    clear hX9 X9
    refine hide fun X9 hX9 => ?_
    obtain ⟨_, _, _, _, _⟩ := hpn
    refine hX9 ?_
    clear hX9 X9
    rw [known y1, known y2] at F₂
    show wpAny _ _ _ _ _ _
    exact H5 _ (G.to _ _) ⟨_, cs, oD, oPn, po, _, pen, ca, cl, pl, cv, pv, nc, np, ⟨hD, hPn, hpo.mono (by k_extra "ar"), hco, hcv, hpv, hg.made (by k_extra "ar") (by k_extra "ar"), rfl, rfl⟩, F₂, N₂, by k_extra "allne"⟩
end
/-! text Seg14 -/
section
theorem off_Seg14 : True := by
  w_top off
  trivial
theorem kw_Seg14_0 : True := by
  k_with_none
  k_with "pick" =>
    (with_reducible (first
    | assumption | exact And.left (by assumption) | exact And.left (And.right (by assumption)) | exact And.left (And.right (And.right (by assumption)))
    | exact And.left (And.right (And.right (And.right (by assumption)))) | exact And.left (And.right (And.right (And.right (And.right (by assumption))))) | exact And.left (And.right (And.right (And.right (And.right (And.right (by assumption)))))) | exact And.right (by assumption)))
  k_with "ne1" =>
    first
    | (with_reducible assumption) | exact _root_.Ne.symm (by with_reducible assumption) | exact Nat.ne_of_lt (by k_extra "pick") | exact Nat.ne_of_gt (by k_extra "pick")
  k_with "ar" =>
    first
    | (with_reducible assumption)
    | exact room_up (by with_reducible assumption) rfl
    | ((repeat (first | (rename _ ≠ _ => hz9; clear hz9) | (rename (_ ≠ _ ∧ _) => hz9; clear hz9))); omega)
    | omega
  k_with "own k_ne" =>
    (refine neN ?_; (try dsimp only); first | k_extra "ne1" | omega)
  k_with "room" =>
    ((try dsimp only [ktrTop]); (first | k_extra "ar" | (simp only [ktrTop, Around.in1, Around.deeper, Around.mark]; k_extra "ar")))
  k_with "own call ref" =>
    (
    (with_reducible show wpAny _ _ (call (Value.ref 49) _) _ _ _);
    (refine isfig_K (by k_asm) (by k_asm) (by k_asm) (by k_asm) (by k_asm) rfl rfl rfl rfl (by k_extra "room") (by k_extra "room") ?_); intro _ _ _ _; (try dsimp only))
  k_with "own call ref" =>
    (
    (with_reducible show wpAny _ _ (call (Value.ref 56) _) _ _ _);
    (refine numfig_K (by k_asm) (by k_asm) (by k_asm) (by k_asm) (by k_asm) rfl rfl rfl rfl (by k_extra "room") (by k_extra "room") ?_); intro _ _ _ _ _; (try dsimp only))
  k_with "own exec While" =>
    (refine Stop.out ?_)
  k_with "own exec While BoolOp" =>
    (refine Stop.out ?_)
  k_with "own subscriptTail" =>
    (k_here; (with_reducible show wpAny _ _ (subscriptTail _ _ (Value.bytes (List.toArray _) _) (Value.int _ _)) _ _ _); (refine KBy.item_N (by k_extra "ar") (by k_extra "ar") (by k_extra "ar") ?_))
  k_with "own subscriptTail" =>
    (k_here; (with_reducible show wpAny _ _ (subscriptTail _ (Expr.Slice (some _) (some _) none _) (Value.bytes (List.toArray _) _) (Value.ref _)) _ _ _); (with_reducible rename Fr _ _ _ _ => F'); (with_reducible rename News _ _ _ _ => N'); (refine slice_both (s := ⟨_, _, _, _, _⟩) F' N' (by k_extra "ar") (by k_extra "ar") (by k_extra "ar") ?_); intro _ _ _ _ _)
  k_with "own subscriptTail" =>
    (k_here; (with_reducible show wpAny _ _ (subscriptTail _ (Expr.Slice none (some _) none _) (Value.bytes (List.toArray _) _) (Value.ref _)) _ _ _); (with_reducible rename Fr _ _ _ _ => F'); (with_reducible rename News _ _ _ _ => N'); (refine slice_to (s := ⟨_, _, _, _, _⟩) F' N' (by k_extra "ar") (by k_extra "ar") ?_); intro _ _ _ _ _)
  k_with "own subscriptTail" =>
    (k_here; (with_reducible show wpAny _ _ (subscriptTail _ (Expr.Slice (some _) none none _) (Value.bytes (List.toArray _) _) (Value.ref _)) _ _ _); (with_reducible rename Fr _ _ _ _ => F'); (with_reducible rename News _ _ _ _ => N'); (refine slice_from (s := ⟨_, _, _, _, _⟩) F' N' (by k_extra "ar") (by k_extra "ar") ?_); intro _ _ _ _ _)
  k_with "own call builtin:len" =>
    (k_here; (with_reducible show wpAny _ _ (call (Value.builtin "len") [Value.bytes (List.toArray _) _]) _ _ _); (refine len_B (by first | k_extra "ar" | (simp only [List.length_take, List.length_drop, cut]; k_extra "ar")) ?_); intro _ _)
  k_with "own getMethod bytes" =>
    (refine method_find ?_)
  k_with "own call builtin:bytes.find" =>
    ((refine find3 rfl ?_); intro _ _; simp only [findV, *])
  k_with "own call ref" =>
    (
    (with_reducible show wpAny _ _ (call (Value.ref 63) _) _ _ _);
    (refine lithead_Kn (by k_asm) (by k_asm) (by k_asm) (by k_asm) (by k_asm) rfl rfl rfl rfl (by k_extra "room") (by k_extra "room") (by assumption) (by k_extra "ar") (by k_extra "ar") (by k_extra "ar") ?_); intro _ _ _ _; (try dsimp only))
  k_with "own call ref" =>
    (
    (with_reducible show wpAny _ _ (call (Value.ref 63) _) _ _ _);
    (refine lithead_Ks (by k_asm) (by k_asm) (by k_asm) (by k_asm) (by k_asm) rfl rfl rfl rfl (by k_extra "room") (by k_extra "room") (by assumption) (by k_extra "ar") (by k_extra "ar") (by k_extra "ar") ?_); intro _ _ _ _ _ _; (try dsimp only))
  k_with "own binaryOp Add bytes bytes" =>
    (k_here; (with_reducible show wpAny _ _ (binaryOp Operator.Add (Value.bytes (List.toArray _) _) (Value.bytes (List.toArray _) _)) _ _ _); (refine add_B (by k_extra "ar") ?_); intro _ _)
  k_with "own k_room" =>
    (k_extra "room")
  k_with "nes" =>
    (simp only [List.forall_mem_cons, List.not_mem_nil, false_implies, implies_true, and_true] at *)
  k_with "own call ref" =>
    (
    (with_reducible show wpAny _ _ (call (Value.ref 70) _) _ _ _);
    (refine cmdend_Kn (by k_asm) (by k_asm) (by k_asm) (by k_asm) (by k_asm) rfl rfl rfl rfl (by k_extra "room") (by k_extra "room") (by assumption) (by k_extra "ar") ?_); (intro _ _ _ _ _ _ hne1); (simp only [List.forall_mem_cons, List.not_mem_nil, false_implies, implies_true, and_true] at hne1); (try dsimp only))
  k_with "own call ref" =>
    (
    (with_reducible show wpAny _ _ (call (Value.ref 70) _) _ _ _);
    (refine cmdend_Ks (by k_asm) (by k_asm) (by k_asm) (by k_asm) (by k_asm) rfl rfl rfl rfl (by k_extra "room") (by k_extra "room") (by assumption) (by k_extra "ar") ?_); (intro _ _ _ _ _ _ _ _ hne1 hne2); (simp only [List.forall_mem_cons, List.not_mem_nil, false_implies, implies_true, and_true] at hne1 hne2); (try dsimp only))
  k_with "own call builtin:bytes.find" =>
    ((refine find2 ?_); intro _ _; simp only [findV, *])
  k_with "small" =>
    (first | k_extra "ar" | (simp only [List.length_append, List.length_cons, List.length_nil, List.length_map]; k_extra "ar"))
  k_with "own call builtin:len" =>
    (k_here; (with_reducible show wpAny _ _ (call (Value.builtin "len") [Value.ref _]) _ _ _); (k_dflt (refine len_led (by k_asm) (by k_mem) (by k_extra "small") ?_)); intro _ _; (try simp only [List.length_append, List.length_cons, List.length_nil, List.length_map]))
  k_with "own call builtin:list.append" =>
    (k_here; (with_reducible show wpAny _ _ (call (Value.builtin "list.append") [Value.ref _, _]) _ _ _); (k_dflt (refine append_led (by k_asm) (by k_asm) (by k_upd) (by k_extra "small") ?_)); intro _ _ hnN; (try dsimp only at hnN))
  k_with "own call ref" =>
    (
    (with_reducible show wpAny _ _ (call (Value.ref 119) _) _ _ _);
    (k_dflt (refine next_Kn (by k_asm) (by k_asm) (by k_asm) (by k_asm) (by k_asm) rfl rfl rfl rfl (by k_extra "room") (by k_extra "room") (by k_mem) (by k_updF) (by assumption) (by assumption) (by k_extra "ar") ?_)); (intro _ _ _ _ _ _ _ hnN); (try dsimp only at hnN); (try dsimp only))
  k_with "own call ref" =>
    (
    (with_reducible show wpAny _ _ (call (Value.ref 119) _) _ _ _);
    (k_dflt (refine next_Ks (by k_asm) (by k_asm) (by k_asm) (by k_asm) (by k_asm) rfl rfl rfl rfl (by k_extra "room") (by k_extra "room") (by k_mem) (by k_updF) (by assumption) (by assumption) (by k_extra "ar") ?_)); (intro _ _ _ _ _ _ _ _ _ _ hnN hne1); (try dsimp only at hnN); (simp only [List.forall_mem_cons, List.not_mem_nil, false_implies, implies_true, and_true] at hne1); (try dsimp only))
  k_with "own exec While Compare cons nil" =>
    (refine Stop.out ?_)
  k_with "own eval ListComp" =>
    (k_here; lcg_look; k_dflt (refine LCg.ListComp_U (F₀ := by k_asm) (by with_unfolding_all rfl) (by decide) (by rfl) (by decide) (by rfl) ?_))
  k_with "own exec Assign cons ListComp" =>
    (k_here; lcg_look; k_dflt (refine LCg.Assign_ListComp_U (F₀ := by k_asm) (by rfl) (by with_unfolding_all rfl) (by with_unfolding_all rfl) (by decide) (by rfl) (by decide) (by rfl) (by rfl) (by rfl) ?_))
  k_with "own eval ListComp" =>
    (k_here; lcf_look; k_dflt (refine LCg.ListComp_U (F₀ := by k_asm) (by with_unfolding_all rfl) (by decide) (by rfl) (by decide) (by rfl) ?_))
  k_with "own exec Assign cons ListComp" =>
    (k_here; lcf_look; k_dflt (refine LCg.Assign_ListComp_U (F₀ := by k_asm) (by rfl) (by with_unfolding_all rfl) (by with_unfolding_all rfl) (by decide) (by rfl) (by decide) (by rfl) (by rfl) (by rfl) ?_))
  k_with "own eval ListComp" =>
    (k_here; lct_look; k_dflt (refine LCt.ListComp_T (F₀ := by k_asm) (by with_unfolding_all rfl) (by decide) (by rfl) (by decide) (by rfl) ?_))
  k_with "own exec Assign cons ListComp" =>
    (k_here; lct_look; k_dflt (refine LCt.Assign_ListComp_T (F₀ := by k_asm) (by rfl) (by with_unfolding_all rfl) (by with_unfolding_all rfl) (by decide) (by rfl) (by decide) (by rfl) (by rfl) (by rfl) ?_))
  k_with "own CompSrc" =>
    (k_here; k_dflt (first
    | (refine LCg.CompSrc.ledger (by rfl) (by k_asm) (by k_asm) (by k_mem) (by rw [List.size_toArray, PySem.sizeLine_eq]; (first | omega | (simp only [List.length_append, List.length_cons, List.length_nil, List.length_map]; omega))) ?_; intro g'; refine Stop.out ?_)
    | (refine LCg.CompSrc.base (by rfl) (by k_asm) (by k_asm) (by assumption) (by rw [List.size_toArray, PySem.sizeLine_eq]; (first | omega | (simp only [List.length_append, List.length_cons, List.length_nil, List.length_map]; omega))) ?_; intro g'; refine Stop.out ?_)
    | (refine LCg.CompSrc.range (by rfl) (by k_asm) (by k_asm) (by assumption) (small_one (by omega) (by omega) (by omega) (by omega)) (rangeSize_nat _ _) (by rw [PySem.sizeLine_eq]; omega) ?_; intro g'; refine Stop.out ?_)))
  k_with "own CompSrcT" =>
    (k_here; k_dflt (first
    | (refine LCt.CompSrcT.ledger (by rfl) (by k_asm) (by k_asm) (by k_mem) (by rw [List.size_toArray, PySem.sizeLine_eq]; (first | omega | (simp only [List.length_append, List.length_cons, List.length_nil, List.length_map]; omega))) ?_; intro g'; refine Stop.out ?_)
    | (refine LCt.CompSrcT.base (by rfl) (by k_asm) (by k_asm) (by assumption) (by rw [List.size_toArray, PySem.sizeLine_eq]; (first | omega | (simp only [List.length_append, List.length_cons, List.length_nil, List.length_map]; omega))) ?_; intro g'; refine Stop.out ?_)
    | (refine LCt.CompSrcT.range (by rfl) (by k_asm) (by k_asm) (by assumption) (small_one (by omega) (by omega) (by omega) (by omega)) (rangeSize_nat _ _) (by rw [PySem.sizeLine_eq]; omega) ?_; intro g'; refine Stop.out ?_)))
  k_with "own exec For Name Call cons nil" =>
    (refine Stop.out ?_)
  k_with "own call ref" =>
    (
    (with_reducible show wpAny _ _ (call (Value.ref 138) _) _ _ _);
    (k_dflt (refine draw_Kb (by k_asm) (by k_asm) (by k_asm) (by k_asm) (by k_asm) rfl rfl rfl rfl (by k_extra "room") (by k_extra "room") (by k_updF) (by assumption) (by assumption) (by k_extra "ar") (by k_extra "ar") (by k_extra "ar") ?_)); (intro _ _ _ _ _ _ _ hpO hnF hnN); (try dsimp only at hnN); (try dsimp only))
  k_with "own call type:range" =>
    (k_here; (k_dflt (refine range1_rows (by k_asm) (by k_asm) ?_)); intro _ _ _ _ _ _ _ hnN _; (try dsimp only))
  k_with "own subscriptTail" =>
    ((with_reducible show wpAny _ _ (subscriptTail _ _ (Value.ref _) (Value.int _ _)) _ _ _); (k_dflt (refine item_bytes (by k_asm) (by k_mem) (by repeat (first | exact BytesIn.nil | apply BytesIn.cons)) (by assumption) (by (simp only [List.length_cons, List.length_nil]; k_extra "ar")) (by k_extra "ar") ?_)); intro _ _ hbm; have hlb := len7 hbm rfl)
  k_with "own getMethod str" =>
    (refine method_enc ?_)
  k_with "own getMethod bytes" =>
    (refine method_bjoin ?_)
  k_with "own call builtin:str.encode" =>
    (k_dflt (refine enc_K (by k_extra "ar") ?_); intro _ _)
  k_with "own call builtin:bytes.join" =>
    (k_here; (k_dflt (refine join_led (by k_asm) (by k_mem) (by assumption) (by assumption) (by assumption) ?_)); intro _ _)
  k_with "own binaryOp Add bytes bytes" =>
    ((with_reducible show wpAny _ _ (binaryOp _ (Value.bytes (List.toArray _) _) (Value.bytes (List.toArray _) _)) _ _ _); (k_dflt (refine add_B (by first | k_extra "ar" | (simp only [List.length_cons, List.length_nil, List.length_append]; k_extra "ar")) ?_)); intro _ _)
  k_with "own k_ne" =>
    (refine neN ?_; (try dsimp only); first | exact NeF.ne (by with_reducible assumption) | exact NeF.ne' (by with_reducible assumption) | k_extra "ar")
  k_with "allne" =>
    ((try simp only [AllNe, List.pairwise_cons, List.mem_cons, List.not_mem_nil, or_false, forall_eq_or_imp, forall_eq, List.Pairwise.nil, and_true, false_implies, implies_true]); repeat' (first | apply And.intro | (show @_root_.Ne Nat _ _; first | exact NeF.ne (by assumption) | exact NeF.ne' (by assumption) | k_extra "ar")))
  k_with "own k_all" =>
    (refine List.forall_mem_append.mpr ⟨?_, ?_⟩ <;> k_all)
  k_with "leaf" =>
    (intro p hp; iterate 24 try (with_reducible (first | exact hp | exact List.mem_append_left _ hp | apply List.mem_append_right | apply in_tl)))
  k_with "elem" =>
    (iterate 24 try (with_reducible (first | exact List.mem_cons_self | apply in_tl | apply List.mem_append_right)))
  k_with "sub9" =>
    (repeat' (first | exact sub_nil | refine sub_cons (by first | (k_extra "elem"; done) | k_mem) ?_ | (k_extra "leaf"; done) | refine sub_app ?_ ?_))
  k_with "mm" =>
    (iterate 14 (try (first | exact List.mem_cons_self | apply in_tl)))
  k_with "off9" =>
    (repeat' (first | exact off_nil | refine off_cons (by first | exact off_lt (by assumption) | exact OwnOff.ne (by assumption) (by k_extra "mm")) ?_))
  trivial
def NextCut (cs : List Cmd) (a b : Nat) : Prop := a ≤ b ∧ (a < b ∨ b ∉ Placed cs)
noncomputable def allCuts (cs : List Cmd) (ks : List Nat) : List Nat := ks ++ [(octs cs).length]
theorem cuts_next {cs : List Cmd} {ks : List Nat} (h : Cuts cs ks) (hA : AllCom cs) : (0 :: allCuts cs ks).Pairwise (NextCut cs) := by
  refine List.pairwise_cons.mpr ⟨fun b hb => ⟨Nat.zero_le _, ?_⟩, ?_⟩
  · by_cases h0 : 0 < b
    · exact .inl h0
    · refine .inr fun hm => ?_
      have := (placed_bound hA b hm).1
      k_extra "ar"
  · refine List.pairwise_append.mpr ⟨h.up.imp fun h => ⟨Nat.le_of_lt h, .inl h⟩, List.pairwise_singleton _ _, fun a ha b hb => ?_⟩
    rw [List.mem_singleton.mp hb]
    refine ⟨h.bound a ha, .inr fun hm => ?_⟩
    have := (placed_bound hA _ hm).2
    k_extra "ar"
theorem led_head_int {h₀ h : Heap} {L a : Addr} {us : List Value} {k : Int} {t : Tok} {n : Nat} {r : List (Addr × Obj)} (_ : News h₀ L h ((a, PySem.W.listOf (List.toArray (us ++ [.int k t])) n) :: r)) : ∃ t', t' = t := ⟨_, rfl⟩
theorem led_top {h₀ h : Heap} {L a : Addr} {vs : List Value} {n : Nat} {r : List (Addr × Obj)} (_ : News h₀ L h ((a, PySem.W.listOf (List.toArray vs) n) :: r)) : ∃ a' vs' n', a' = a ∧ vs' = vs ∧ n' = n := ⟨_, _, _, rfl, rfl, rfl⟩
theorem cuts_len {cs : List Cmd} {ks : List Nat} : (allCuts cs ks).length = ks.length + 1 := by simp [allCuts]
abbrev natsI (l : List Nat) : List Int := l.map fun n : Nat => (n : Int)
theorem drop_last {α : Type} (pre : List α) (x : α) : (pre ++ [x]).drop ((pre ++ [x]).length - 1) = [x] := by simp
theorem StepsIn.snoc {tl : List (Addr × Obj)} {vs : List Value} {sts : List Step} {st : Step} (h : StepsIn tl vs (sts ++ [st])) : ∃ pre a t t', vs = pre ++ [.ref a] ∧ (a, tupleOf [.str st.1 t, .bytes st.2.toArray t']) ∈ tl ∧ StepsIn tl pre sts := by
  induction sts generalizing vs with
  | nil =>
    cases h with
    | cons hm hr => cases hr; exact ⟨[], _, _, _, rfl, hm, .nil⟩
  | cons s r ih =>
    cases h with
    | cons hm hr =>
      obtain ⟨pre, a, t, t', rfl, h1, h2⟩ := ih hr
      exact ⟨_ :: pre, a, t, t', rfl, h1, .cons hm h2⟩
inductive LoopJ (w : World) (L : Addr) (oD : Obj) (cl pl du ci x dx : Addr) (cv pv dv iv : List Value) (nc np nd ni : Nat) (cs : List Cmd) (ks : List Nat) (i : Nat) (m : Str → Option Value) (nx : List (Addr × Obj)) : Prop
  | mk : ∀ fo fv nf tl d r held asked begin k1 t1 k2 t2 tb, (nx = (L + 2, oD) :: (cl, PySem.W.listOf (List.toArray cv) nc) :: (pl, PySem.W.listOf (List.toArray pv) np) :: (du, PySem.W.listOf (List.toArray dv) nd) :: (ci, PySem.W.listOf (List.toArray iv) ni) :: (x, instObj 122 dx) :: (dx, cutDict w held asked k1 t1 k2 t2) :: (fo, PySem.W.listOf (List.toArray fv) nf) :: tl) → (OwnOff tl [L + 2, cl, pl, du, ci, x, dx, fo]) → ((NeF (L + 2) fo ∧ NeF cl fo ∧ NeF pl fo ∧ NeF du fo ∧ NeF ci fo ∧ NeF x fo ∧ NeF dx fo)) → (StepsIn tl dv (cs.map cmdS)) → (StepsIn tl fv (d.map cmdS)) → (Mid cs d r begin held asked) → ((0 :: allCuts cs ks)[i]? = some begin) → (m (Str.ofString "commands") = some (.ref cl)) → (m (Str.ofString "places") = some (.ref pl)) → (m (Str.ofString "due") = some (.ref du)) → (m (Str.ofString "cutter") = some (.ref x)) → (m (Str.ofString "found") = some (.ref fo)) → (m (Str.ofString "begin") = some (.int (begin : Int) tb)) → LoopJ w L oD cl pl du ci x dx cv pv dv iv nc np nd ni cs ks i m nx
inductive TurnJ (w : World) (L : Addr) (oD : Obj) (cl pl du ci x dx fo : Addr) (cv pv dv iv fv : List Value) (nc np nd nf : Nat) (tl own : List (Addr × Obj)) (st0 : List Step) (held : Bs) (asked : Int) (c : Nat) (h₀ : Heap) (s s' : Shared) : Prop
  | mk : ∀ h' tk m₂ S vs nS tl2 q k3 t3 k4 t4 tb, s' = { s with heap := h', toks := tk } → Fr h₀ L h' m₂ → News h₀ L h' ((S, PySem.W.listOf (List.toArray vs) nS) :: (L + 2, oD) :: (cl, PySem.W.listOf (List.toArray cv) nc) :: (pl, PySem.W.listOf (List.toArray pv) np) :: (du, PySem.W.listOf (List.toArray dv) nd) :: (ci, PySem.W.listOf (List.toArray iv) 0) :: (x, instObj 122 dx) :: (dx, cutDict w held asked k3 t3 k4 t4) :: (fo, PySem.W.listOf (List.toArray fv) nf) :: (tl ++ (own ++ tl2))) → StepsIn tl2 vs (st0 ++ q) → (∀ st ∈ q, st = askS) → vs.length < 40 → OwnOff tl2 (S :: (L + 2) :: cl :: pl :: du :: ci :: x :: dx :: fo :: (tl.map (·.1) ++ own.map (·.1))) → m₂ (Str.ofString "commands") = some (.ref cl) → m₂ (Str.ofString "places") = some (.ref pl) → m₂ (Str.ofString "due") = some (.ref du) → m₂ (Str.ofString "cutter") = some (.ref x) → m₂ (Str.ofString "found") = some (.ref fo) → m₂ (Str.ofString "begin") = some (.int (c : Int) tb) → m₂ (Str.ofString "steps") = some (.ref S) → TurnJ w L oD cl pl du ci x dx fo cv pv dv iv fv nc np nd nf tl own st0 held asked c h₀ s s'
theorem kw_Seg14_1 : True := by
  k_with "own binaryOp Add ref ref" =>
    (k_here; (with_reducible show wpAny _ _ (binaryOp _ (Value.ref _) (Value.ref _)) _ _ _); (k_dflt (refine cat_led (by k_asm) (by k_asm) (by k_mem) (by k_mem) (by (try simp only [List.length_cons, List.length_nil, List.length_append]; k_extra "ar")) ?_)); intro _ _ hnF hnN hnl; (try k_lt hnl))
  k_with "own exec For Name BinOp cons nil" =>
    (refine Stop.out ?_)
  k_with "own call ref" =>
    (
    (with_reducible show wpAny _ _ (call (Value.ref 98) _) _ _ _);
    (k_dflt (refine add_K (by k_asm) (by k_asm) (by k_asm) (by k_asm) (by k_asm) rfl rfl rfl rfl (by k_extra "room") (by k_extra "room") (by k_mem) (by k_updF) (by k_ne) (by (simp only [cut, List.length_take, List.length_drop]; k_extra "ar")) ?_)); (intro _ _ _ _ _ _ hnF hnN); (try dsimp only at hnN); (try dsimp only))
  k_with "own call ref" =>
    (
    (with_reducible show wpAny _ _ (call (Value.ref 164) _) _ _ _);
    (k_dflt (refine steps_K (by k_asm) (by k_asm) (by k_asm) (by k_asm) (by k_asm) rfl rfl rfl rfl (by k_extra "room") (by k_extra "room") (by k_mem) (by k_updF) (by assumption) (by k_ne) (by (simp only [cut, List.length_append, List.length_take, List.length_drop]; k_extra "ar")) (by assumption) ?_)); (intro _ _ _ _ _ _ _ _ _ _ hnF hnN hstp hoff1 hne1); (have hsv := StepsIn.length hstp); (try simp only [List.length_append, List.length_map, List.length_cons, List.length_nil] at hsv); (try simp only [List.cons_append, List.nil_append, List.append_assoc] at hnN); (try simp only [List.map_cons, List.map_nil, List.map_append] at hoff1); (simp only [List.forall_mem_cons, List.not_mem_nil, false_implies, implies_true, and_true] at hne1); (repeat (obtain ⟨_, hne1⟩ := hne1)); (try dsimp only))
  k_with "own call ref" =>
    (
    (with_reducible show wpAny _ _ (call (Value.ref 119) _) _ _ _);
    (k_dflt (refine next_Kn (by k_asm) (by k_asm) (by k_asm) (by k_asm) (by k_asm) rfl rfl rfl rfl (by k_extra "room") (by k_extra "room") (by k_mem) (by k_updF) (by with_reducible assumption) (by k_ne) (by k_extra "ar") ?_)); (intro _ _ _ _ _ _ _ hnN); (try dsimp only at hnN); (try dsimp only))
  k_with "own compareOp In int ref" =>
    (k_here; (k_dflt (refine in_led (by k_asm) (by k_mem) (by assumption) ?_)); (first | rw [decide_eq_true (by assumption)] | rw [decide_eq_false (by assumption)]))
  k_with "own subscriptTail Name Slice ref ref" =>
    ((with_reducible rename Fr _ _ _ _ => F'); (with_reducible rename News _ _ _ _ => N'); (k_dflt (refine last_led (s := ⟨_, _, _, _, _⟩) F' N' (by k_mem) (by (simp only [List.length_append, List.length_cons, List.length_nil]; k_extra "ar")) ?_ (by with_unfolding_all rfl) (by intro _; with_unfolding_all rfl))); intro _ _ hnF hnN hnl; rw [drop_last] at hnN; (try k_lt hnl))
  k_with "subs" =>
    (k_extra "leaf")
  k_with "own compareOp Eq ref ref" =>
    (k_here; (k_dflt (refine eq_one (by k_asm) (by k_mem) (by k_mem) (by k_mem) (by assumption) (by k_extra "subs") (by k_extra "room") rfl ?_)))
  k_with "own compareOp NotEq ref ref" =>
    (k_here; (k_dflt (first
    | refine ne_nil (by k_asm) (by k_mem) (by k_mem) (by assumption) (by k_extra "subs") (by k_extra "room") rfl ?_
    | refine ne_one (by k_asm) (by k_mem) (by k_mem) (by k_mem) (by assumption) (by k_extra "subs") (by k_extra "room") rfl ?_)))
  trivial
theorem seg14 (h15 : SegAt 15 At15) : SegAt 14 At14 := by
  rintro w dp un gd L fa cd outer A₀ base h₀ mean mg mb Q s G ⟨m, cs, oD, cl, pl, cv, pv, nc, np, du, dv, nd, tl, cu, uv, nu, ks, x, dx, fo, k1, t1, k2, t2, ⟨t, hD⟩, hcv, hpv, hM, hC, F, N, hne, hoff, hst, huv, e1, e2, e3, e4, e5, e6, t0, e7⟩
  have hol := octs_len hM
  have H15 := fun s' => h15 w dp un gd L fa cd outer A₀ base h₀ mean mg mb Q s'
  rw [known e1, known e2, known e3, known e4, known e5, known e6, known e7] at F
  have G' := G
  obtain ⟨B, X, T, hd, hu, -⟩ := G'
  simp only [AllNe, List.pairwise_cons, List.mem_cons, List.not_mem_nil, or_false, forall_eq_or_imp, forall_eq, List.Pairwise.nil, and_true, false_implies, implies_true, and_assoc] at hne
  repeat (obtain ⟨_, hne⟩ := hne)
  simp only [List.cons_append, List.nil_append] at N
  have hul := huv.length
  rw [List.length_map] at hul
  have hcf := hC.few
  have KX := X
  revert KX
  unfold LawGoal
  conv in (occs := *) lawScope => whnf
  conv in (occs := *) (List.drop _ _) => whnf
  k_fill
  intro KX
  clear h15
  show wpAny _ _ _ _ _ _
  k_steps
  show wpAny _ _ _ _ _ _
  refine For_invV h₀ rfl rfl ?_ (fun _ => rfl) PassesOwn.never
  refine stop_post ?_
  k_steps
  rename Fr _ _ _ _ => F₁
  rename News _ _ _ _ => N₁
  refine Stop.out ?_
  show wpAny _ _ _ _ _ _
  have hiv : ∀ tq : Tok, IntsAre (uv ++ [.int ((octs cs).length : Int) tq]) (natsI (allCuts cs ks)) := fun tq => by
    show IntsAre _ ((ks ++ [(octs cs).length]).map _)
    rw [List.map_append]
    exact IntsAre.append huv (.cons _ _ .nil)
  obtain ⟨D, rfl⟩ := led_head N₁
  obtain ⟨tq, rfl⟩ := led_head_int N₁
  rename (_ < D ∧ _) => hnl
  replace N₁ := cb_drop (news := (L + 2, oD) :: (cl, PySem.W.listOf (List.toArray cv) nc) :: (pl, PySem.W.listOf (List.toArray pv) np) :: (du, PySem.W.listOf (List.toArray dv) nd) :: (D, PySem.W.listOf (List.toArray (uv ++ [.int ((octs cs).length : Int) tq])) 0) :: (x, instObj 122 dx) :: (dx, cutDict w [] (-1) k1 t1 k2 t2) :: (fo, PySem.W.listOf (List.toArray []) 0) :: tl) N₁ (by k_extra "sub9")
  have hnD : NeF (L + 2) D ∧ NeF cl D ∧ NeF pl D ∧ NeF du D ∧ NeF x D ∧ NeF dx D ∧ NeF fo D := by k_extra "allne"
  have htD : ∀ p ∈ tl, p.1 < D := allLt_mem (by obtain ⟨_, _, _, _, _, _, _, _, _, h⟩ := hnl; exact h)
  have hnext := cuts_next hC hM.all
  have hbound : ∀ c ∈ allCuts cs ks, c ≤ (octs cs).length := fun c hc => by
    rcases List.mem_append.mp hc with h | h
    · exact hC.bound c h
    · rw [List.mem_singleton.mp h]; exact Nat.le_refl _
  refine hide fun X9 hX9 => ?_
  obtain ⟨_, _, _, _, _, _, _⟩ := hnD
  refine hX9 ?_
  clear hX9 X9
  clear hC hcf
  refine iter_listG (vs := uv ++ [.int ((octs cs).length : Int) tq]) (LoopJ w L oD cl pl du D x dx cv pv dv (uv ++ [.int ((octs cs).length : Int) tq]) nc np nd 0 cs ks) rfl (by k_mem) F₁ N₁ ?_ ?_ ?_
  · refine ⟨fo, [], 0, tl, [], cs, [], -1, 0, _, _, _, _, t0, rfl, ?_, ?_, hst, StepsIn.nil, Mid.start cs hM.all, rfl, rfl, rfl, rfl, rfl, rfl, rfl⟩
    · k_extra "off9"
    · k_extra "allne"
  · clear hnl htD hoff F₁ N₁ hst
    intro i v m₁ nx hh tk own hv ho hmem hJ9 F₂ N₂
    refine hide fun X9 hX9 => ?_
    obtain ⟨fo, fv, nf, tl, d, r, held, asked, begin, k1, t1, k2, t2, tb, rfl, hoff, hfo, hst, hsf, hMid, hbeg, y1, y2, y3, y4, y5, y6⟩ := hJ9
    refine hX9 ?_
    clear hX9 X9
    rw [known y1, known y2, known y3, known y4, known y5, known y6] at F₂
    simp only [List.cons_append] at N₂
    simp only [List.map_cons] at ho
    obtain ⟨kc, tc, rfl, hkc⟩ := ints_at (hiv tq) hv
    obtain ⟨c, hc, rfl⟩ : ∃ c : Nat, (allCuts cs ks)[i]? = some c ∧ kc = (c : Int) := by
      rw [natsI, List.getElem?_map] at hkc
      cases q : (allCuts cs ks)[i]? with
      | none => rw [q] at hkc; cases hkc
      | some c => rw [q] at hkc; exact ⟨c, rfl, (Option.some.inj hkc).symm⟩
    have hnc : NextCut cs begin c := by
      have hp := hnext
      rw [List.pairwise_iff_getElem] at hp
      obtain ⟨b1, b2⟩ := List.getElem?_eq_some_iff.mp hbeg
      obtain ⟨c1, c2⟩ := List.getElem?_eq_some_iff.mp hc
      have := hp i (i + 1) b1 (by rw [List.length_cons]; k_extra "ar") (by k_extra "ar")
      rw [b2] at this
      rw [List.getElem_cons_succ, c2] at this
      exact this
    have hcl : c ≤ (octs cs).length := hbound c (List.mem_of_getElem? hc)
    refine hide fun X9 hX9 => ?_
    obtain ⟨d', r', held', asked', hMid', hS⟩ := hMid.turn hM.all hnc.1 hcl hnc.2
    refine hX9 ?_
    clear hX9 X9
    have hd5 : (d ++ d').length ≤ 5 := by
      have h1 := congrArg List.length hMid'.all
      have h2 := hM.few
      rw [List.length_append] at h1
      k_extra "ar"
    have hheld : held.length ≤ 400 := by
      rw [hMid.held, List.length_take]
      have := hMid.high
      k_extra "ar"
    have hheld' : held'.length ≤ 400 := by
      rw [hMid'.held, List.length_take]
      k_extra "ar"
    have hagain := hS.again
    have hfv := hsf.length
    rw [List.length_map] at hfv
    rw [List.length_append] at hd5
    refine hide fun X9 hX9 => ?_
    obtain ⟨_, _, _, _, _, _, _⟩ := hfo
    refine hX9 ?_
    clear hX9 X9
    have hlen : (d'.map cmdS ++ if c ∈ Placed cs then [askS] else []).length < 40 := by
      rw [List.length_append, List.length_map]
      split <;> simp <;> k_extra "ar"
    show wpAny _ _ (execs ([_, _, _, _, _] ++ _) _) _ _ _
    refine execs_join (R := fun s' => Stop (TurnJ w L oD cl pl du D x dx fo cv pv dv (uv ++ [.int ((octs cs).length : Int) tq]) fv nc np nd nf tl own (d'.map cmdS) held' asked' c h₀ s s')) ?rest _ _ ?pre
    case pre =>
      refine wpAny_execs_cons ?_
      by_cases hin : c ∈ Placed cs
      · rw [if_pos hin] at hS hlen
        have hq : ∀ s ∈ ([askS] : List Step), s = askS := fun s h => List.mem_singleton.mp h
        have htags := step_tags d' [askS] hq
        have hinI : (c : Int) ∈ (Placed cs).map (fun n : Nat => (n : Int)) := List.mem_map.mpr ⟨c, hin, rfl⟩
        have hcin := (placed_bound hM.all c hin).2
        k_steps
        show LCt.CompRestT _ _ _ _ _ _ _ _ _ _ _ _ _ _ _ _ _ _ _ _
        rename StepsIn _ _ (List.map cmdS d' ++ [askS]) => hstp
        obtain ⟨tl2, rfl⟩ := stepsIn_tl hstp
        rename News _ _ _ _ => N₀
        obtain ⟨k3, t3, k4, t4, rfl, rfl, rfl, rfl⟩ := led_cut (x := x) (dx := dx) (w := w) (held := held') (asked := asked') N₀ (by k_mem) (by k_mem)
        obtain ⟨S, vs, nS, rfl, rfl, rfl⟩ := led_top N₀
        rename OwnOff tl2 _ => hoff1
        obtain ⟨pre, ak, ta1, ta2, hpe, hak, -⟩ := hstp.snoc
        subst hpe
        have hSa : StepsIn _ [.ref ak] [askS] := .cons hak .nil
        rename (List.length _ = List.length d' + (0 + 1)) => hpl
        rw [List.length_append, List.length_cons, List.length_nil] at hpl
        refine rest_filt isAsk hstp ?_ ?_
        · intro a t t' tag b ys I oI C oC E m₂ h tk E' hmt hmm hC hx F N off0 ne
          replace N := news_add (q := (a, tupleOf [.str tag t, .bytes b.toArray t'])) N (by repeat (first | exact hmm | exact List.mem_append_left _ hmm | apply List.mem_append_right | apply in_tl))
          have htg := htags _ hmt
          simp only at htg
          clear htags
          rcases htg with rfl | rfl
          all_goals k_steps
          · exact LCg.CompEnd.intro (by assumption) (by assumption) _ (fun p hp => .tail _ hp) off0 (Or.inr ⟨_, by k_mem, rfl, _, rfl⟩) ⟨rfl, by simp [isAsk, cmd_ne_ask]⟩
          · exact LCg.CompEnd.intro (by assumption) (by assumption) _ (fun p hp => .tail _ hp) off0 (Or.inr ⟨_, by k_mem, rfl, _, rfl⟩) ⟨rfl, rfl, by simp [isAsk]⟩
        · intro ys1 hys1
          rw [filt_ask d' [askS] hq] at hys1
          k_steps
          rename Fr _ _ _ _ => Fp
          rename News _ _ _ _ => Np
          refine TurnJ.mk _ _ _ S (pre ++ [.ref ak]) nS tl2 [askS] k3 t3 k4 t4 tc rfl Fp (cb_drop Np (by k_extra "sub9")) hstp hq (by rw [hstp.length]; exact hlen) hoff1 rfl rfl rfl rfl rfl rfl rfl
      · rw [if_neg hin] at hS hlen
        have hq : ∀ s ∈ ([] : List Step), s = askS := fun s h => nomatch h
        have htags := step_tags d' [] hq
        have hinI : (c : Int) ∉ (Placed cs).map (fun n : Nat => (n : Int)) := fun h => by
          obtain ⟨c', h1, h2⟩ := List.mem_map.mp h
          exact hin (by rw [← Int.ofNat.inj h2]; exact h1)
        k_steps
        show LCt.CompRestT _ _ _ _ _ _ _ _ _ _ _ _ _ _ _ _ _ _ _ _
        rename StepsIn _ _ (List.map cmdS d' ++ []) => hstp
        obtain ⟨tl2, rfl⟩ := stepsIn_tl hstp
        rename News _ _ _ _ => N₀
        obtain ⟨k3, t3, k4, t4, rfl, rfl, rfl, rfl⟩ := led_cut (x := x) (dx := dx) (w := w) (held := held') (asked := asked') N₀ (by k_mem) (by k_mem)
        obtain ⟨S, vs, nS, rfl, rfl, rfl⟩ := led_top N₀
        rename OwnOff tl2 _ => hoff1
        refine rest_filt isAsk hstp ?_ ?_
        · intro a t t' tag b ys I oI C oC E m₂ h tk E' hmt hmm hC hx F N off0 ne
          replace N := news_add (q := (a, tupleOf [.str tag t, .bytes b.toArray t'])) N (by repeat (first | exact hmm | exact List.mem_append_left _ hmm | apply List.mem_append_right | apply in_tl))
          have htg := htags _ hmt
          simp only at htg
          clear htags
          rcases htg with rfl | rfl
          all_goals k_steps
          · exact LCg.CompEnd.intro (by assumption) (by assumption) _ (fun p hp => .tail _ hp) off0 (Or.inr ⟨_, by k_mem, rfl, _, rfl⟩) ⟨rfl, by simp [isAsk, cmd_ne_ask]⟩
          · exact LCg.CompEnd.intro (by assumption) (by assumption) _ (fun p hp => .tail _ hp) off0 (Or.inr ⟨_, by k_mem, rfl, _, rfl⟩) ⟨rfl, rfl, by simp [isAsk]⟩
        · intro ys1 hys1
          rw [filt_ask d' [] hq] at hys1
          k_steps
          rename Fr _ _ _ _ => Fp
          rename News _ _ _ _ => Np
          refine TurnJ.mk _ _ _ S vs nS tl2 [] k3 t3 k4 t4 tc rfl Fp (cb_drop Np (by k_extra "sub9")) hstp hq (by rw [hstp.length]; exact hlen) hoff1 rfl rfl rfl rfl rfl rfl rfl
    case rest =>
      clear F₂ N₂
      intro s' hJ9
      refine hide fun X9 hX9 => ?_
      obtain ⟨h', tk', m₂, S, vs, nS, tl2, q, k3, t3, k4, t4, tc, rfl, F₂, N₂, hstp, hq, hvs, hoff1, y1, y2, y3, y4, y5, y6, y7⟩ := (show TurnJ w L oD cl pl du D x dx fo cv pv dv (uv ++ [.int ((octs cs).length : Int) tq]) fv nc np nd nf tl own (d'.map cmdS) held' asked' c h₀ s s' from hJ9)
      refine hX9 ?_
      clear hX9 X9
      rw [known y1, known y2, known y3, known y4, known y5, known y6, known y7] at F₂
      have htags := step_tags d' q hq
      show wpAny _ _ _ _ _ _
      k_steps
      show LCt.CompRestT _ _ _ _ _ _ _ _ _ _ _ _ _ _ _ _ _ _ _ _
      refine rest_filt isCmd hstp ?_ ?_
      · intro a t t' tag b ys I oI C oC E m₂ h tk E' hmt hmm hC hx F N off0 ne
        replace N := news_add (q := (a, tupleOf [.str tag t, .bytes b.toArray t'])) N (by repeat (first | exact hmm | exact List.mem_append_left _ hmm | apply List.mem_append_right | apply in_tl))
        have htg := htags _ hmt
        simp only at htg
        clear htags
        rcases htg with rfl | rfl
        all_goals k_steps
        · exact LCg.CompEnd.intro (by assumption) (by assumption) _ (fun p hp => .tail _ hp) off0 (Or.inr ⟨_, by k_mem, rfl, _, rfl⟩) ⟨rfl, rfl, by simp [isCmd, cmd_ne_ask]⟩
        · exact LCg.CompEnd.intro (by assumption) (by assumption) _ (fun p hp => .tail _ hp) off0 (Or.inr ⟨_, by k_mem, rfl, _, rfl⟩) ⟨rfl, by simp [isCmd]⟩
      · intro ys2 hys2
        rw [filt_cmd d' q hq] at hys2
        have hy2 := hys2.length
        rw [List.length_map] at hy2
        dsimp only [LCg.FinE]
        intro E1 h1 tk1 Fx Nx off1x
        show wpAny _ _ _ _ _ _
        k_dflt (refine cat_led Fx Nx (by k_mem) (by k_mem) (by k_extra "ar") ?_)
        intro D9 h9 F9 N9 hl9
        k_lt hl9
        have hA9 : AllLt D9 (tl ++ (own ++ tl2)) := by
          repeat (first | exact hl9 | (replace hl9 := hl9.2))
        have hto : ∀ p ∈ own, @LT.lt Nat _ p.1 D9 := fun p hp => allLt_mem hA9 p (List.mem_append_right _ (List.mem_append_left _ hp))
        have htl : ∀ p ∈ tl, @LT.lt Nat _ p.1 D9 := fun p hp => allLt_mem hA9 p (List.mem_append_left _ hp)
        have ht2 : ∀ p ∈ tl2, @LT.lt Nat _ p.1 D9 := fun p hp => allLt_mem hA9 p (List.mem_append_right _ (List.mem_append_right _ hp))
        have hn9 : NeF (L + 2) D9 ∧ NeF cl D9 ∧ NeF pl D9 ∧ NeF du D9 ∧ NeF D D9 ∧ NeF x D9 ∧ NeF dx D9 := by k_extra "allne"
        refine hide fun X9 hX9 => ?_
        obtain ⟨_, _, _, _, _, _, _⟩ := hn9
        refine hX9 ?_
        clear hX9 X9
        clear hl9 off1x
        replace N9 := cb_drop (news := (D9, PySem.W.listOf (List.toArray (fv ++ ys2)) 0) :: (L + 2, oD) :: (cl, PySem.W.listOf (List.toArray cv) nc) :: (pl, PySem.W.listOf (List.toArray pv) np) :: (du, PySem.W.listOf (List.toArray dv) nd) :: (D, PySem.W.listOf (List.toArray (uv ++ [.int ((octs cs).length : Int) tq])) 0) :: (x, instObj 122 dx) :: (dx, cutDict w held' asked' k3 t3 k4 t4) :: (tl ++ (own ++ tl2))) N9 (by k_extra "sub9")
        k_steps
        rename Fr _ _ _ _ => Fe
        rename News _ _ _ _ => Ne
        obtain ⟨k5, t5, k6, t6, rfl, rfl, rfl, rfl⟩ := led_cut (x := x) (dx := dx) (w := w) (held := held') (asked := asked') Ne (by k_mem) (by k_mem)
        have hot2 : ∀ p ∈ own, ∀ q ∈ tl2, p.1 ≠ q.1 := fun p hp q hq e => hoff1 q hq p.1 (by simp only [List.mem_cons, List.mem_append, List.mem_map]; repeat (first | exact .inr ⟨p, hp, rfl⟩ | apply Or.inr)) e.symm
        refine InvEndG.intro (nx := (L + 2, oD) :: (cl, PySem.W.listOf (List.toArray cv) nc) :: (pl, PySem.W.listOf (List.toArray pv) np) :: (du, PySem.W.listOf (List.toArray dv) nd) :: (D, PySem.W.listOf (List.toArray (uv ++ [.int ((octs cs).length : Int) tq])) 0) :: (x, instObj 122 dx) :: (dx, cutDict w held' asked' k5 t5 k6 t6) :: (D9, PySem.W.listOf (List.toArray (fv ++ ys2)) 0) :: (tl ++ tl2)) Fe Ne
          ⟨by k_mem, D9, fv ++ ys2, 0, tl ++ tl2, d ++ d', r', held', asked', c, k5, t5, k6, t6, tc, rfl, ?_, ?_, hst.mono (fun p hp => List.mem_append_left _ hp), ?_, hMid', hc, rfl, rfl, rfl, rfl, rfl, rfl⟩ ?_ ?_ ?_
        · exact off_union (by k_extra "off9") (by k_extra "off9")
        · refine ⟨?_, ?_, ?_, ?_, ?_, ?_, ?_⟩ <;> assumption
        · rw [List.map_append]
          exact (hsf.mono (fun p hp => List.mem_append_left _ hp)).append (hys2.mono (fun p hp => List.mem_append_right _ hp))
        · k_extra "off9"
          intro p hp q hq
          rw [List.map_append] at hq
          rcases List.mem_append.mp hq with h | h
          · exact ho p hp q (by repeat (first | exact h | apply in_tl))
          · obtain ⟨z, hz, rfl⟩ := List.mem_map.mp h
            exact hot2 p hp z hz
        · intro p hp
          simp only [List.mem_cons, List.mem_append] at hp ⊢
          rcases hp with h | h | h | h | h | h | h | h | h | h <;> simp only [h, true_or, or_true]
        · k_extra "leaf"
  · intro m₁ nx hh tk hmem hJ9 F₂ N₂
    refine hide fun X9 hX9 => ?_
    obtain ⟨fo, fv, nf, tl, d, r, held, asked, begin, k1, t1, k2, t2, tb, rfl, hoff, hfo, hst, hsf, hMid, hbeg, y1, y2, y3, y4, y5, y6⟩ := hJ9
    refine hX9 ?_
    clear hX9 X9
    rw [known y1, known y3, known y4, known y5] at F₂
    have hlast : begin = (octs cs).length := by
      have h1 : (0 :: allCuts cs ks)[(uv ++ [Value.int ((octs cs).length : Int) tq]).length]? = some (octs cs).length := by
        rw [List.length_append, List.length_cons, List.length_nil, List.getElem?_cons_succ, hul]
        show (ks ++ [(octs cs).length])[ks.length + 0]? = _
        simp
      rw [hbeg] at h1
      exact Option.some.inj h1
    subst hlast
    obtain ⟨rfl, rfl, has⟩ := hMid.fin hM.all
    refine hide fun X9 hX9 => ?_
    obtain ⟨_, _, _, _, _, _, _⟩ := hfo
    refine hX9 ?_
    clear hX9 X9
    show wpAny _ _ _ _ _ _
    refine H15 _ (G.to _ _) ⟨_, d, cl, cv, nc, du, dv, nd, tl, x, dx, fo, fv, nf, asked, k1, t1, k2, t2, hcv, hM, F₂, cb_drop N₂ ?_, by k_extra "allne", ?_, hst, hsf, has, rfl, rfl, rfl, rfl⟩
    · k_extra "sub9"
    · k_extra "off9"
end
/-! text Seg10 -/
section
theorem off_Seg10 : True := by
  w_top off
  trivial
theorem kw_Seg10_0 : True := by
  k_with_none
  k_with "pick" =>
    (with_reducible (first
    | assumption | exact And.left (by assumption) | exact And.left (And.right (by assumption)) | exact And.left (And.right (And.right (by assumption)))
    | exact And.left (And.right (And.right (And.right (by assumption)))) | exact And.left (And.right (And.right (And.right (And.right (by assumption))))) | exact And.left (And.right (And.right (And.right (And.right (And.right (by assumption)))))) | exact And.right (by assumption)))
  k_with "ne1" =>
    first
    | (with_reducible assumption) | exact _root_.Ne.symm (by with_reducible assumption) | exact Nat.ne_of_lt (by k_extra "pick") | exact Nat.ne_of_gt (by k_extra "pick")
  k_with "ar" =>
    first
    | (with_reducible assumption)
    | exact room_up (by with_reducible assumption) rfl
    | ((repeat (first | (rename _ ≠ _ => hz9; clear hz9) | (rename (_ ≠ _ ∧ _) => hz9; clear hz9))); omega)
    | omega
  k_with "own k_ne" =>
    (refine neN ?_; (try dsimp only); first | k_extra "ne1" | omega)
  k_with "room" =>
    ((try dsimp only [ktrTop]); (first | k_extra "ar" | (simp only [ktrTop, Around.in1, Around.deeper, Around.mark]; k_extra "ar")))
  k_with "own call ref" =>
    (
    (with_reducible show wpAny _ _ (call (Value.ref 49) _) _ _ _);
    (refine isfig_K (by k_asm) (by k_asm) (by k_asm) (by k_asm) (by k_asm) rfl rfl rfl rfl (by k_extra "room") (by k_extra "room") ?_); intro _ _ _ _; (try dsimp only))
  k_with "own call ref" =>
    (
    (with_reducible show wpAny _ _ (call (Value.ref 56) _) _ _ _);
    (refine numfig_K (by k_asm) (by k_asm) (by k_asm) (by k_asm) (by k_asm) rfl rfl rfl rfl (by k_extra "room") (by k_extra "room") ?_); intro _ _ _ _ _; (try dsimp only))
  k_with "own exec While" =>
    (refine Stop.out ?_)
  k_with "own exec While BoolOp" =>
    (refine Stop.out ?_)
  k_with "own subscriptTail" =>
    (k_here; (with_reducible show wpAny _ _ (subscriptTail _ _ (Value.bytes (List.toArray _) _) (Value.int _ _)) _ _ _); (refine KBy.item_N (by k_extra "ar") (by k_extra "ar") (by k_extra "ar") ?_))
  k_with "own subscriptTail" =>
    (k_here; (with_reducible show wpAny _ _ (subscriptTail _ (Expr.Slice (some _) (some _) none _) (Value.bytes (List.toArray _) _) (Value.ref _)) _ _ _); (with_reducible rename Fr _ _ _ _ => F'); (with_reducible rename News _ _ _ _ => N'); (refine slice_both (s := ⟨_, _, _, _, _⟩) F' N' (by k_extra "ar") (by k_extra "ar") (by k_extra "ar") ?_); intro _ _ _ _ _)
  k_with "own subscriptTail" =>
    (k_here; (with_reducible show wpAny _ _ (subscriptTail _ (Expr.Slice none (some _) none _) (Value.bytes (List.toArray _) _) (Value.ref _)) _ _ _); (with_reducible rename Fr _ _ _ _ => F'); (with_reducible rename News _ _ _ _ => N'); (refine slice_to (s := ⟨_, _, _, _, _⟩) F' N' (by k_extra "ar") (by k_extra "ar") ?_); intro _ _ _ _ _)
  k_with "own subscriptTail" =>
    (k_here; (with_reducible show wpAny _ _ (subscriptTail _ (Expr.Slice (some _) none none _) (Value.bytes (List.toArray _) _) (Value.ref _)) _ _ _); (with_reducible rename Fr _ _ _ _ => F'); (with_reducible rename News _ _ _ _ => N'); (refine slice_from (s := ⟨_, _, _, _, _⟩) F' N' (by k_extra "ar") (by k_extra "ar") ?_); intro _ _ _ _ _)
  k_with "own call builtin:len" =>
    (k_here; (with_reducible show wpAny _ _ (call (Value.builtin "len") [Value.bytes (List.toArray _) _]) _ _ _); (refine len_B (by first | k_extra "ar" | (simp only [List.length_take, List.length_drop, cut]; k_extra "ar")) ?_); intro _ _)
  k_with "own getMethod bytes" =>
    (refine method_find ?_)
  k_with "own call builtin:bytes.find" =>
    ((refine find3 rfl ?_); intro _ _; simp only [findV, *])
  k_with "own call ref" =>
    (
    (with_reducible show wpAny _ _ (call (Value.ref 63) _) _ _ _);
    (refine lithead_Kn (by k_asm) (by k_asm) (by k_asm) (by k_asm) (by k_asm) rfl rfl rfl rfl (by k_extra "room") (by k_extra "room") (by assumption) (by k_extra "ar") (by k_extra "ar") (by k_extra "ar") ?_); intro _ _ _ _; (try dsimp only))
  k_with "own call ref" =>
    (
    (with_reducible show wpAny _ _ (call (Value.ref 63) _) _ _ _);
    (refine lithead_Ks (by k_asm) (by k_asm) (by k_asm) (by k_asm) (by k_asm) rfl rfl rfl rfl (by k_extra "room") (by k_extra "room") (by assumption) (by k_extra "ar") (by k_extra "ar") (by k_extra "ar") ?_); intro _ _ _ _ _ _; (try dsimp only))
  k_with "own binaryOp Add bytes bytes" =>
    (k_here; (with_reducible show wpAny _ _ (binaryOp Operator.Add (Value.bytes (List.toArray _) _) (Value.bytes (List.toArray _) _)) _ _ _); (refine add_B (by k_extra "ar") ?_); intro _ _)
  k_with "own k_room" =>
    (k_extra "room")
  k_with "nes" =>
    (simp only [List.forall_mem_cons, List.not_mem_nil, false_implies, implies_true, and_true] at *)
  k_with "own call ref" =>
    (
    (with_reducible show wpAny _ _ (call (Value.ref 70) _) _ _ _);
    (refine cmdend_Kn (by k_asm) (by k_asm) (by k_asm) (by k_asm) (by k_asm) rfl rfl rfl rfl (by k_extra "room") (by k_extra "room") (by assumption) (by k_extra "ar") ?_); (intro _ _ _ _ _ _ hne1); (simp only [List.forall_mem_cons, List.not_mem_nil, false_implies, implies_true, and_true] at hne1); (try dsimp only))
  k_with "own call ref" =>
    (
    (with_reducible show wpAny _ _ (call (Value.ref 70) _) _ _ _);
    (refine cmdend_Ks (by k_asm) (by k_asm) (by k_asm) (by k_asm) (by k_asm) rfl rfl rfl rfl (by k_extra "room") (by k_extra "room") (by assumption) (by k_extra "ar") ?_); (intro _ _ _ _ _ _ _ _ hne1 hne2); (simp only [List.forall_mem_cons, List.not_mem_nil, false_implies, implies_true, and_true] at hne1 hne2); (try dsimp only))
  k_with "own call builtin:bytes.find" =>
    ((refine find2 ?_); intro _ _; simp only [findV, *])
  k_with "small" =>
    (first | k_extra "ar" | (simp only [List.length_append, List.length_cons, List.length_nil, List.length_map]; k_extra "ar"))
  k_with "own call builtin:len" =>
    (k_here; (with_reducible show wpAny _ _ (call (Value.builtin "len") [Value.ref _]) _ _ _); (k_dflt (refine len_led (by k_asm) (by k_mem) (by k_extra "small") ?_)); intro _ _; (try simp only [List.length_append, List.length_cons, List.length_nil, List.length_map]))
  k_with "own call builtin:list.append" =>
    (k_here; (with_reducible show wpAny _ _ (call (Value.builtin "list.append") [Value.ref _, _]) _ _ _); (k_dflt (refine append_led (by k_asm) (by k_asm) (by k_upd) (by k_extra "small") ?_)); intro _ _ hnN; (try dsimp only at hnN))
  k_with "own call ref" =>
    (
    (with_reducible show wpAny _ _ (call (Value.ref 119) _) _ _ _);
    (k_dflt (refine next_Kn (by k_asm) (by k_asm) (by k_asm) (by k_asm) (by k_asm) rfl rfl rfl rfl (by k_extra "room") (by k_extra "room") (by k_mem) (by k_updF) (by assumption) (by assumption) (by k_extra "ar") ?_)); (intro _ _ _ _ _ _ _ hnN); (try dsimp only at hnN); (try dsimp only))
  k_with "own call ref" =>
    (
    (with_reducible show wpAny _ _ (call (Value.ref 119) _) _ _ _);
    (k_dflt (refine next_Ks (by k_asm) (by k_asm) (by k_asm) (by k_asm) (by k_asm) rfl rfl rfl rfl (by k_extra "room") (by k_extra "room") (by k_mem) (by k_updF) (by assumption) (by assumption) (by k_extra "ar") ?_)); (intro _ _ _ _ _ _ _ _ _ _ hnN hne1); (try dsimp only at hnN); (simp only [List.forall_mem_cons, List.not_mem_nil, false_implies, implies_true, and_true] at hne1); (try dsimp only))
  k_with "own exec While Compare cons nil" =>
    (refine Stop.out ?_)
  k_with "own eval ListComp" =>
    (k_here; lcg_look; k_dflt (refine LCg.ListComp_U (F₀ := by k_asm) (by with_unfolding_all rfl) (by decide) (by rfl) (by decide) (by rfl) ?_))
  k_with "own exec Assign cons ListComp" =>
    (k_here; lcg_look; k_dflt (refine LCg.Assign_ListComp_U (F₀ := by k_asm) (by rfl) (by with_unfolding_all rfl) (by with_unfolding_all rfl) (by decide) (by rfl) (by decide) (by rfl) (by rfl) (by rfl) ?_))
  k_with "own eval ListComp" =>
    (k_here; lcf_look; k_dflt (refine LCg.ListComp_U (F₀ := by k_asm) (by with_unfolding_all rfl) (by decide) (by rfl) (by decide) (by rfl) ?_))
  k_with "own exec Assign cons ListComp" =>
    (k_here; lcf_look; k_dflt (refine LCg.Assign_ListComp_U (F₀ := by k_asm) (by rfl) (by with_unfolding_all rfl) (by with_unfolding_all rfl) (by decide) (by rfl) (by decide) (by rfl) (by rfl) (by rfl) ?_))
  k_with "own eval ListComp" =>
    (k_here; lct_look; k_dflt (refine LCt.ListComp_T (F₀ := by k_asm) (by with_unfolding_all rfl) (by decide) (by rfl) (by decide) (by rfl) ?_))
  k_with "own exec Assign cons ListComp" =>
    (k_here; lct_look; k_dflt (refine LCt.Assign_ListComp_T (F₀ := by k_asm) (by rfl) (by with_unfolding_all rfl) (by with_unfolding_all rfl) (by decide) (by rfl) (by decide) (by rfl) (by rfl) (by rfl) ?_))
  k_with "own CompSrc" =>
    (k_here; k_dflt (first
    | (refine LCg.CompSrc.ledger (by rfl) (by k_asm) (by k_asm) (by k_mem) (by rw [List.size_toArray, PySem.sizeLine_eq]; (first | omega | (simp only [List.length_append, List.length_cons, List.length_nil, List.length_map]; omega))) ?_; intro g'; refine Stop.out ?_)
    | (refine LCg.CompSrc.base (by rfl) (by k_asm) (by k_asm) (by assumption) (by rw [List.size_toArray, PySem.sizeLine_eq]; (first | omega | (simp only [List.length_append, List.length_cons, List.length_nil, List.length_map]; omega))) ?_; intro g'; refine Stop.out ?_)
    | (refine LCg.CompSrc.range (by rfl) (by k_asm) (by k_asm) (by assumption) (small_one (by omega) (by omega) (by omega) (by omega)) (rangeSize_nat _ _) (by rw [PySem.sizeLine_eq]; omega) ?_; intro g'; refine Stop.out ?_)))
  k_with "own CompSrcT" =>
    (k_here; k_dflt (first
    | (refine LCt.CompSrcT.ledger (by rfl) (by k_asm) (by k_asm) (by k_mem) (by rw [List.size_toArray, PySem.sizeLine_eq]; (first | omega | (simp only [List.length_append, List.length_cons, List.length_nil, List.length_map]; omega))) ?_; intro g'; refine Stop.out ?_)
    | (refine LCt.CompSrcT.base (by rfl) (by k_asm) (by k_asm) (by assumption) (by rw [List.size_toArray, PySem.sizeLine_eq]; (first | omega | (simp only [List.length_append, List.length_cons, List.length_nil, List.length_map]; omega))) ?_; intro g'; refine Stop.out ?_)
    | (refine LCt.CompSrcT.range (by rfl) (by k_asm) (by k_asm) (by assumption) (small_one (by omega) (by omega) (by omega) (by omega)) (rangeSize_nat _ _) (by rw [PySem.sizeLine_eq]; omega) ?_; intro g'; refine Stop.out ?_)))
  k_with "own exec For Name Call cons nil" =>
    (refine Stop.out ?_)
  k_with "own call ref" =>
    (
    (with_reducible show wpAny _ _ (call (Value.ref 138) _) _ _ _);
    (k_dflt (refine draw_Kb (by k_asm) (by k_asm) (by k_asm) (by k_asm) (by k_asm) rfl rfl rfl rfl (by k_extra "room") (by k_extra "room") (by k_updF) (by assumption) (by assumption) (by k_extra "ar") (by k_extra "ar") (by k_extra "ar") ?_)); (intro _ _ _ _ _ _ _ hpO hnF hnN); (try dsimp only at hnN); (try dsimp only))
  k_with "own call type:range" =>
    (k_here; (k_dflt (refine range1_rows (by k_asm) (by k_asm) ?_)); intro _ _ _ _ _ _ _ hnN _; (try dsimp only))
  k_with "own subscriptTail" =>
    ((with_reducible show wpAny _ _ (subscriptTail _ _ (Value.ref _) (Value.int _ _)) _ _ _); (k_dflt (refine item_bytes (by k_asm) (by k_mem) (by repeat (first | exact BytesIn.nil | apply BytesIn.cons)) (by assumption) (by (simp only [List.length_cons, List.length_nil]; k_extra "ar")) (by k_extra "ar") ?_)); intro _ _ hbm; have hlb := len7 hbm rfl)
  k_with "own getMethod str" =>
    (refine method_enc ?_)
  k_with "own getMethod bytes" =>
    (refine method_bjoin ?_)
  k_with "own call builtin:str.encode" =>
    (k_dflt (refine enc_K (by k_extra "ar") ?_); intro _ _)
  k_with "own call builtin:bytes.join" =>
    (k_here; (k_dflt (refine join_led (by k_asm) (by k_mem) (by assumption) (by assumption) (by assumption) ?_)); intro _ _)
  k_with "own binaryOp Add bytes bytes" =>
    ((with_reducible show wpAny _ _ (binaryOp _ (Value.bytes (List.toArray _) _) (Value.bytes (List.toArray _) _)) _ _ _); (k_dflt (refine add_B (by first | k_extra "ar" | (simp only [List.length_cons, List.length_nil, List.length_append]; k_extra "ar")) ?_)); intro _ _)
  k_with "own k_ne" =>
    (refine neN ?_; (try dsimp only); first | exact NeF.ne (by with_reducible assumption) | exact NeF.ne' (by with_reducible assumption) | k_extra "ar")
  k_with "allne" =>
    ((try simp only [AllNe, List.pairwise_cons, List.mem_cons, List.not_mem_nil, or_false, forall_eq_or_imp, forall_eq, List.Pairwise.nil, and_true, false_implies, implies_true]); repeat' (first | apply And.intro | (show @_root_.Ne Nat _ _; first | exact NeF.ne (by assumption) | exact NeF.ne' (by assumption) | k_extra "ar")))
  k_with "own k_all" =>
    (refine List.forall_mem_append.mpr ⟨?_, ?_⟩ <;> k_all)
  k_with "leaf" =>
    (intro p hp; iterate 24 try (with_reducible (first | exact hp | exact List.mem_append_left _ hp | apply List.mem_append_right | apply in_tl)))
  k_with "elem" =>
    (iterate 24 try (with_reducible (first | exact List.mem_cons_self | apply in_tl | apply List.mem_append_right)))
  k_with "sub9" =>
    (repeat' (first | exact sub_nil | refine sub_cons (by first | (k_extra "elem"; done) | k_mem) ?_ | (k_extra "leaf"; done) | refine sub_app ?_ ?_))
  k_with "mm" =>
    (iterate 14 (try (first | exact List.mem_cons_self | apply in_tl)))
  k_with "off9" =>
    (repeat' (first | exact off_nil | refine off_cons (by first | exact off_lt (by assumption) | exact OwnOff.ne (by assumption) (by k_extra "mm")) ?_))
  trivial
theorem kw_Seg10_1 : True := by
  k_with "own k_room" =>
    (simp only [depth_mark, depth_under_make, depth_under_kw, depth_in1, depth_deeper, ktrTop]; k_extra "ar")
  k_with "own call ref" =>
    (
    (with_reducible show wpAny _ _ (call (Value.ref 138) _) _ _ _);
    (k_dflt (refine draw_Kl (by k_asm) (by k_asm) (by k_asm) (by k_asm) (by k_asm) rfl rfl rfl rfl (by k_extra "room") (by k_extra "room") (by k_updF) (by assumption) (by k_mem) (by assumption) (by k_extra "ar") (by k_extra "ar") (by k_extra "ar") ?_)); (intro _ _ _ _ _ _ _ hpO hnF hnN); (try dsimp only at hnN); (try dsimp only))
  k_with "own call type:set" =>
    (refine Stop.out ?_)
  k_with "own call builtin:sorted" =>
    (refine Stop.out ?_)
  k_with "own execs cons" =>
    ((with_reducible show wpAny _ _ (execs (Stmt.For _ _ _ _ _ :: _) _) _ _ _); refine Stop.out ?_)
  trivial
theorem led_head3 {h₀ h : Heap} {L a b c : Addr} {o o' o'' : Obj} {r : List (Addr × Obj)} (_ : News h₀ L h ((a, o) :: (b, o') :: (c, o'') :: r)) : ∃ x y z, x = a ∧ y = b ∧ z = c := ⟨_, _, _, rfl, rfl, rfl⟩
theorem nats_of {ms : List Int} (h : ∀ x ∈ ms, 0 ≤ x) : (ms.map Int.toNat).map (fun n : Nat => (n : Int)) = ms := by
  rw [List.map_map]
  conv => rhs; rw [← List.map_id ms]
  refine List.map_congr_left fun x hx => ?_
  exact Int.toNat_of_nonneg (h x hx)
theorem up_nats {ms : List Int} (h : ∀ x ∈ ms, 0 ≤ x) (hu : ms.Pairwise (· < ·)) : (ms.map Int.toNat).Pairwise (· < ·) := by
  rw [List.pairwise_map]
  refine List.Pairwise.imp_of_mem (fun {a b} ha hb hab => ?_) hu
  have h1 := h a ha
  have h2 := h b hb
  k_extra "ar"
theorem bnd_snoc {ns : List Nat} {n : Nat} {r : Int} (h : ∀ k ∈ ns, k ≤ n) (h0 : 0 ≤ r) (h1 : r < (n : Int) + 1) : ∀ k ∈ ns ++ [r.toNat], k ≤ n := by
  intro k hk
  rcases List.mem_append.mp hk with q | q
  · exact h k q
  · rw [List.mem_singleton.mp q]; k_extra "ar"
theorem ints_snoc {ys : List Value} {ns : List Nat} {r : Int} {t : Tok} (h : IntsAre ys (ns.map fun n : Nat => (n : Int))) (h0 : 0 ≤ r) : IntsAre (ys ++ [.int r t]) ((ns ++ [r.toNat]).map fun n : Nat => (n : Int)) := by
  rw [List.map_append]
  have e : ([r.toNat].map fun n : Nat => (n : Int)) = [r] := by simp [Int.toNat_of_nonneg h0]
  rw [e]
  exact IntsAre.append h (.cons _ _ .nil)
theorem seg10 (h14 : SegAt 14 At14) : SegAt 10 At10 := by
  rintro w dp un gd L fa cd outer A₀ base h₀ mean mg mb Q s G ⟨m, cs, oD, oP, po, co, pen, ca, cl, pl, cv, pv, nc, np, du, dv, nd, tl, K, F, N, hne, hoff, hst, e3⟩
  have hol := octs_len K.made
  have H14 := fun s' => h14 w dp un gd L fa cd outer A₀ base h₀ mean mg mb Q s'
  rw [known K.e1, known K.e2, known e3] at F
  have hcv := K.cv
  have hpv := K.pv
  have hM := K.made
  have hpl := placed_len hM.heads
  have hcf := hM.few
  have hpvl := hpv.length
  rw [List.length_map] at hpvl
  obtain ⟨⟨t, hD⟩, hP, hpo, hco, -, -, -, -, -⟩ := K
  have G' := G
  obtain ⟨B, X, T, hd, hu, -⟩ := G'
  simp only [AllNe, List.pairwise_cons, List.mem_cons, List.not_mem_nil, or_false, forall_eq_or_imp, forall_eq, List.Pairwise.nil, and_true, false_implies, implies_true, and_assoc] at hne
  repeat (obtain ⟨_, hne⟩ := hne)
  simp only [List.cons_append, List.nil_append] at N
  have KX := X
  revert KX
  unfold LawGoal
  conv in (occs := *) lawScope => whnf
  conv in (occs := *) (List.drop _ _) => whnf
  k_fill
  intro KX
  clear h14
  show wpAny _ _ _ _ _ _
  k_steps
  show LCg.CompRest _ _ _ _ _ _ _ _ _ _ _ _ _ _ _ _ _ _ _
  rename PenO _ _ _ => hpo1
  rename _ < (6 : Int) => hr6
  rename 0 ≤ _ => hr0
  refine rest_inv (fun i ys nx => ∃ po ns, nx = (L + 2, oD) :: (L + 1, oP) :: (pen, po) :: (ca, co) :: (cl, PySem.W.listOf (List.toArray cv) nc) :: (pl, PySem.W.listOf (List.toArray pv) np) :: (du, PySem.W.listOf (List.toArray dv) nd) :: tl ∧ PenO ca (102 + (i : Int)) po ∧ IntsAre ys (ns.map fun n : Nat => (n : Int)) ∧ ns.length = i ∧ ∀ k ∈ ns, k ≤ (octs cs).length) ⟨_, [], rfl, hpo1.mono (by k_extra "ar"), .nil, rfl, fun k h => nomatch h⟩ ?_ ?_
  · intro i v ys nx I oI C oC D m₂ h tk E' hi hv hJ9 hCo hx F N off0 ne
    refine hide fun X9 hX9 => ?_
    obtain ⟨po2, ns, rfl, hpo2, hys, hnl, hnb⟩ := hJ9
    refine hX9 ?_
    clear hX9 X9
    obtain ⟨tv, rfl⟩ := hv
    obtain ⟨q1, q2, q3⟩ := off0.mem (pen, po2) (by k_mem)
    have q1' : NeF pen I := q1
    have q2' : NeF pen C := q2
    have q3' : NeF pen D := q3
    k_steps
    rename PenO _ (102 + (i : Int) + 1) _ => hpo3
    rename Fr _ _ _ _ => Fe
    rename News _ _ _ _ => Ne
    rename _ < (((octs cs).length : Int) + 1) => hrl
    rename 0 ≤ _ => hr1
    exact LCg.CompEnd.intro Fe Ne _ (fun p hp => hp) off0 trivial ⟨_, ns ++ [_], rfl, hpo3.mono (by k_extra "ar"), ints_snoc hys hr1, by rw [List.length_append, hnl]; rfl, bnd_snoc hnb hr1 hrl⟩
  · intro ys1 nx hJ9 
    refine hide fun X9 hX9 => ?_
    obtain ⟨po2, ns, rfl, hpo2, hys, hnl, hnb⟩ := hJ9
    refine hX9 ?_
    clear hX9 X9
    have hn6 : ns.length ≤ 5 := by k_extra "ar"
    have hys1 := hys.length
    rw [List.length_map] at hys1
    dsimp only [LCg.FinE]
    intro E1 h1 tk1 Fx Nx off1x
    show wpAny _ _ _ _ _ _
    k_steps
    show LCt.CompRestT _ _ _ _ _ _ _ _ _ _ _ _ _ _ _ _ _ _ _ _
    refine restT_inv (fun i ys nx => ∃ po ns2, nx = (E1, LCg.lst ys1) :: (L + 2, oD) :: (L + 1, oP) :: (pen, po) :: (ca, co) :: (cl, PySem.W.listOf (List.toArray cv) nc) :: (pl, PySem.W.listOf (List.toArray pv) np) :: (du, PySem.W.listOf (List.toArray dv) nd) :: tl ∧ PenO ca (110 + (i : Int)) po ∧ IntsAre ys (ns2.map fun n : Nat => (n : Int)) ∧ ns2.length ≤ i ∧ ∀ k ∈ ns2, k ∈ Placed cs) ⟨_, [], rfl, hpo2.mono (by k_extra "ar"), .nil, Nat.le_refl _, fun k h => nomatch h⟩ ?_ ?_
    · intro i v ys nx I oI C oC D m₂ h tk E' hi hv hJ9 hCo hx F N off0 ne
      refine hide fun X9 hX9 => ?_
      obtain ⟨po3, ns2, rfl, hpo3, hys2, hnl2, hnb2⟩ := hJ9
      refine hX9 ?_
      clear hX9 X9
      rw [List.getElem?_toArray] at hv
      obtain ⟨k, tz, rfl, hk⟩ := ints_at hpv hv
      rw [List.getElem?_map] at hk
      obtain ⟨c, hc, rfl⟩ : ∃ c : Nat, c ∈ Placed cs ∧ k = (c : Int) := by
        cases q : (Placed cs)[i]? with
        | none => rw [q] at hk; cases hk
        | some c => rw [q] at hk; exact ⟨c, List.mem_of_getElem? q, (Option.some.inj hk).symm⟩
      obtain ⟨q1, q2, q3⟩ := off0.mem (pen, po3) (by k_mem)
      have q1' : NeF pen I := q1
      have q2' : NeF pen C := q2
      have q3' : NeF pen D := q3
      have q4' : NeF pen E1 := off1_mem off1x (pen, po2) (by k_mem)
      have hi10 : i < 10 := by rw [List.size_toArray] at hi; k_extra "ar"
      k_steps
      all_goals (
        rename Fr _ _ _ _ => Fe
        rename News _ _ _ _ => Ne
        rename PenO _ (110 + (i : Int) + 1) _ => hpo4)
      all_goals first
        | exact LCg.CompEnd.intro Fe Ne _ (fun p hp => hp) off0 (Or.inr ⟨_, by k_mem, rfl, _, rfl⟩) ⟨_, ns2 ++ [c], rfl, hpo4.mono (by k_extra "ar"), ints_nats hys2 rfl, by rw [List.length_append, List.length_singleton]; k_extra "ar", fun k hk => (List.mem_append.mp hk).elim (hnb2 k) fun q => by rw [List.mem_singleton.mp q]; exact hc⟩
        | exact LCg.CompEnd.intro Fe Ne _ (fun p hp => hp) off0 (Or.inr ⟨_, by k_mem, rfl, _, rfl⟩) ⟨_, ns2, rfl, hpo4.mono (by k_extra "ar"), hys2, by k_extra "ar", hnb2⟩
    · intro ys2 nx hJ9 
      refine hide fun X9 hX9 => ?_
      obtain ⟨po3, ns2, rfl, hpo3, hys2, hnl2, hnb2⟩ := hJ9
      refine hX9 ?_
      clear hX9 X9
      dsimp only [LCg.FinE]
      intro E2 h2 tk2 Fy Ny off2x
      have hl2 := hys2.length
      rw [List.length_map] at hl2
      show wpAny _ _ _ _ _ _
      k_dflt (refine cat_led Fy Ny (by k_mem) (by k_mem) (by rw [List.size_toArray] at hnl2; k_extra "ar") ?_)
      intro D9 h9 F9 N9 hl9
      k_lt hl9
      have hia : IntsAre (ys1 ++ ys2) ((ns ++ ns2).map fun n : Nat => (n : Int)) := by
        rw [List.map_append]
        exact IntsAre.append hys hys2
      have hla : ((ns ++ ns2).map fun n : Nat => (n : Int)).length ≤ 15 := by
        rw [List.size_toArray] at hnl2
        rw [List.length_map, List.length_append]
        k_extra "ar"
      k_steps
      show wpAny _ _ _ _ _ _
      k_dflt (refine set_led F9 N9 (by k_mem) hia (by k_extra "ar") rfl ?_)
      intro a o h10 tk10 F10 N10 hl10 hSO
      k_lt hl10
      k_steps
      show wpAny _ _ _ _ _ _
      k_dflt (refine sorted_set F10 N10 (by k_mem) hSO (by k_extra "ar") rfl ?_)
      intro U uv ms nu h11 tk11 dr F11 N11 hl11 hiu hup hmem hlen
      k_lt hl11
      have hA : AllLt U tl := by
        repeat (first | exact hl11 | (replace hl11 := hl11.2))
      have hnU : NeF (L + 2) U ∧ NeF cl U ∧ NeF pl U ∧ NeF du U := by k_extra "allne"
      refine hide fun X9 hX9 => ?_
      obtain ⟨_, _, _, _⟩ := hnU
      refine hX9 ?_
      clear hX9 X9
      clear hl11 hl10 hl9 off2x off1x
      replace N11 := cb_drop (news := (L + 2, oD) :: (cl, PySem.W.listOf (List.toArray cv) nc) :: (pl, PySem.W.listOf (List.toArray pv) np) :: (du, PySem.W.listOf (List.toArray dv) nd) :: (U, PySem.W.listOf (List.toArray uv) nu) :: tl) N11 (by k_extra "sub9")
      have hoffU : OwnOff tl [L + 2, cl, pl, du, U] := by
        have htU : ∀ p ∈ tl, @LT.lt Nat _ p.1 U := allLt_mem hA
        k_extra "off9"
      clear hoff
      k_steps
      show wpAny _ _ _ _ _ _
      rename Fr _ _ _ _ => Fe
      rename News _ _ _ _ => Ne
      obtain ⟨fo, x, dx, rfl, rfl, rfl⟩ := led_head3 Ne
      rename (_ ∧ _ ∧ _ ∧ _ ∧ _ ∧ AllLt dx _) => hAd
      rename (_ ∧ _ ∧ _ ∧ _ ∧ _ ∧ _ ∧ _ ∧ AllLt fo _) => hAf
      have h0 : ∀ k ∈ ms, 0 ≤ k := fun k hk => by
        obtain ⟨c, _, rfl⟩ := List.mem_map.mp (hmem k hk)
        k_extra "ar"
      have hks := nats_of h0
      have hC : Cuts cs (ms.map Int.toNat) := {
        few := by rw [List.length_map]; k_extra "ar"
        up := up_nats h0 hup
        bound := fun k hk => by
          obtain ⟨z, hz, rfl⟩ := List.mem_map.mp hk
          obtain ⟨c, hc, rfl⟩ := List.mem_map.mp (hmem z hz)
          rw [Int.toNat_natCast]
          rcases List.mem_append.mp hc with q | q
          · exact hnb c q
          · exact Nat.le_of_lt (placed_bound hM.all c (hnb2 c q)).2 }
      have htd : ∀ p ∈ tl, p.1 < dx := allLt_mem hAd.2.2.2.2.2
      have htf : ∀ p ∈ tl, p.1 < fo := allLt_mem hAf.2.2.2.2.2.2.2
      have htx : ∀ p ∈ tl, @LT.lt Nat _ p.1 x := fun p hp => Nat.lt_trans (htd p hp) (by k_extra "ar")
      rw [← hks] at hiu
      refine H14 _ (G.tod _ _ _) ⟨_, cs, oD, cl, pl, cv, pv, nc, np, du, dv, nd, tl, U, uv, nu, ms.map Int.toNat, x, dx, fo, _, _, _, _, ⟨t, hD⟩, hcv, hpv, hM, hC, Fe, cb_drop Ne (by (refine List.forall_mem_append.mpr ⟨?_, ?_⟩); kqd_sub; (intro p hp; simp only [List.mem_cons, hp, or_true])), by k_extra "allne", ?_, hst, hiu, rfl, rfl, rfl, rfl, rfl, rfl, _, rfl⟩
      · k_extra "off9"
end
/-! text BIn -/
section
theorem off_BIn : True := by
  w_top off
  trivial
theorem kw_BIn_0 : True := by
  k_with_none
  k_with "pick" =>
    (with_reducible (first
    | assumption | exact And.left (by assumption) | exact And.left (And.right (by assumption)) | exact And.left (And.right (And.right (by assumption)))
    | exact And.left (And.right (And.right (And.right (by assumption)))) | exact And.left (And.right (And.right (And.right (And.right (by assumption))))) | exact And.left (And.right (And.right (And.right (And.right (And.right (by assumption)))))) | exact And.right (by assumption)))
  k_with "ne1" =>
    first
    | (with_reducible assumption) | exact _root_.Ne.symm (by with_reducible assumption) | exact Nat.ne_of_lt (by k_extra "pick") | exact Nat.ne_of_gt (by k_extra "pick")
  k_with "ar" =>
    first
    | (with_reducible assumption)
    | exact room_up (by with_reducible assumption) rfl
    | ((repeat (first | (rename _ ≠ _ => hz9; clear hz9) | (rename (_ ≠ _ ∧ _) => hz9; clear hz9))); omega)
    | omega
  k_with "own k_ne" =>
    (refine neN ?_; (try dsimp only); first | k_extra "ne1" | omega)
  k_with "room" =>
    ((try dsimp only [ktrTop]); (first | k_extra "ar" | (simp only [ktrTop, Around.in1, Around.deeper, Around.mark]; k_extra "ar")))
  k_with "own call ref" =>
    (
    (with_reducible show wpAny _ _ (call (Value.ref 49) _) _ _ _);
    (refine isfig_K (by k_asm) (by k_asm) (by k_asm) (by k_asm) (by k_asm) rfl rfl rfl rfl (by k_extra "room") (by k_extra "room") ?_); intro _ _ _ _; (try dsimp only))
  k_with "own call ref" =>
    (
    (with_reducible show wpAny _ _ (call (Value.ref 56) _) _ _ _);
    (refine numfig_K (by k_asm) (by k_asm) (by k_asm) (by k_asm) (by k_asm) rfl rfl rfl rfl (by k_extra "room") (by k_extra "room") ?_); intro _ _ _ _ _; (try dsimp only))
  k_with "own exec While" =>
    (refine Stop.out ?_)
  k_with "own exec While BoolOp" =>
    (refine Stop.out ?_)
  k_with "own subscriptTail" =>
    (k_here; (with_reducible show wpAny _ _ (subscriptTail _ _ (Value.bytes (List.toArray _) _) (Value.int _ _)) _ _ _); (refine KBy.item_N (by k_extra "ar") (by k_extra "ar") (by k_extra "ar") ?_))
  k_with "own subscriptTail" =>
    (k_here; (with_reducible show wpAny _ _ (subscriptTail _ (Expr.Slice (some _) (some _) none _) (Value.bytes (List.toArray _) _) (Value.ref _)) _ _ _); (with_reducible rename Fr _ _ _ _ => F'); (with_reducible rename News _ _ _ _ => N'); (refine slice_both (s := ⟨_, _, _, _, _⟩) F' N' (by k_extra "ar") (by k_extra "ar") (by k_extra "ar") ?_); intro _ _ _ _ _)
  k_with "own subscriptTail" =>
    (k_here; (with_reducible show wpAny _ _ (subscriptTail _ (Expr.Slice none (some _) none _) (Value.bytes (List.toArray _) _) (Value.ref _)) _ _ _); (with_reducible rename Fr _ _ _ _ => F'); (with_reducible rename News _ _ _ _ => N'); (refine slice_to (s := ⟨_, _, _, _, _⟩) F' N' (by k_extra "ar") (by k_extra "ar") ?_); intro _ _ _ _ _)
  k_with "own subscriptTail" =>
    (k_here; (with_reducible show wpAny _ _ (subscriptTail _ (Expr.Slice (some _) none none _) (Value.bytes (List.toArray _) _) (Value.ref _)) _ _ _); (with_reducible rename Fr _ _ _ _ => F'); (with_reducible rename News _ _ _ _ => N'); (refine slice_from (s := ⟨_, _, _, _, _⟩) F' N' (by k_extra "ar") (by k_extra "ar") ?_); intro _ _ _ _ _)
  k_with "own call builtin:len" =>
    (k_here; (with_reducible show wpAny _ _ (call (Value.builtin "len") [Value.bytes (List.toArray _) _]) _ _ _); (refine len_B (by first | k_extra "ar" | (simp only [List.length_take, List.length_drop, cut]; k_extra "ar")) ?_); intro _ _)
  k_with "own getMethod bytes" =>
    (refine method_find ?_)
  k_with "own call builtin:bytes.find" =>
    ((refine find3 rfl ?_); intro _ _; simp only [findV, *])
  k_with "own call ref" =>
    (
    (with_reducible show wpAny _ _ (call (Value.ref 63) _) _ _ _);
    (refine lithead_Kn (by k_asm) (by k_asm) (by k_asm) (by k_asm) (by k_asm) rfl rfl rfl rfl (by k_extra "room") (by k_extra "room") (by assumption) (by k_extra "ar") (by k_extra "ar") (by k_extra "ar") ?_); intro _ _ _ _; (try dsimp only))
  k_with "own call ref" =>
    (
    (with_reducible show wpAny _ _ (call (Value.ref 63) _) _ _ _);
    (refine lithead_Ks (by k_asm) (by k_asm) (by k_asm) (by k_asm) (by k_asm) rfl rfl rfl rfl (by k_extra "room") (by k_extra "room") (by assumption) (by k_extra "ar") (by k_extra "ar") (by k_extra "ar") ?_); intro _ _ _ _ _ _; (try dsimp only))
  k_with "own binaryOp Add bytes bytes" =>
    (k_here; (with_reducible show wpAny _ _ (binaryOp Operator.Add (Value.bytes (List.toArray _) _) (Value.bytes (List.toArray _) _)) _ _ _); (refine add_B (by k_extra "ar") ?_); intro _ _)
  k_with "own k_room" =>
    (k_extra "room")
  k_with "nes" =>
    (simp only [List.forall_mem_cons, List.not_mem_nil, false_implies, implies_true, and_true] at *)
  k_with "own call ref" =>
    (
    (with_reducible show wpAny _ _ (call (Value.ref 70) _) _ _ _);
    (refine cmdend_Kn (by k_asm) (by k_asm) (by k_asm) (by k_asm) (by k_asm) rfl rfl rfl rfl (by k_extra "room") (by k_extra "room") (by assumption) (by k_extra "ar") ?_); (intro _ _ _ _ _ _ hne1); (simp only [List.forall_mem_cons, List.not_mem_nil, false_implies, implies_true, and_true] at hne1); (try dsimp only))
  k_with "own call ref" =>
    (
    (with_reducible show wpAny _ _ (call (Value.ref 70) _) _ _ _);
    (refine cmdend_Ks (by k_asm) (by k_asm) (by k_asm) (by k_asm) (by k_asm) rfl rfl rfl rfl (by k_extra "room") (by k_extra "room") (by assumption) (by k_extra "ar") ?_); (intro _ _ _ _ _ _ _ _ hne1 hne2); (simp only [List.forall_mem_cons, List.not_mem_nil, false_implies, implies_true, and_true] at hne1 hne2); (try dsimp only))
  k_with "own call builtin:bytes.find" =>
    ((refine find2 ?_); intro _ _; simp only [findV, *])
  k_with "small" =>
    (first | k_extra "ar" | (simp only [List.length_append, List.length_cons, List.length_nil, List.length_map]; k_extra "ar"))
  k_with "own call builtin:len" =>
    (k_here; (with_reducible show wpAny _ _ (call (Value.builtin "len") [Value.ref _]) _ _ _); (k_dflt (refine len_led (by k_asm) (by k_mem) (by k_extra "small") ?_)); intro _ _; (try simp only [List.length_append, List.length_cons, List.length_nil, List.length_map]))
  k_with "own call builtin:list.append" =>
    (k_here; (with_reducible show wpAny _ _ (call (Value.builtin "list.append") [Value.ref _, _]) _ _ _); (k_dflt (refine append_led (by k_asm) (by k_asm) (by k_upd) (by k_extra "small") ?_)); intro _ _ hnN; (try dsimp only at hnN))
  k_with "own call ref" =>
    (
    (with_reducible show wpAny _ _ (call (Value.ref 119) _) _ _ _);
    (k_dflt (refine next_Kn (by k_asm) (by k_asm) (by k_asm) (by k_asm) (by k_asm) rfl rfl rfl rfl (by k_extra "room") (by k_extra "room") (by k_mem) (by k_updF) (by assumption) (by assumption) (by k_extra "ar") ?_)); (intro _ _ _ _ _ _ _ hnN); (try dsimp only at hnN); (try dsimp only))
  k_with "own call ref" =>
    (
    (with_reducible show wpAny _ _ (call (Value.ref 119) _) _ _ _);
    (k_dflt (refine next_Ks (by k_asm) (by k_asm) (by k_asm) (by k_asm) (by k_asm) rfl rfl rfl rfl (by k_extra "room") (by k_extra "room") (by k_mem) (by k_updF) (by assumption) (by assumption) (by k_extra "ar") ?_)); (intro _ _ _ _ _ _ _ _ _ _ hnN hne1); (try dsimp only at hnN); (simp only [List.forall_mem_cons, List.not_mem_nil, false_implies, implies_true, and_true] at hne1); (try dsimp only))
  k_with "own exec While Compare cons nil" =>
    (refine Stop.out ?_)
  k_with "own eval ListComp" =>
    (k_here; lcg_look; k_dflt (refine LCg.ListComp_U (F₀ := by k_asm) (by with_unfolding_all rfl) (by decide) (by rfl) (by decide) (by rfl) ?_))
  k_with "own exec Assign cons ListComp" =>
    (k_here; lcg_look; k_dflt (refine LCg.Assign_ListComp_U (F₀ := by k_asm) (by rfl) (by with_unfolding_all rfl) (by with_unfolding_all rfl) (by decide) (by rfl) (by decide) (by rfl) (by rfl) (by rfl) ?_))
  k_with "own eval ListComp" =>
    (k_here; lcf_look; k_dflt (refine LCg.ListComp_U (F₀ := by k_asm) (by with_unfolding_all rfl) (by decide) (by rfl) (by decide) (by rfl) ?_))
  k_with "own exec Assign cons ListComp" =>
    (k_here; lcf_look; k_dflt (refine LCg.Assign_ListComp_U (F₀ := by k_asm) (by rfl) (by with_unfolding_all rfl) (by with_unfolding_all rfl) (by decide) (by rfl) (by decide) (by rfl) (by rfl) (by rfl) ?_))
  k_with "own eval ListComp" =>
    (k_here; lct_look; k_dflt (refine LCt.ListComp_T (F₀ := by k_asm) (by with_unfolding_all rfl) (by decide) (by rfl) (by decide) (by rfl) ?_))
  k_with "own exec Assign cons ListComp" =>
    (k_here; lct_look; k_dflt (refine LCt.Assign_ListComp_T (F₀ := by k_asm) (by rfl) (by with_unfolding_all rfl) (by with_unfolding_all rfl) (by decide) (by rfl) (by decide) (by rfl) (by rfl) (by rfl) ?_))
  k_with "own CompSrc" =>
    (k_here; k_dflt (first
    | (refine LCg.CompSrc.ledger (by rfl) (by k_asm) (by k_asm) (by k_mem) (by rw [List.size_toArray, PySem.sizeLine_eq]; (first | omega | (simp only [List.length_append, List.length_cons, List.length_nil, List.length_map]; omega))) ?_; intro g'; refine Stop.out ?_)
    | (refine LCg.CompSrc.base (by rfl) (by k_asm) (by k_asm) (by assumption) (by rw [List.size_toArray, PySem.sizeLine_eq]; (first | omega | (simp only [List.length_append, List.length_cons, List.length_nil, List.length_map]; omega))) ?_; intro g'; refine Stop.out ?_)
    | (refine LCg.CompSrc.range (by rfl) (by k_asm) (by k_asm) (by assumption) (small_one (by omega) (by omega) (by omega) (by omega)) (rangeSize_nat _ _) (by rw [PySem.sizeLine_eq]; omega) ?_; intro g'; refine Stop.out ?_)))
  k_with "own CompSrcT" =>
    (k_here; k_dflt (first
    | (refine LCt.CompSrcT.ledger (by rfl) (by k_asm) (by k_asm) (by k_mem) (by rw [List.size_toArray, PySem.sizeLine_eq]; (first | omega | (simp only [List.length_append, List.length_cons, List.length_nil, List.length_map]; omega))) ?_; intro g'; refine Stop.out ?_)
    | (refine LCt.CompSrcT.base (by rfl) (by k_asm) (by k_asm) (by assumption) (by rw [List.size_toArray, PySem.sizeLine_eq]; (first | omega | (simp only [List.length_append, List.length_cons, List.length_nil, List.length_map]; omega))) ?_; intro g'; refine Stop.out ?_)
    | (refine LCt.CompSrcT.range (by rfl) (by k_asm) (by k_asm) (by assumption) (small_one (by omega) (by omega) (by omega) (by omega)) (rangeSize_nat _ _) (by rw [PySem.sizeLine_eq]; omega) ?_; intro g'; refine Stop.out ?_)))
  k_with "own exec For Name Call cons nil" =>
    (refine Stop.out ?_)
  k_with "own call ref" =>
    (
    (with_reducible show wpAny _ _ (call (Value.ref 138) _) _ _ _);
    (k_dflt (refine draw_Kb (by k_asm) (by k_asm) (by k_asm) (by k_asm) (by k_asm) rfl rfl rfl rfl (by k_extra "room") (by k_extra "room") (by k_updF) (by assumption) (by assumption) (by k_extra "ar") (by k_extra "ar") (by k_extra "ar") ?_)); (intro _ _ _ _ _ _ _ hpO hnF hnN); (try dsimp only at hnN); (try dsimp only))
  k_with "own call type:range" =>
    (k_here; (k_dflt (refine range1_rows (by k_asm) (by k_asm) ?_)); intro _ _ _ _ _ _ _ hnN _; (try dsimp only))
  k_with "own subscriptTail" =>
    ((with_reducible show wpAny _ _ (subscriptTail _ _ (Value.ref _) (Value.int _ _)) _ _ _); (k_dflt (refine item_bytes (by k_asm) (by k_mem) (by repeat (first | exact BytesIn.nil | apply BytesIn.cons)) (by assumption) (by (simp only [List.length_cons, List.length_nil]; k_extra "ar")) (by k_extra "ar") ?_)); intro _ _ hbm; have hlb := len7 hbm rfl)
  k_with "own getMethod str" =>
    (refine method_enc ?_)
  k_with "own getMethod bytes" =>
    (refine method_bjoin ?_)
  k_with "own call builtin:str.encode" =>
    (k_dflt (refine enc_K (by k_extra "ar") ?_); intro _ _)
  k_with "own call builtin:bytes.join" =>
    (k_here; (k_dflt (refine join_led (by k_asm) (by k_mem) (by assumption) (by assumption) (by assumption) ?_)); intro _ _)
  k_with "own binaryOp Add bytes bytes" =>
    ((with_reducible show wpAny _ _ (binaryOp _ (Value.bytes (List.toArray _) _) (Value.bytes (List.toArray _) _)) _ _ _); (k_dflt (refine add_B (by first | k_extra "ar" | (simp only [List.length_cons, List.length_nil, List.length_append]; k_extra "ar")) ?_)); intro _ _)
  k_with "own k_ne" =>
    (refine neN ?_; (try dsimp only); first | exact NeF.ne (by with_reducible assumption) | exact NeF.ne' (by with_reducible assumption) | k_extra "ar")
  k_with "allne" =>
    ((try simp only [AllNe, List.pairwise_cons, List.mem_cons, List.not_mem_nil, or_false, forall_eq_or_imp, forall_eq, List.Pairwise.nil, and_true, false_implies, implies_true]); repeat' (first | apply And.intro | (show @_root_.Ne Nat _ _; first | exact NeF.ne (by assumption) | exact NeF.ne' (by assumption) | k_extra "ar")))
  k_with "own k_all" =>
    (refine List.forall_mem_append.mpr ⟨?_, ?_⟩ <;> k_all)
  k_with "leaf" =>
    (intro p hp; iterate 24 try (with_reducible (first | exact hp | exact List.mem_append_left _ hp | apply List.mem_append_right | apply in_tl)))
  k_with "elem" =>
    (iterate 24 try (with_reducible (first | exact List.mem_cons_self | apply in_tl | apply List.mem_append_right)))
  k_with "sub9" =>
    (repeat' (first | exact sub_nil | refine sub_cons (by first | (k_extra "elem"; done) | k_mem) ?_ | (k_extra "leaf"; done) | refine sub_app ?_ ?_))
  k_with "mm" =>
    (iterate 14 (try (first | exact List.mem_cons_self | apply in_tl)))
  k_with "off9" =>
    (repeat' (first | exact off_nil | refine off_cons (by first | exact off_lt (by assumption) | exact OwnOff.ne (by assumption) (by k_extra "mm")) ?_))
  trivial
open Builtin SeqRoads2
section
variable {prog : Program} {w : World} {A : Around} {E : Value → Shared → Prop} {s : Shared} {Q : Value → Shared → Prop} {b : Array UInt8} {t u : Tok} {k : Int} {r : Bool}
theorem meets_bin (e : «bytes.__contains__» ⟨[.bytes b t, .int k u], []⟩ = ret (.bool r)) : Meets («bytes.__contains__» ⟨[.bytes b t, .int k u], []⟩) (fun _ R s => R (.ok (.ret (.bool r))) s) :=
  .of_wp fun prog w A R s h => by
    rw [e]
    exact wpAny_pure ⟨_, rfl, h⟩
theorem notIn_B (e : «bytes.__contains__» ⟨[.bytes b t, .int k u], []⟩ = ret (.bool r)) (h : Q (.bool (!r)) s) : wpAny (model prog w) A (compareOp .NotIn (.int k u) (.bytes b t)) Q E s :=
  notIn_meets (typeIs_bytes _ _ _) FB.slot_bytes_contains FB.entry_bytes_contains (FB.args_bytes_contains_2 _ _) (meets_bin e) ⟨_, rfl, h⟩
theorem ne_bytesF {b c : Array UInt8} (e : (b.toList != c.toList) = false) (h : Q (.bool false) s) : wpAny (model prog w) A (compareOp .NotEq (.bytes b t) (.bytes c u)) Q E s := ne_bytes (by rw [e]; exact h)
end
end
/-! text TagN -/
section
theorem off_TagN : True := by
  w_top off
  trivial
theorem kw_TagN_1 : True := by
  k_with "own compareOp NotIn" =>
    (k_dflt (first | refine notIn_B (r := false) (by kernel_rfl!) ?_ | refine notIn_B (r := true) (by kernel_rfl!) ?_))
  k_with "own compareOp NotIn int bytes" =>
    (k_dflt (first | refine notIn_B (r := false) (by kernel_rfl!) ?_ | refine notIn_B (r := true) (by kernel_rfl!) ?_))
  trivial
theorem istag_32 {w : World} {A : Around} {s : Shared} {base : Heap} {env : Env} {outer : List Env} {A₀ : Around} {h₀ : Heap} {L : Addr} {m : Str → Option Value} {mean : ExcName → Option Value} {mg mb : Str → Option Value}  {t : Tok} {Q E : Value → Shared → Prop}
    (C : Ctx w A s.heap [] base env outer A₀ h₀ L m mean mg mb) (hd : A.depth + 12 < recursionLimit) (hu : A.units + 80 < cLine)
    (h : ∀ h' tk', Kept [] s.heap h' → Q (.bool false) { s with heap := h', toks := tk' }) :
    wpAny (Mm w) A (call (.ref 42) [.int 32 t]) Q E s := by
  have KX : (Mine.hd.heap_39 w.params).In h₀ := C.X
  revert KX
  delta Mm
  k_fill
  intro KX
  refine enter C (news := []) (binds := [(Str.ofString "code", .int 32 t)])
    (fun p hp => nomatch hp) rfl (by delta Km; k_is) (by delta Km; k_is) (by k_extra "ar") (BindsTo.of_eq rfl) (locs rfl) (by decide) rfl rfl rfl ?_
  delta Km TopM Mm
  intro g L' h₁ gd outer' hg F N B' X T
  have hdep : A.depth + 1 + 11 < recursionLimit := by k_extra "ar"
  have hun : A.units + 3 + 70 < cLine := by k_extra "ar"
  have fin : ∀ b h' tk m', b = false → Fr g L' h' m' → Done g [] s.heap Q (.bool b) { s with heap := h', toks := tk } := fun b h' tk m' e F' => ⟨_, _, F', fun kk => e ▸ h h' tk kk⟩
  clear hd hu C KX h
  try dsimp only
  show wpAny _ _ _ _ _ _
  k_fold
  k_steps
  all_goals (
    rename Fr _ _ _ _ => Fe
    exact fin _ _ _ _ (rfl) Fe)
theorem istag_40 {w : World} {A : Around} {s : Shared} {base : Heap} {env : Env} {outer : List Env} {A₀ : Around} {h₀ : Heap} {L : Addr} {m : Str → Option Value} {mean : ExcName → Option Value} {mg mb : Str → Option Value}  {t : Tok} {Q E : Value → Shared → Prop}
    (C : Ctx w A s.heap [] base env outer A₀ h₀ L m mean mg mb) (hd : A.depth + 12 < recursionLimit) (hu : A.units + 80 < cLine)
    (h : ∀ h' tk', Kept [] s.heap h' → Q (.bool false) { s with heap := h', toks := tk' }) :
    wpAny (Mm w) A (call (.ref 42) [.int 40 t]) Q E s := by
  have KX : (Mine.hd.heap_39 w.params).In h₀ := C.X
  revert KX
  delta Mm
  k_fill
  intro KX
  refine enter C (news := []) (binds := [(Str.ofString "code", .int 40 t)])
    (fun p hp => nomatch hp) rfl (by delta Km; k_is) (by delta Km; k_is) (by k_extra "ar") (BindsTo.of_eq rfl) (locs rfl) (by decide) rfl rfl rfl ?_
  delta Km TopM Mm
  intro g L' h₁ gd outer' hg F N B' X T
  have hdep : A.depth + 1 + 11 < recursionLimit := by k_extra "ar"
  have hun : A.units + 3 + 70 < cLine := by k_extra "ar"
  have fin : ∀ b h' tk m', b = false → Fr g L' h' m' → Done g [] s.heap Q (.bool b) { s with heap := h', toks := tk } := fun b h' tk m' e F' => ⟨_, _, F', fun kk => e ▸ h h' tk kk⟩
  clear hd hu C KX h
  try dsimp only
  show wpAny _ _ _ _ _ _
  k_fold
  k_steps
  all_goals (
    rename Fr _ _ _ _ => Fe
    exact fin _ _ _ _ (rfl) Fe)
theorem notIn_B' {prog : Program} {w : World} {A : Around} {E : Value → Shared → Prop} {s : Shared} {Q : Value → Shared → Prop} {b : Array UInt8} {t u : Tok} {k : Int} (e : ∀ t u, Builtin.«bytes.__contains__» ⟨[.bytes b t, .int k u], []⟩ = ret (.bool false)) (h : Q (.bool true) s) : wpAny (model prog w) A (compareOp .NotIn (.int k u) (.bytes b t)) Q E s :=
  notIn_B (e t u) h
theorem kw_TagN_2 : True := by
  k_with "own compareOp NotIn int bytes" =>
    (k_dflt (refine notIn_B' (by assumption) ?_))
  trivial
theorem istag_y {w : World} {A : Around} {s : Shared} {base : Heap} {env : Env} {outer : List Env} {A₀ : Around} {h₀ : Heap} {L : Addr} {m : Str → Option Value} {mean : ExcName → Option Value} {mg mb : Str → Option Value} {c : Int} (h33 : 33 ≤ c) (h126 : c ≤ 126) (h93 : c ≠ 93) (h43 : c ≠ 43) (hin : ∀ t u, Builtin.«bytes.__contains__» ⟨[.bytes (List.toArray [40, 41, 123, 37, 42, 34, 92, 93]) t, .int c u], []⟩ = ret (.bool false)) {t : Tok} {Q E : Value → Shared → Prop}
    (C : Ctx w A s.heap [] base env outer A₀ h₀ L m mean mg mb) (hd : A.depth + 12 < recursionLimit) (hu : A.units + 80 < cLine)
    (h : ∀ h' tk', Kept [] s.heap h' → Q (.bool true) { s with heap := h', toks := tk' }) :
    wpAny (Mm w) A (call (.ref 42) [.int c t]) Q E s := by
  have KX : (Mine.hd.heap_39 w.params).In h₀ := C.X
  revert KX
  delta Mm
  k_fill
  intro KX
  refine enter C (news := []) (binds := [(Str.ofString "code", .int c t)])
    (fun p hp => nomatch hp) rfl (by delta Km; k_is) (by delta Km; k_is) (by k_extra "ar") (BindsTo.of_eq rfl) (locs rfl) (by decide) rfl rfl rfl ?_
  delta Km TopM Mm
  intro g L' h₁ gd outer' hg F N B' X T
  have hdep : A.depth + 1 + 11 < recursionLimit := by k_extra "ar"
  have hun : A.units + 3 + 70 < cLine := by k_extra "ar"
  have fin : ∀ b h' tk m', b = true → Fr g L' h' m' → Done g [] s.heap Q (.bool b) { s with heap := h', toks := tk } := fun b h' tk m' e F' => ⟨_, _, F', fun kk => e ▸ h h' tk kk⟩
  clear hd hu C KX h
  try dsimp only
  show wpAny _ _ _ _ _ _
  k_fold
  k_steps
  all_goals (
    rename Fr _ _ _ _ => Fe
    exact fin _ _ _ _ (by simp [h43]) Fe)
theorem istagy_K {w : World} {A : Around} {s : Shared} {base : Heap} {env : Env} {outer : List Env} {A₀ : Around} {h₀ : Heap} {L : Addr} {m : Str → Option Value} {mean : ExcName → Option Value} {mg mb : Str → Option Value} {news : List (Addr × Obj)} {c : Int} (h33 : 33 ≤ c) (h126 : c ≤ 126) (h93 : c ≠ 93) (h43 : c ≠ 43) (hin : ∀ t u, Builtin.«bytes.__contains__» ⟨[.bytes (List.toArray [40, 41, 123, 37, 42, 34, 92, 93]) t, .int c u], []⟩ = ret (.bool false)) {t : Tok} {Q E : Value → Shared → Prop}
    (F : Fr h₀ L s.heap m) (N : News h₀ L s.heap news) (B : Below A₀ base outer h₀) (X : (Mine.hd.heap_39 w.params).In h₀) (T : Top Mine.hd.view_39 (looseW Mine.hd.view_39 []) mean mg mb h₀) (hA : A.frames = some (env :: outer)) (hf : env.frame = some L) (hk : env.scope.kind = .function) (hh : A.handled = none)
    (hd : A.depth + 12 < recursionLimit) (hu : A.units + 80 < cLine)
    (h : ∀ h' tk', Fr h₀ L h' m → News h₀ L h' news → Q (.bool true) { s with heap := h', toks := tk' }) :
    wpAny (model PySem.Challenge.rw_no0353_01.row.prog w) A (call (.ref 42) [.int c t]) Q E s :=
  have C : Ctx w A s.heap [] base env outer A₀ h₀ L m mean mg mb := ⟨B, F, X, T, hA, hf, hk, hh, fun _ ha => nomatch ha⟩
  istag_y h33 h126 h93 h43 hin C hd hu fun h' tk' kk => h h' tk' (C.fr kk) (news_kept N kk fun _ _ q => nomatch q)
theorem istag32_K {w : World} {A : Around} {s : Shared} {base : Heap} {env : Env} {outer : List Env} {A₀ : Around} {h₀ : Heap} {L : Addr} {m : Str → Option Value} {mean : ExcName → Option Value} {mg mb : Str → Option Value} {news : List (Addr × Obj)}  {t : Tok} {Q E : Value → Shared → Prop}
    (F : Fr h₀ L s.heap m) (N : News h₀ L s.heap news) (B : Below A₀ base outer h₀) (X : (Mine.hd.heap_39 w.params).In h₀) (T : Top Mine.hd.view_39 (looseW Mine.hd.view_39 []) mean mg mb h₀) (hA : A.frames = some (env :: outer)) (hf : env.frame = some L) (hk : env.scope.kind = .function) (hh : A.handled = none)
    (hd : A.depth + 12 < recursionLimit) (hu : A.units + 80 < cLine)
    (h : ∀ h' tk', Fr h₀ L h' m → News h₀ L h' news → Q (.bool false) { s with heap := h', toks := tk' }) :
    wpAny (model PySem.Challenge.rw_no0353_01.row.prog w) A (call (.ref 42) [.int 32 t]) Q E s :=
  have C : Ctx w A s.heap [] base env outer A₀ h₀ L m mean mg mb := ⟨B, F, X, T, hA, hf, hk, hh, fun _ ha => nomatch ha⟩
  istag_32  C hd hu fun h' tk' kk => h h' tk' (C.fr kk) (news_kept N kk fun _ _ q => nomatch q)
theorem istag40_K {w : World} {A : Around} {s : Shared} {base : Heap} {env : Env} {outer : List Env} {A₀ : Around} {h₀ : Heap} {L : Addr} {m : Str → Option Value} {mean : ExcName → Option Value} {mg mb : Str → Option Value} {news : List (Addr × Obj)}  {t : Tok} {Q E : Value → Shared → Prop}
    (F : Fr h₀ L s.heap m) (N : News h₀ L s.heap news) (B : Below A₀ base outer h₀) (X : (Mine.hd.heap_39 w.params).In h₀) (T : Top Mine.hd.view_39 (looseW Mine.hd.view_39 []) mean mg mb h₀) (hA : A.frames = some (env :: outer)) (hf : env.frame = some L) (hk : env.scope.kind = .function) (hh : A.handled = none)
    (hd : A.depth + 12 < recursionLimit) (hu : A.units + 80 < cLine)
    (h : ∀ h' tk', Fr h₀ L h' m → News h₀ L h' news → Q (.bool false) { s with heap := h', toks := tk' }) :
    wpAny (model PySem.Challenge.rw_no0353_01.row.prog w) A (call (.ref 42) [.int 40 t]) Q E s :=
  have C : Ctx w A s.heap [] base env outer A₀ h₀ L m mean mg mb := ⟨B, F, X, T, hA, hf, hk, hh, fun _ ha => nomatch ha⟩
  istag_40  C hd hu fun h' tk' kk => h h' tk' (C.fr kk) (news_kept N kk fun _ _ q => nomatch q)
theorem kw_TagN_3 : True := by
  k_with "own call ref" =>
    (
    (with_reducible show wpAny _ _ (call (Value.ref 42) [Value.int _ _]) _ _ _);
    (k_dflt (first
    | refine istag32_K (by k_asm) (by k_asm) (by k_asm) (by k_asm) (by k_asm) rfl rfl rfl rfl (by k_extra "room") (by k_extra "room") ?_
    | refine istag40_K (by k_asm) (by k_asm) (by k_asm) (by k_asm) (by k_asm) rfl rfl rfl rfl (by k_extra "room") (by k_extra "room") ?_
    | refine istagy_K (by first | decide | assumption) (by first | decide | assumption) (by first | decide | assumption) (by first | decide | assumption) (fun _ _ => by first | exact hin _ _ | kernel_rfl!) (by k_asm) (by k_asm) (by k_asm) (by k_asm) (by k_asm) rfl rfl rfl rfl (by k_extra "room") (by k_extra "room") ?_));
    intro _ _ _ _; (try dsimp only))
  trivial
theorem bInts3 (d : UInt8) : KBw.bInts (List.toArray [116, d, 32]) = [116, (d.toNat : Int), 32] := by
  simp [KBw.bInts]
noncomputable def tagOf (d : UInt8) : Str := ⟨#[116, d.toNat]⟩
theorem kw_TagN_4 : True := by
  k_with "own pyIter bytes" =>
    ((with_reducible show wpAny _ _ (pyIter (Value.bytes (List.toArray [116, d, 32]) _)) _ _ _); (rename Fr _ _ _ _ => lF'); (rename News _ _ _ _ => lN'); (with_unfolding_all refine iter_bytesUnr (l := [116, (d.toNat : Int), 32]) (by rfl) lF' lN' (bInts3 d) ?_); clear lF' lN'; intro i' l1; (try k_lt l1))
  trivial
theorem tagd {w : World} {A : Around} {s : Shared} {base : Heap} {env : Env} {outer : List Env} {A₀ : Around} {h₀ : Heap} {L : Addr} {m : Str → Option Value} {mean : ExcName → Option Value} {mg mb : Str → Option Value} {d : UInt8} {t : Tok} {Q E : Value → Shared → Prop} (h33 : 33 ≤ (d.toNat : Int)) (h126 : (d.toNat : Int) ≤ 126) (h93 : (d.toNat : Int) ≠ 93) (h43 : (d.toNat : Int) ≠ 43) (hin : ∀ t u, Builtin.«bytes.__contains__» ⟨[.bytes (List.toArray [40, 41, 123, 37, 42, 34, 92, 93]) t, .int (d.toNat : Int) u], []⟩ = ret (.bool false))
    (C : Ctx w A s.heap [] base env outer A₀ h₀ L m mean mg mb) (hd : A.depth + 15 < recursionLimit) (hu : A.units + 100 < cLine)
    (h : ∀ t h' tk', Kept [] s.heap h' → Q (.str (tagOf d) t) { s with heap := h', toks := tk' }) :
    wpAny (Mm w) A (call (.ref 77) [.bytes (List.toArray [116, d, 32]) t]) Q E s := by
  have KX : (Mine.hd.heap_39 w.params).In h₀ := C.X
  revert KX
  delta Mm
  k_fill
  intro KX
  refine enter C (news := []) (binds := [(Str.ofString "octets", .bytes (List.toArray [116, d, 32]) t)])
    (fun p hp => nomatch hp) rfl (by delta Km; k_is) (by delta Km; k_is) (by k_extra "ar") (BindsTo.of_eq rfl) (locs rfl) (by decide) rfl rfl rfl ?_
  delta Km TopM Mm
  intro g L' h₁ gd outer' hg F N B' X T
  have hdep : A.depth + 1 + 14 < recursionLimit := by k_extra "ar"
  have hun : A.units + 3 + 90 < cLine := by k_extra "ar"
  have fin : ∀ t h' tk m', Fr g L' h' m' → Done g [] s.heap Q (.str (tagOf d) t) { s with heap := h', toks := tk } := fun t h' tk m' F' => ⟨_, _, F', fun kk => h t h' tk kk⟩
  clear hd hu C KX h
  try dsimp only
  show wpAny _ _ _ _ _ _
  k_fold
  k_steps
  rename News _ _ _ _ => Ne
  rename Fr _ _ _ _ => Fe
  refine join_listW (ys := [_, _]) (News.isList Ne (by k_mem)) (by repeat constructor) (by decide) (by exact Nat.le_of_ble_eq_true rfl) ?_
  intro t' k
  rw [show Txt.join (Str.ofString "") [⟨#[Int.toNat 116]⟩, ⟨#[((d.toNat : Int)).toNat]⟩] = tagOf d from by first | rfl | (simp [tagOf, Txt.join])]
  first
    | exact fin _ _ _ _ Fe
    | (k_steps; exact fin _ _ _ _ Fe)
theorem tag0 {w : World} {A : Around} {s : Shared} {base : Heap} {env : Env} {outer : List Env} {A₀ : Around} {h₀ : Heap} {L : Addr} {m : Str → Option Value} {mean : ExcName → Option Value} {mg mb : Str → Option Value} {t : Tok} {Q E : Value → Shared → Prop}
    (C : Ctx w A s.heap [] base env outer A₀ h₀ L m mean mg mb) (hd : A.depth + 15 < recursionLimit) (hu : A.units + 100 < cLine)
    (h : ∀ t h' tk', Kept [] s.heap h' → Q (.str (Str.ofString "t0") t) { s with heap := h', toks := tk' }) :
    wpAny (Mm w) A (call (.ref 77) [.bytes (List.toArray [116, 48, 32]) t]) Q E s :=
  tagd (d := 48) (by decide) (by decide) (by decide) (by decide) (fun _ _ => by kernel_rfl!) C hd hu fun t h' tk' kk => by
    rw [show tagOf 48 = Str.ofString "t0" from by decide +kernel]
    exact h t h' tk' kk
theorem tag1 {w : World} {A : Around} {s : Shared} {base : Heap} {env : Env} {outer : List Env} {A₀ : Around} {h₀ : Heap} {L : Addr} {m : Str → Option Value} {mean : ExcName → Option Value} {mg mb : Str → Option Value} {t : Tok} {Q E : Value → Shared → Prop}
    (C : Ctx w A s.heap [] base env outer A₀ h₀ L m mean mg mb) (hd : A.depth + 15 < recursionLimit) (hu : A.units + 100 < cLine)
    (h : ∀ t h' tk', Kept [] s.heap h' → Q (.str (Str.ofString "t1") t) { s with heap := h', toks := tk' }) :
    wpAny (Mm w) A (call (.ref 77) [.bytes (List.toArray [116, 49, 32]) t]) Q E s :=
  tagd (d := 49) (by decide) (by decide) (by decide) (by decide) (fun _ _ => by kernel_rfl!) C hd hu fun t h' tk' kk => by
    rw [show tagOf 49 = Str.ofString "t1" from by decide +kernel]
    exact h t h' tk' kk
theorem tag2 {w : World} {A : Around} {s : Shared} {base : Heap} {env : Env} {outer : List Env} {A₀ : Around} {h₀ : Heap} {L : Addr} {m : Str → Option Value} {mean : ExcName → Option Value} {mg mb : Str → Option Value} {t : Tok} {Q E : Value → Shared → Prop}
    (C : Ctx w A s.heap [] base env outer A₀ h₀ L m mean mg mb) (hd : A.depth + 15 < recursionLimit) (hu : A.units + 100 < cLine)
    (h : ∀ t h' tk', Kept [] s.heap h' → Q (.str (Str.ofString "t2") t) { s with heap := h', toks := tk' }) :
    wpAny (Mm w) A (call (.ref 77) [.bytes (List.toArray [116, 50, 32]) t]) Q E s :=
  tagd (d := 50) (by decide) (by decide) (by decide) (by decide) (fun _ _ => by kernel_rfl!) C hd hu fun t h' tk' kk => by
    rw [show tagOf 50 = Str.ofString "t2" from by decide +kernel]
    exact h t h' tk' kk
theorem tag3 {w : World} {A : Around} {s : Shared} {base : Heap} {env : Env} {outer : List Env} {A₀ : Around} {h₀ : Heap} {L : Addr} {m : Str → Option Value} {mean : ExcName → Option Value} {mg mb : Str → Option Value} {t : Tok} {Q E : Value → Shared → Prop}
    (C : Ctx w A s.heap [] base env outer A₀ h₀ L m mean mg mb) (hd : A.depth + 15 < recursionLimit) (hu : A.units + 100 < cLine)
    (h : ∀ t h' tk', Kept [] s.heap h' → Q (.str (Str.ofString "t3") t) { s with heap := h', toks := tk' }) :
    wpAny (Mm w) A (call (.ref 77) [.bytes (List.toArray [116, 51, 32]) t]) Q E s :=
  tagd (d := 51) (by decide) (by decide) (by decide) (by decide) (fun _ _ => by kernel_rfl!) C hd hu fun t h' tk' kk => by
    rw [show tagOf 51 = Str.ofString "t3" from by decide +kernel]
    exact h t h' tk' kk
theorem tag4 {w : World} {A : Around} {s : Shared} {base : Heap} {env : Env} {outer : List Env} {A₀ : Around} {h₀ : Heap} {L : Addr} {m : Str → Option Value} {mean : ExcName → Option Value} {mg mb : Str → Option Value} {t : Tok} {Q E : Value → Shared → Prop}
    (C : Ctx w A s.heap [] base env outer A₀ h₀ L m mean mg mb) (hd : A.depth + 15 < recursionLimit) (hu : A.units + 100 < cLine)
    (h : ∀ t h' tk', Kept [] s.heap h' → Q (.str (Str.ofString "t4") t) { s with heap := h', toks := tk' }) :
    wpAny (Mm w) A (call (.ref 77) [.bytes (List.toArray [116, 52, 32]) t]) Q E s :=
  tagd (d := 52) (by decide) (by decide) (by decide) (by decide) (fun _ _ => by kernel_rfl!) C hd hu fun t h' tk' kk => by
    rw [show tagOf 52 = Str.ofString "t4" from by decide +kernel]
    exact h t h' tk' kk
theorem tagx {w : World} {A : Around} {s : Shared} {base : Heap} {env : Env} {outer : List Env} {A₀ : Around} {h₀ : Heap} {L : Addr} {m : Str → Option Value} {mean : ExcName → Option Value} {mg mb : Str → Option Value} {t : Tok} {Q E : Value → Shared → Prop}
    (C : Ctx w A s.heap [] base env outer A₀ h₀ L m mean mg mb) (hd : A.depth + 15 < recursionLimit) (hu : A.units + 100 < cLine)
    (h : ∀ t h' tk', Kept [] s.heap h' → Q (.str (Str.ofString "*") t) { s with heap := h', toks := tk' }) :
    wpAny (Mm w) A (call (.ref 77) [.bytes (List.toArray [40, 120]) t]) Q E s := by
  have KX : (Mine.hd.heap_39 w.params).In h₀ := C.X
  revert KX
  delta Mm
  k_fill
  intro KX
  refine enter C (news := []) (binds := [(Str.ofString "octets", .bytes (List.toArray [40, 120]) t)])
    (fun p hp => nomatch hp) rfl (by delta Km; k_is) (by delta Km; k_is) (by k_extra "ar") (BindsTo.of_eq rfl) (locs rfl) (by decide) rfl rfl rfl ?_
  delta Km TopM Mm
  intro g L' h₁ gd outer' hg F N B' X T
  have hdep : A.depth + 1 + 14 < recursionLimit := by k_extra "ar"
  have hun : A.units + 3 + 90 < cLine := by k_extra "ar"
  have fin : ∀ t h' tk m', Fr g L' h' m' → Done g [] s.heap Q (.str (Str.ofString "*") t) { s with heap := h', toks := tk } := fun t h' tk m' F' => ⟨_, _, F', fun kk => h t h' tk kk⟩
  clear hd hu C KX h
  try dsimp only
  show wpAny _ _ _ _ _ _
  k_fold
  k_steps
  all_goals (
    rename Fr _ _ _ _ => Fe
    exact fin _ _ _ _ Fe)
end
/-! text TagK -/
section
theorem off_TagK : True := by
  w_top off
  trivial
theorem kw_TagK_0 : True := by
  k_with_none
  k_with "pick" =>
    (with_reducible (first
    | assumption | exact And.left (by assumption) | exact And.left (And.right (by assumption)) | exact And.left (And.right (And.right (by assumption)))
    | exact And.left (And.right (And.right (And.right (by assumption)))) | exact And.left (And.right (And.right (And.right (And.right (by assumption))))) | exact And.left (And.right (And.right (And.right (And.right (And.right (by assumption)))))) | exact And.right (by assumption)))
  k_with "ne1" =>
    first
    | (with_reducible assumption) | exact _root_.Ne.symm (by with_reducible assumption) | exact Nat.ne_of_lt (by k_extra "pick") | exact Nat.ne_of_gt (by k_extra "pick")
  k_with "ar" =>
    first
    | (with_reducible assumption)
    | exact room_up (by with_reducible assumption) rfl
    | ((repeat (first | (rename _ ≠ _ => hz9; clear hz9) | (rename (_ ≠ _ ∧ _) => hz9; clear hz9))); omega)
    | omega
  k_with "own k_ne" =>
    (refine neN ?_; (try dsimp only); first | k_extra "ne1" | omega)
  k_with "room" =>
    ((try dsimp only [ktrTop]); (first | k_extra "ar" | (simp only [ktrTop, Around.in1, Around.deeper, Around.mark]; k_extra "ar")))
  k_with "own call ref" =>
    (
    (with_reducible show wpAny _ _ (call (Value.ref 49) _) _ _ _);
    (refine isfig_K (by k_asm) (by k_asm) (by k_asm) (by k_asm) (by k_asm) rfl rfl rfl rfl (by k_extra "room") (by k_extra "room") ?_); intro _ _ _ _; (try dsimp only))
  k_with "own call ref" =>
    (
    (with_reducible show wpAny _ _ (call (Value.ref 56) _) _ _ _);
    (refine numfig_K (by k_asm) (by k_asm) (by k_asm) (by k_asm) (by k_asm) rfl rfl rfl rfl (by k_extra "room") (by k_extra "room") ?_); intro _ _ _ _ _; (try dsimp only))
  k_with "own exec While" =>
    (refine Stop.out ?_)
  k_with "own exec While BoolOp" =>
    (refine Stop.out ?_)
  k_with "own subscriptTail" =>
    (k_here; (with_reducible show wpAny _ _ (subscriptTail _ _ (Value.bytes (List.toArray _) _) (Value.int _ _)) _ _ _); (refine KBy.item_N (by k_extra "ar") (by k_extra "ar") (by k_extra "ar") ?_))
  k_with "own subscriptTail" =>
    (k_here; (with_reducible show wpAny _ _ (subscriptTail _ (Expr.Slice (some _) (some _) none _) (Value.bytes (List.toArray _) _) (Value.ref _)) _ _ _); (with_reducible rename Fr _ _ _ _ => F'); (with_reducible rename News _ _ _ _ => N'); (refine slice_both (s := ⟨_, _, _, _, _⟩) F' N' (by k_extra "ar") (by k_extra "ar") (by k_extra "ar") ?_); intro _ _ _ _ _)
  k_with "own subscriptTail" =>
    (k_here; (with_reducible show wpAny _ _ (subscriptTail _ (Expr.Slice none (some _) none _) (Value.bytes (List.toArray _) _) (Value.ref _)) _ _ _); (with_reducible rename Fr _ _ _ _ => F'); (with_reducible rename News _ _ _ _ => N'); (refine slice_to (s := ⟨_, _, _, _, _⟩) F' N' (by k_extra "ar") (by k_extra "ar") ?_); intro _ _ _ _ _)
  k_with "own subscriptTail" =>
    (k_here; (with_reducible show wpAny _ _ (subscriptTail _ (Expr.Slice (some _) none none _) (Value.bytes (List.toArray _) _) (Value.ref _)) _ _ _); (with_reducible rename Fr _ _ _ _ => F'); (with_reducible rename News _ _ _ _ => N'); (refine slice_from (s := ⟨_, _, _, _, _⟩) F' N' (by k_extra "ar") (by k_extra "ar") ?_); intro _ _ _ _ _)
  k_with "own call builtin:len" =>
    (k_here; (with_reducible show wpAny _ _ (call (Value.builtin "len") [Value.bytes (List.toArray _) _]) _ _ _); (refine len_B (by first | k_extra "ar" | (simp only [List.length_take, List.length_drop, cut]; k_extra "ar")) ?_); intro _ _)
  k_with "own getMethod bytes" =>
    (refine method_find ?_)
  k_with "own call builtin:bytes.find" =>
    ((refine find3 rfl ?_); intro _ _; simp only [findV, *])
  k_with "own call ref" =>
    (
    (with_reducible show wpAny _ _ (call (Value.ref 63) _) _ _ _);
    (refine lithead_Kn (by k_asm) (by k_asm) (by k_asm) (by k_asm) (by k_asm) rfl rfl rfl rfl (by k_extra "room") (by k_extra "room") (by assumption) (by k_extra "ar") (by k_extra "ar") (by k_extra "ar") ?_); intro _ _ _ _; (try dsimp only))
  k_with "own call ref" =>
    (
    (with_reducible show wpAny _ _ (call (Value.ref 63) _) _ _ _);
    (refine lithead_Ks (by k_asm) (by k_asm) (by k_asm) (by k_asm) (by k_asm) rfl rfl rfl rfl (by k_extra "room") (by k_extra "room") (by assumption) (by k_extra "ar") (by k_extra "ar") (by k_extra "ar") ?_); intro _ _ _ _ _ _; (try dsimp only))
  k_with "own binaryOp Add bytes bytes" =>
    (k_here; (with_reducible show wpAny _ _ (binaryOp Operator.Add (Value.bytes (List.toArray _) _) (Value.bytes (List.toArray _) _)) _ _ _); (refine add_B (by k_extra "ar") ?_); intro _ _)
  k_with "own k_room" =>
    (k_extra "room")
  k_with "nes" =>
    (simp only [List.forall_mem_cons, List.not_mem_nil, false_implies, implies_true, and_true] at *)
  k_with "own call ref" =>
    (
    (with_reducible show wpAny _ _ (call (Value.ref 70) _) _ _ _);
    (refine cmdend_Kn (by k_asm) (by k_asm) (by k_asm) (by k_asm) (by k_asm) rfl rfl rfl rfl (by k_extra "room") (by k_extra "room") (by assumption) (by k_extra "ar") ?_); (intro _ _ _ _ _ _ hne1); (simp only [List.forall_mem_cons, List.not_mem_nil, false_implies, implies_true, and_true] at hne1); (try dsimp only))
  k_with "own call ref" =>
    (
    (with_reducible show wpAny _ _ (call (Value.ref 70) _) _ _ _);
    (refine cmdend_Ks (by k_asm) (by k_asm) (by k_asm) (by k_asm) (by k_asm) rfl rfl rfl rfl (by k_extra "room") (by k_extra "room") (by assumption) (by k_extra "ar") ?_); (intro _ _ _ _ _ _ _ _ hne1 hne2); (simp only [List.forall_mem_cons, List.not_mem_nil, false_implies, implies_true, and_true] at hne1 hne2); (try dsimp only))
  k_with "own call builtin:bytes.find" =>
    ((refine find2 ?_); intro _ _; simp only [findV, *])
  k_with "small" =>
    (first | k_extra "ar" | (simp only [List.length_append, List.length_cons, List.length_nil, List.length_map]; k_extra "ar"))
  k_with "own call builtin:len" =>
    (k_here; (with_reducible show wpAny _ _ (call (Value.builtin "len") [Value.ref _]) _ _ _); (k_dflt (refine len_led (by k_asm) (by k_mem) (by k_extra "small") ?_)); intro _ _; (try simp only [List.length_append, List.length_cons, List.length_nil, List.length_map]))
  k_with "own call builtin:list.append" =>
    (k_here; (with_reducible show wpAny _ _ (call (Value.builtin "list.append") [Value.ref _, _]) _ _ _); (k_dflt (refine append_led (by k_asm) (by k_asm) (by k_upd) (by k_extra "small") ?_)); intro _ _ hnN; (try dsimp only at hnN))
  k_with "own call ref" =>
    (
    (with_reducible show wpAny _ _ (call (Value.ref 119) _) _ _ _);
    (k_dflt (refine next_Kn (by k_asm) (by k_asm) (by k_asm) (by k_asm) (by k_asm) rfl rfl rfl rfl (by k_extra "room") (by k_extra "room") (by k_mem) (by k_updF) (by assumption) (by assumption) (by k_extra "ar") ?_)); (intro _ _ _ _ _ _ _ hnN); (try dsimp only at hnN); (try dsimp only))
  k_with "own call ref" =>
    (
    (with_reducible show wpAny _ _ (call (Value.ref 119) _) _ _ _);
    (k_dflt (refine next_Ks (by k_asm) (by k_asm) (by k_asm) (by k_asm) (by k_asm) rfl rfl rfl rfl (by k_extra "room") (by k_extra "room") (by k_mem) (by k_updF) (by assumption) (by assumption) (by k_extra "ar") ?_)); (intro _ _ _ _ _ _ _ _ _ _ hnN hne1); (try dsimp only at hnN); (simp only [List.forall_mem_cons, List.not_mem_nil, false_implies, implies_true, and_true] at hne1); (try dsimp only))
  k_with "own exec While Compare cons nil" =>
    (refine Stop.out ?_)
  k_with "own eval ListComp" =>
    (k_here; lcg_look; k_dflt (refine LCg.ListComp_U (F₀ := by k_asm) (by with_unfolding_all rfl) (by decide) (by rfl) (by decide) (by rfl) ?_))
  k_with "own exec Assign cons ListComp" =>
    (k_here; lcg_look; k_dflt (refine LCg.Assign_ListComp_U (F₀ := by k_asm) (by rfl) (by with_unfolding_all rfl) (by with_unfolding_all rfl) (by decide) (by rfl) (by decide) (by rfl) (by rfl) (by rfl) ?_))
  k_with "own eval ListComp" =>
    (k_here; lcf_look; k_dflt (refine LCg.ListComp_U (F₀ := by k_asm) (by with_unfolding_all rfl) (by decide) (by rfl) (by decide) (by rfl) ?_))
  k_with "own exec Assign cons ListComp" =>
    (k_here; lcf_look; k_dflt (refine LCg.Assign_ListComp_U (F₀ := by k_asm) (by rfl) (by with_unfolding_all rfl) (by with_unfolding_all rfl) (by decide) (by rfl) (by decide) (by rfl) (by rfl) (by rfl) ?_))
  k_with "own eval ListComp" =>
    (k_here; lct_look; k_dflt (refine LCt.ListComp_T (F₀ := by k_asm) (by with_unfolding_all rfl) (by decide) (by rfl) (by decide) (by rfl) ?_))
  k_with "own exec Assign cons ListComp" =>
    (k_here; lct_look; k_dflt (refine LCt.Assign_ListComp_T (F₀ := by k_asm) (by rfl) (by with_unfolding_all rfl) (by with_unfolding_all rfl) (by decide) (by rfl) (by decide) (by rfl) (by rfl) (by rfl) ?_))
  k_with "own CompSrc" =>
    (k_here; k_dflt (first
    | (refine LCg.CompSrc.ledger (by rfl) (by k_asm) (by k_asm) (by k_mem) (by rw [List.size_toArray, PySem.sizeLine_eq]; (first | omega | (simp only [List.length_append, List.length_cons, List.length_nil, List.length_map]; omega))) ?_; intro g'; refine Stop.out ?_)
    | (refine LCg.CompSrc.base (by rfl) (by k_asm) (by k_asm) (by assumption) (by rw [List.size_toArray, PySem.sizeLine_eq]; (first | omega | (simp only [List.length_append, List.length_cons, List.length_nil, List.length_map]; omega))) ?_; intro g'; refine Stop.out ?_)
    | (refine LCg.CompSrc.range (by rfl) (by k_asm) (by k_asm) (by assumption) (small_one (by omega) (by omega) (by omega) (by omega)) (rangeSize_nat _ _) (by rw [PySem.sizeLine_eq]; omega) ?_; intro g'; refine Stop.out ?_)))
  k_with "own CompSrcT" =>
    (k_here; k_dflt (first
    | (refine LCt.CompSrcT.ledger (by rfl) (by k_asm) (by k_asm) (by k_mem) (by rw [List.size_toArray, PySem.sizeLine_eq]; (first | omega | (simp only [List.length_append, List.length_cons, List.length_nil, List.length_map]; omega))) ?_; intro g'; refine Stop.out ?_)
    | (refine LCt.CompSrcT.base (by rfl) (by k_asm) (by k_asm) (by assumption) (by rw [List.size_toArray, PySem.sizeLine_eq]; (first | omega | (simp only [List.length_append, List.length_cons, List.length_nil, List.length_map]; omega))) ?_; intro g'; refine Stop.out ?_)
    | (refine LCt.CompSrcT.range (by rfl) (by k_asm) (by k_asm) (by assumption) (small_one (by omega) (by omega) (by omega) (by omega)) (rangeSize_nat _ _) (by rw [PySem.sizeLine_eq]; omega) ?_; intro g'; refine Stop.out ?_)))
  k_with "own exec For Name Call cons nil" =>
    (refine Stop.out ?_)
  k_with "own call ref" =>
    (
    (with_reducible show wpAny _ _ (call (Value.ref 138) _) _ _ _);
    (k_dflt (refine draw_Kb (by k_asm) (by k_asm) (by k_asm) (by k_asm) (by k_asm) rfl rfl rfl rfl (by k_extra "room") (by k_extra "room") (by k_updF) (by assumption) (by assumption) (by k_extra "ar") (by k_extra "ar") (by k_extra "ar") ?_)); (intro _ _ _ _ _ _ _ hpO hnF hnN); (try dsimp only at hnN); (try dsimp only))
  k_with "own call type:range" =>
    (k_here; (k_dflt (refine range1_rows (by k_asm) (by k_asm) ?_)); intro _ _ _ _ _ _ _ hnN _; (try dsimp only))
  k_with "own subscriptTail" =>
    ((with_reducible show wpAny _ _ (subscriptTail _ _ (Value.ref _) (Value.int _ _)) _ _ _); (k_dflt (refine item_bytes (by k_asm) (by k_mem) (by repeat (first | exact BytesIn.nil | apply BytesIn.cons)) (by assumption) (by (simp only [List.length_cons, List.length_nil]; k_extra "ar")) (by k_extra "ar") ?_)); intro _ _ hbm; have hlb := len7 hbm rfl)
  k_with "own getMethod str" =>
    (refine method_enc ?_)
  k_with "own getMethod bytes" =>
    (refine method_bjoin ?_)
  k_with "own call builtin:str.encode" =>
    (k_dflt (refine enc_K (by k_extra "ar") ?_); intro _ _)
  k_with "own call builtin:bytes.join" =>
    (k_here; (k_dflt (refine join_led (by k_asm) (by k_mem) (by assumption) (by assumption) (by assumption) ?_)); intro _ _)
  k_with "own binaryOp Add bytes bytes" =>
    ((with_reducible show wpAny _ _ (binaryOp _ (Value.bytes (List.toArray _) _) (Value.bytes (List.toArray _) _)) _ _ _); (k_dflt (refine add_B (by first | k_extra "ar" | (simp only [List.length_cons, List.length_nil, List.length_append]; k_extra "ar")) ?_)); intro _ _)
  k_with "own k_ne" =>
    (refine neN ?_; (try dsimp only); first | exact NeF.ne (by with_reducible assumption) | exact NeF.ne' (by with_reducible assumption) | k_extra "ar")
  k_with "allne" =>
    ((try simp only [AllNe, List.pairwise_cons, List.mem_cons, List.not_mem_nil, or_false, forall_eq_or_imp, forall_eq, List.Pairwise.nil, and_true, false_implies, implies_true]); repeat' (first | apply And.intro | (show @_root_.Ne Nat _ _; first | exact NeF.ne (by assumption) | exact NeF.ne' (by assumption) | k_extra "ar")))
  k_with "own k_all" =>
    (refine List.forall_mem_append.mpr ⟨?_, ?_⟩ <;> k_all)
  k_with "leaf" =>
    (intro p hp; iterate 24 try (with_reducible (first | exact hp | exact List.mem_append_left _ hp | apply List.mem_append_right | apply in_tl)))
  k_with "elem" =>
    (iterate 24 try (with_reducible (first | exact List.mem_cons_self | apply in_tl | apply List.mem_append_right)))
  k_with "sub9" =>
    (repeat' (first | exact sub_nil | refine sub_cons (by first | (k_extra "elem"; done) | k_mem) ?_ | (k_extra "leaf"; done) | refine sub_app ?_ ?_))
  k_with "mm" =>
    (iterate 14 (try (first | exact List.mem_cons_self | apply in_tl)))
  k_with "off9" =>
    (repeat' (first | exact off_nil | refine off_cons (by first | exact off_lt (by assumption) | exact OwnOff.ne (by assumption) (by k_extra "mm")) ?_))
  trivial
section
variable {w : World} {A : Around} {s : Shared} {base : Heap} {env : Env} {outer : List Env} {A₀ : Around} {h₀ : Heap} {L : Addr} {m : Str → Option Value} {mean : ExcName → Option Value} {mg mb : Str → Option Value} {news : List (Addr × Obj)} {t : Tok} {Q E : Value → Shared → Prop}
theorem tag0_K
    (F : Fr h₀ L s.heap m) (N : News h₀ L s.heap news) (B : Below A₀ base outer h₀) (X : (Mine.hd.heap_39 w.params).In h₀) (T : Top Mine.hd.view_39 (looseW Mine.hd.view_39 []) mean mg mb h₀) (hA : A.frames = some (env :: outer)) (hf : env.frame = some L) (hk : env.scope.kind = .function) (hh : A.handled = none)
    (hd : A.depth + 15 < recursionLimit) (hu : A.units + 100 < cLine)
    (h : ∀ t h' tk', Fr h₀ L h' m → News h₀ L h' news → Q (.str (Str.ofString "t0") t) { s with heap := h', toks := tk' }) :
    wpAny (model PySem.Challenge.rw_no0353_01.row.prog w) A (call (.ref 77) [.bytes (List.toArray [116, 48, 32]) t]) Q E s :=
  have C : Ctx w A s.heap [] base env outer A₀ h₀ L m mean mg mb := ⟨B, F, X, T, hA, hf, hk, hh, fun _ ha => nomatch ha⟩
  tag0 C hd hu fun t h' tk' kk => h t h' tk' (C.fr kk) (news_kept N kk fun _ _ q => nomatch q)
theorem tag1_K
    (F : Fr h₀ L s.heap m) (N : News h₀ L s.heap news) (B : Below A₀ base outer h₀) (X : (Mine.hd.heap_39 w.params).In h₀) (T : Top Mine.hd.view_39 (looseW Mine.hd.view_39 []) mean mg mb h₀) (hA : A.frames = some (env :: outer)) (hf : env.frame = some L) (hk : env.scope.kind = .function) (hh : A.handled = none)
    (hd : A.depth + 15 < recursionLimit) (hu : A.units + 100 < cLine)
    (h : ∀ t h' tk', Fr h₀ L h' m → News h₀ L h' news → Q (.str (Str.ofString "t1") t) { s with heap := h', toks := tk' }) :
    wpAny (model PySem.Challenge.rw_no0353_01.row.prog w) A (call (.ref 77) [.bytes (List.toArray [116, 49, 32]) t]) Q E s :=
  have C : Ctx w A s.heap [] base env outer A₀ h₀ L m mean mg mb := ⟨B, F, X, T, hA, hf, hk, hh, fun _ ha => nomatch ha⟩
  tag1 C hd hu fun t h' tk' kk => h t h' tk' (C.fr kk) (news_kept N kk fun _ _ q => nomatch q)
theorem tag2_K
    (F : Fr h₀ L s.heap m) (N : News h₀ L s.heap news) (B : Below A₀ base outer h₀) (X : (Mine.hd.heap_39 w.params).In h₀) (T : Top Mine.hd.view_39 (looseW Mine.hd.view_39 []) mean mg mb h₀) (hA : A.frames = some (env :: outer)) (hf : env.frame = some L) (hk : env.scope.kind = .function) (hh : A.handled = none)
    (hd : A.depth + 15 < recursionLimit) (hu : A.units + 100 < cLine)
    (h : ∀ t h' tk', Fr h₀ L h' m → News h₀ L h' news → Q (.str (Str.ofString "t2") t) { s with heap := h', toks := tk' }) :
    wpAny (model PySem.Challenge.rw_no0353_01.row.prog w) A (call (.ref 77) [.bytes (List.toArray [116, 50, 32]) t]) Q E s :=
  have C : Ctx w A s.heap [] base env outer A₀ h₀ L m mean mg mb := ⟨B, F, X, T, hA, hf, hk, hh, fun _ ha => nomatch ha⟩
  tag2 C hd hu fun t h' tk' kk => h t h' tk' (C.fr kk) (news_kept N kk fun _ _ q => nomatch q)
theorem tag3_K
    (F : Fr h₀ L s.heap m) (N : News h₀ L s.heap news) (B : Below A₀ base outer h₀) (X : (Mine.hd.heap_39 w.params).In h₀) (T : Top Mine.hd.view_39 (looseW Mine.hd.view_39 []) mean mg mb h₀) (hA : A.frames = some (env :: outer)) (hf : env.frame = some L) (hk : env.scope.kind = .function) (hh : A.handled = none)
    (hd : A.depth + 15 < recursionLimit) (hu : A.units + 100 < cLine)
    (h : ∀ t h' tk', Fr h₀ L h' m → News h₀ L h' news → Q (.str (Str.ofString "t3") t) { s with heap := h', toks := tk' }) :
    wpAny (model PySem.Challenge.rw_no0353_01.row.prog w) A (call (.ref 77) [.bytes (List.toArray [116, 51, 32]) t]) Q E s :=
  have C : Ctx w A s.heap [] base env outer A₀ h₀ L m mean mg mb := ⟨B, F, X, T, hA, hf, hk, hh, fun _ ha => nomatch ha⟩
  tag3 C hd hu fun t h' tk' kk => h t h' tk' (C.fr kk) (news_kept N kk fun _ _ q => nomatch q)
theorem tag4_K
    (F : Fr h₀ L s.heap m) (N : News h₀ L s.heap news) (B : Below A₀ base outer h₀) (X : (Mine.hd.heap_39 w.params).In h₀) (T : Top Mine.hd.view_39 (looseW Mine.hd.view_39 []) mean mg mb h₀) (hA : A.frames = some (env :: outer)) (hf : env.frame = some L) (hk : env.scope.kind = .function) (hh : A.handled = none)
    (hd : A.depth + 15 < recursionLimit) (hu : A.units + 100 < cLine)
    (h : ∀ t h' tk', Fr h₀ L h' m → News h₀ L h' news → Q (.str (Str.ofString "t4") t) { s with heap := h', toks := tk' }) :
    wpAny (model PySem.Challenge.rw_no0353_01.row.prog w) A (call (.ref 77) [.bytes (List.toArray [116, 52, 32]) t]) Q E s :=
  have C : Ctx w A s.heap [] base env outer A₀ h₀ L m mean mg mb := ⟨B, F, X, T, hA, hf, hk, hh, fun _ ha => nomatch ha⟩
  tag4 C hd hu fun t h' tk' kk => h t h' tk' (C.fr kk) (news_kept N kk fun _ _ q => nomatch q)
theorem tagx_K
    (F : Fr h₀ L s.heap m) (N : News h₀ L s.heap news) (B : Below A₀ base outer h₀) (X : (Mine.hd.heap_39 w.params).In h₀) (T : Top Mine.hd.view_39 (looseW Mine.hd.view_39 []) mean mg mb h₀) (hA : A.frames = some (env :: outer)) (hf : env.frame = some L) (hk : env.scope.kind = .function) (hh : A.handled = none)
    (hd : A.depth + 15 < recursionLimit) (hu : A.units + 100 < cLine)
    (h : ∀ t h' tk', Fr h₀ L h' m → News h₀ L h' news → Q (.str (Str.ofString "*") t) { s with heap := h', toks := tk' }) :
    wpAny (model PySem.Challenge.rw_no0353_01.row.prog w) A (call (.ref 77) [.bytes (List.toArray [40, 120]) t]) Q E s :=
  have C : Ctx w A s.heap [] base env outer A₀ h₀ L m mean mg mb := ⟨B, F, X, T, hA, hf, hk, hh, fun _ ha => nomatch ha⟩
  tagx C hd hu fun t h' tk' kk => h t h' tk' (C.fr kk) (news_kept N kk fun _ _ q => nomatch q)
end
noncomputable def tagS : Nat → Str
  | 0 => Str.ofString "t0"
  | 1 => Str.ofString "t1"
  | 2 => Str.ofString "t2"
  | 3 => Str.ofString "t3"
  | _ => Str.ofString "t4"
section
open SeqAt
variable {prog : Program} {w : World} {A : Around} {E : Value → Shared → Prop} {s : Shared} {h₀ : Heap} {L a b : Addr} {news : List (Addr × Obj)} {vs ws : List Value} {n k : Nat} {Q : Value → Shared → Prop}
theorem eq_strs (f : Nat → Str) (N : News h₀ L s.heap news) (ma : (a, PySem.W.listOf (List.toArray vs) n) ∈ news) (mb : (b, PySem.W.listOf (List.toArray ws) k) ∈ news) (hl : vs.length = ws.length) (ha : ∀ (j : Nat) (v : Value), vs[j]? = some v → ∃ t, v = .str (f j) t) (hb : ∀ (j : Nat) (v : Value), ws[j]? = some v → ∃ t, v = .str (f j) t) (hu : A.units + 64 < cLine)
    (h : Q (.bool true) s) : wpAny (model prog w) A (compareOp .Eq (.ref a) (.ref b)) Q E s := by
  have la : s.heap.IsList a vs.toArray := PySem.IsL.isList (n := n) (N _ ma).1
  have lb : s.heap.IsList b ws.toArray := PySem.IsL.isList (n := k) (N _ mb).1
  have key := RcAt.lists (A := A) (s := s) (e := fun _ => true) la lb (by simp; k_extra "ar") (by k_extra "ar") (fun j j1 j2 => by
    have j1' : j < vs.length := by simpa using j1
    have j2' : j < ws.length := by simpa using j2
    obtain ⟨t, ex⟩ := ha j _ (List.getElem?_eq_getElem j1')
    obtain ⟨u, ey⟩ := hb j _ (List.getElem?_eq_getElem j2')
    have f1 : (List.toArray vs)[j] = .str (f j) t := by rw [← ex]; simp
    have f2 : (List.toArray ws)[j] = .str (f j) u := by rw [← ey]; simp
    rw [f1, f2]
    have := EqAt.str_str (A := A.in1) (s := s) (f j) t (f j) u
    rw [beq_self_eq_true] at this
    exact this)
  have e : ((List.range (List.toArray vs).size).all fun _ => true) = true := by simp
  rw [e] at key
  exact key prog w E Q h
end
end
/-! text Seg15 -/
section
theorem off_Seg15 : True := by
  w_top off
  trivial
theorem kw_Seg15_1 : True := by
  k_with "own call ref" =>
    (
    (with_reducible show wpAny _ _ (call (Value.ref 98) _) _ _ _);
    (k_dflt (refine add_K (by k_asm) (by k_asm) (by k_asm) (by k_asm) (by k_asm) rfl rfl rfl rfl (by k_extra "room") (by k_extra "room") (by k_mem) (by k_updF) (by k_ne) (by (simp only [List.length_cons, List.length_nil, List.length_append]; k_extra "ar")) ?_)); (intro _ _ _ _ _ _ hnF hnN); (try dsimp only at hnN); (try dsimp only))
  k_with "own call ref" =>
    (
    (with_reducible show wpAny _ _ (call (Value.ref 164) _) _ _ _);
    (k_dflt (refine steps_K (by k_asm) (by k_asm) (by k_asm) (by k_asm) (by k_asm) rfl rfl rfl rfl (by k_extra "room") (by k_extra "room") (by k_mem) (by k_updF) (by assumption) (by k_ne) (by decide) (by assumption) ?_)); (intro _ _ _ _ _ _ _ _ _ _ hnF hnN hstp hoff1 hne1); (have hsv := StepsIn.length hstp); (try simp only [List.length_append, List.length_map, List.length_cons, List.length_nil] at hsv); (try simp only [List.cons_append, List.nil_append, List.append_assoc] at hnN); (try simp only [List.map_cons, List.map_nil, List.map_append] at hoff1); (simp only [List.forall_mem_cons, List.not_mem_nil, false_implies, implies_true, and_true] at hne1); (repeat (obtain ⟨_, hne1⟩ := hne1)); (try dsimp only))
  k_with "own call ref" =>
    (
    (with_reducible show wpAny _ _ (call (Value.ref 119) _) _ _ _);
    (k_dflt (refine next_Kn (by k_asm) (by k_asm) (by k_asm) (by k_asm) (by k_asm) rfl rfl rfl rfl (by k_extra "room") (by k_extra "room") (by k_mem) (by k_updF) (by with_reducible assumption) (by k_ne) (by k_extra "ar") ?_)); (intro _ _ _ _ _ _ _ hnN); (try dsimp only at hnN); (try dsimp only))
  k_with "own compareOp In int ref" =>
    (k_here; (k_dflt (refine in_led (by k_asm) (by k_mem) (by assumption) ?_)); (first | rw [decide_eq_true (by assumption)] | rw [decide_eq_false (by assumption)]))
  k_with "own subscriptTail Name Slice ref ref" =>
    ((with_reducible rename Fr _ _ _ _ => F'); (with_reducible rename News _ _ _ _ => N'); (k_dflt (refine last_led (s := ⟨_, _, _, _, _⟩) F' N' (by k_mem) (by (simp only [List.length_append, List.length_cons, List.length_nil]; k_extra "ar")) ?_ (by with_unfolding_all rfl) (by intro _; with_unfolding_all rfl))); intro _ _ hnF hnN hnl; rw [drop_last] at hnN; (try k_lt hnl))
  k_with "subs" =>
    (k_extra "leaf")
  k_with "own compareOp Eq ref ref" =>
    (k_here; (k_dflt (refine eq_one (by k_asm) (by k_mem) (by k_mem) (by k_mem) (by assumption) (by k_extra "subs") (by k_extra "room") rfl ?_)))
  k_with "own compareOp NotEq ref ref" =>
    (k_here; (k_dflt (first
    | refine ne_nil (by k_asm) (by k_mem) (by k_mem) (by assumption) (by k_extra "subs") (by k_extra "room") rfl ?_
    | refine ne_one (by k_asm) (by k_mem) (by k_mem) (by k_mem) (by assumption) (by k_extra "subs") (by k_extra "room") rfl ?_)))
  k_with "own compareOp NotEq ref ref" =>
    (k_here; (k_dflt (refine ne_steps (by k_asm) (by k_mem) (by k_mem) (by assumption) (by assumption) (by k_extra "subs") (by k_extra "subs") (by k_extra "room") ?_)); rw [decide_eq_true rfl]; (try simp only [Bool.not_true]))
  k_with "own compareOp NotEq bytes bytes" =>
    ((k_dflt (refine ne_bytes ?_)); rw [bne_self_eq_false])
  k_with "own compareOp NotEq bytes bytes" =>
    (k_dflt (refine ne_bytesF (by first | rfl | decide) ?_))
  k_with "own call ref" =>
    (
    (with_reducible show wpAny _ _ (call (Value.ref 105) _) _ _ _);
    (k_dflt (refine line_K0 (by k_asm) (by k_asm) (by k_asm) (by k_asm) (by k_asm) rfl rfl rfl rfl (by k_extra "room") (by k_extra "room") (by k_mem) (by k_updF) (by k_ne) (by decide) (by assumption) ?_)); (intro _ _ _ _ _ _ hnF hnN); (try dsimp only at hnN); (try dsimp only))
  k_with "own call ref" =>
    (
    (with_reducible show wpAny _ _ (call (Value.ref 105) _) _ _ _);
    (k_dflt (refine line_K (by k_asm) (by k_asm) (by k_asm) (by k_asm) (by k_asm) rfl rfl rfl rfl (by k_extra "room") (by k_extra "room") (by k_mem) (by k_updF) (by k_ne) (by decide) (by assumption) ?_)); (intro _ _ _ _ _ _ _ hnF hnN); (try dsimp only at hnN); (try dsimp only))
  k_with "own call ref" =>
    (
    (with_reducible show wpAny _ _ (call (Value.ref 77) _) _ _ _);
    (k_dflt (first
    | refine tag0_K (by k_asm) (by k_asm) (by k_asm) (by k_asm) (by k_asm) rfl rfl rfl rfl (by k_extra "room") (by k_extra "room") ?_
    | refine tag1_K (by k_asm) (by k_asm) (by k_asm) (by k_asm) (by k_asm) rfl rfl rfl rfl (by k_extra "room") (by k_extra "room") ?_
    | refine tag2_K (by k_asm) (by k_asm) (by k_asm) (by k_asm) (by k_asm) rfl rfl rfl rfl (by k_extra "room") (by k_extra "room") ?_
    | refine tag3_K (by k_asm) (by k_asm) (by k_asm) (by k_asm) (by k_asm) rfl rfl rfl rfl (by k_extra "room") (by k_extra "room") ?_
    | refine tag4_K (by k_asm) (by k_asm) (by k_asm) (by k_asm) (by k_asm) rfl rfl rfl rfl (by k_extra "room") (by k_extra "room") ?_
    | refine tagx_K (by k_asm) (by k_asm) (by k_asm) (by k_asm) (by k_asm) rfl rfl rfl rfl (by k_extra "room") (by k_extra "room") ?_
    )); (intro _ _ _ hnF hnN); (try dsimp only at hnN); (try dsimp only))
  trivial
theorem at5 {n : Nat} (h : n < 5) : n = 0 ∨ n = 1 ∨ n = 2 ∨ n = 3 ∨ n = 4 := by k_extra "ar"
theorem seg15 : SegAt 15 At15 := by
  rintro w dp un gd L fa cd outer A₀ base h₀ mean mg mb Q s G ⟨m, cs, cl, cv, nc, du, dv, nd, tl, x, dx, fo, fv, nf, asked, k1, t1, k2, t2, hcv, hM, F, N, hne, hoff, hst, hsf, has, e1, e2, e3, e4⟩
  rw [known e1, known e2, known e3, known e4] at F
  have G' := G
  obtain ⟨B, X, T, hd, hu, -⟩ := G'
  simp only [AllNe, List.pairwise_cons, List.mem_cons, List.not_mem_nil, or_false, forall_eq_or_imp, forall_eq, List.Pairwise.nil, and_true, false_implies, implies_true, and_assoc] at hne
  repeat (obtain ⟨_, hne⟩ := hne)
  simp only [List.cons_append, List.nil_append] at N
  have hS1 := huge_step has
  have hS0 : ([] : Bs) ++ hugeB = hugeB := rfl
  have hlen1 : ([(Str.ofString "refuse", hugeB)] : List Step).length < 40 := by decide
  have hd1 : findCR ([] ++ doneB) 0 = some 4 := by decide
  have hd2 : findCR (([] ++ doneB).drop (4 + 2)) 0 = none := by decide
  have hcl := hM.few
  have hcl2 := hcv.length
  rw [List.length_map] at hcl2
  have KX := X
  revert KX
  unfold LawGoal
  conv in (occs := *) lawScope => whnf
  conv in (occs := *) (List.drop _ _) => whnf
  k_fill
  intro KX
  show wpAny _ _ _ _ _ _
  k_steps
  show LCg.CompRest _ _ _ _ _ _ _ _ _ _ _ _ _ _ _ _ _ _ _
  refine rest_map (fun j y => ∃ tz, y = Value.str (tagS j) tz) ?_ ?_
  · intro j v ys I oI C oC D m₂ h tk E' hj hv' hCo hx F N off ne
    rw [List.getElem?_toArray] at hv'
    obtain ⟨b, tb, rfl, hb⟩ := hcv.at hv'
    rw [List.getElem?_map] at hb
    obtain ⟨c, hc, rfl⟩ : ∃ c, cs[j]? = some c ∧ c.1 = b := by
      cases q : cs[j]? with
      | none => rw [q] at hb; cases hb
      | some c => rw [q] at hb; exact ⟨c, rfl, Option.some.inj hb⟩
    obtain ⟨r, hr⟩ := hM.tags j c hc
    have hsh := hM.short c (List.mem_of_getElem? hc)
    have hj5 : j < 5 := by rw [List.size_toArray] at hj; k_extra "ar"
    rw [hr] at hx hsh
    rcases at5 hj5 with rfl | rfl | rfl | rfl | rfl
    all_goals k_steps
    all_goals exact LCg.CompEnd.intro (by assumption) (by assumption) _ (fun p hp => hp) off (Or.inr ⟨_, by k_mem, rfl, _, rfl⟩) ⟨rfl, _, rfl⟩
  · intro ys1 hl1 hG1
    have hl1' : ys1.length = cs.length := by rw [hl1, List.size_toArray]; exact hcl2
    dsimp only [LCg.FinE]
    intro E1 h1 tk1 Fx Nx off1x
    have ho1 := off1_mem off1x
    show wpAny _ _ _ _ _ _
    k_steps
    show LCg.CompRest _ _ _ _ _ _ _ _ _ _ _ _ _ _ _ _ _ _ _
    refine rest_map (fun j y => ∃ tz, y = Value.str (tagS j) tz) ?_ ?_
    · intro j v ys I oI C oC D m₂ h tk E' hj hv' hCo hx F N off ne
      obtain ⟨tv, rfl⟩ := hv'
      have hj5 : j < 5 := by k_extra "ar"
      rcases at5 hj5 with rfl | rfl | rfl | rfl | rfl
      all_goals k_steps
      all_goals exact LCg.CompEnd.intro (by assumption) (by assumption) _ (fun p hp => hp) off trivial ⟨rfl, _, congrArg (fun z => Value.str z _) (by decide +kernel)⟩
    · intro ys2 hl2 hG2
      have hl2' : ys2.length = cs.length := by k_extra "ar"
      dsimp only [LCg.FinE]
      intro E2 h2 tk2 Fy Ny off2x
      have ho2 := off1_mem off2x
      show wpAny _ _ _ _ _ _
      k_dflt (refine eq_strs tagS Ny (by k_mem) (by k_mem) (by k_extra "ar") hG1 hG2 (by k_extra "room") ?_)
      k_steps
      rename Fr _ _ _ _ => Fe
      rw [beq_self_eq_true]
      exact G.ret _ _ _ Fe
end
/-! text Final -/
section
theorem off_Final : True := by
  w_top off
  trivial
theorem kw_Final_0 : True := by
  k_with_none
  k_with "pick" =>
    (with_reducible (first
    | assumption | exact And.left (by assumption) | exact And.left (And.right (by assumption)) | exact And.left (And.right (And.right (by assumption)))
    | exact And.left (And.right (And.right (And.right (by assumption)))) | exact And.left (And.right (And.right (And.right (And.right (by assumption))))) | exact And.left (And.right (And.right (And.right (And.right (And.right (by assumption)))))) | exact And.right (by assumption)))
  k_with "ne1" =>
    first
    | (with_reducible assumption) | exact _root_.Ne.symm (by with_reducible assumption) | exact Nat.ne_of_lt (by k_extra "pick") | exact Nat.ne_of_gt (by k_extra "pick")
  k_with "ar" =>
    first
    | (with_reducible assumption)
    | exact room_up (by with_reducible assumption) rfl
    | ((repeat (first | (rename _ ≠ _ => hz9; clear hz9) | (rename (_ ≠ _ ∧ _) => hz9; clear hz9))); omega)
    | omega
  k_with "own k_ne" =>
    (refine neN ?_; (try dsimp only); first | k_extra "ne1" | omega)
  k_with "room" =>
    ((try dsimp only [ktrTop]); (first | k_extra "ar" | (simp only [ktrTop, Around.in1, Around.deeper, Around.mark]; k_extra "ar")))
  k_with "own call ref" =>
    (
    (with_reducible show wpAny _ _ (call (Value.ref 49) _) _ _ _);
    (refine isfig_K (by k_asm) (by k_asm) (by k_asm) (by k_asm) (by k_asm) rfl rfl rfl rfl (by k_extra "room") (by k_extra "room") ?_); intro _ _ _ _; (try dsimp only))
  k_with "own call ref" =>
    (
    (with_reducible show wpAny _ _ (call (Value.ref 56) _) _ _ _);
    (refine numfig_K (by k_asm) (by k_asm) (by k_asm) (by k_asm) (by k_asm) rfl rfl rfl rfl (by k_extra "room") (by k_extra "room") ?_); intro _ _ _ _ _; (try dsimp only))
  k_with "own exec While" =>
    (refine Stop.out ?_)
  k_with "own exec While BoolOp" =>
    (refine Stop.out ?_)
  k_with "own subscriptTail" =>
    (k_here; (with_reducible show wpAny _ _ (subscriptTail _ _ (Value.bytes (List.toArray _) _) (Value.int _ _)) _ _ _); (refine KBy.item_N (by k_extra "ar") (by k_extra "ar") (by k_extra "ar") ?_))
  k_with "own subscriptTail" =>
    (k_here; (with_reducible show wpAny _ _ (subscriptTail _ (Expr.Slice (some _) (some _) none _) (Value.bytes (List.toArray _) _) (Value.ref _)) _ _ _); (with_reducible rename Fr _ _ _ _ => F'); (with_reducible rename News _ _ _ _ => N'); (refine slice_both (s := ⟨_, _, _, _, _⟩) F' N' (by k_extra "ar") (by k_extra "ar") (by k_extra "ar") ?_); intro _ _ _ _ _)
  k_with "own subscriptTail" =>
    (k_here; (with_reducible show wpAny _ _ (subscriptTail _ (Expr.Slice none (some _) none _) (Value.bytes (List.toArray _) _) (Value.ref _)) _ _ _); (with_reducible rename Fr _ _ _ _ => F'); (with_reducible rename News _ _ _ _ => N'); (refine slice_to (s := ⟨_, _, _, _, _⟩) F' N' (by k_extra "ar") (by k_extra "ar") ?_); intro _ _ _ _ _)
  k_with "own subscriptTail" =>
    (k_here; (with_reducible show wpAny _ _ (subscriptTail _ (Expr.Slice (some _) none none _) (Value.bytes (List.toArray _) _) (Value.ref _)) _ _ _); (with_reducible rename Fr _ _ _ _ => F'); (with_reducible rename News _ _ _ _ => N'); (refine slice_from (s := ⟨_, _, _, _, _⟩) F' N' (by k_extra "ar") (by k_extra "ar") ?_); intro _ _ _ _ _)
  k_with "own call builtin:len" =>
    (k_here; (with_reducible show wpAny _ _ (call (Value.builtin "len") [Value.bytes (List.toArray _) _]) _ _ _); (refine len_B (by first | k_extra "ar" | (simp only [List.length_take, List.length_drop, cut]; k_extra "ar")) ?_); intro _ _)
  k_with "own getMethod bytes" =>
    (refine method_find ?_)
  k_with "own call builtin:bytes.find" =>
    ((refine find3 rfl ?_); intro _ _; simp only [findV, *])
  k_with "own call ref" =>
    (
    (with_reducible show wpAny _ _ (call (Value.ref 63) _) _ _ _);
    (refine lithead_Kn (by k_asm) (by k_asm) (by k_asm) (by k_asm) (by k_asm) rfl rfl rfl rfl (by k_extra "room") (by k_extra "room") (by assumption) (by k_extra "ar") (by k_extra "ar") (by k_extra "ar") ?_); intro _ _ _ _; (try dsimp only))
  k_with "own call ref" =>
    (
    (with_reducible show wpAny _ _ (call (Value.ref 63) _) _ _ _);
    (refine lithead_Ks (by k_asm) (by k_asm) (by k_asm) (by k_asm) (by k_asm) rfl rfl rfl rfl (by k_extra "room") (by k_extra "room") (by assumption) (by k_extra "ar") (by k_extra "ar") (by k_extra "ar") ?_); intro _ _ _ _ _ _; (try dsimp only))
  k_with "own binaryOp Add bytes bytes" =>
    (k_here; (with_reducible show wpAny _ _ (binaryOp Operator.Add (Value.bytes (List.toArray _) _) (Value.bytes (List.toArray _) _)) _ _ _); (refine add_B (by k_extra "ar") ?_); intro _ _)
  k_with "own k_room" =>
    (k_extra "room")
  k_with "nes" =>
    (simp only [List.forall_mem_cons, List.not_mem_nil, false_implies, implies_true, and_true] at *)
  k_with "own call ref" =>
    (
    (with_reducible show wpAny _ _ (call (Value.ref 70) _) _ _ _);
    (refine cmdend_Kn (by k_asm) (by k_asm) (by k_asm) (by k_asm) (by k_asm) rfl rfl rfl rfl (by k_extra "room") (by k_extra "room") (by assumption) (by k_extra "ar") ?_); (intro _ _ _ _ _ _ hne1); (simp only [List.forall_mem_cons, List.not_mem_nil, false_implies, implies_true, and_true] at hne1); (try dsimp only))
  k_with "own call ref" =>
    (
    (with_reducible show wpAny _ _ (call (Value.ref 70) _) _ _ _);
    (refine cmdend_Ks (by k_asm) (by k_asm) (by k_asm) (by k_asm) (by k_asm) rfl rfl rfl rfl (by k_extra "room") (by k_extra "room") (by assumption) (by k_extra "ar") ?_); (intro _ _ _ _ _ _ _ _ hne1 hne2); (simp only [List.forall_mem_cons, List.not_mem_nil, false_implies, implies_true, and_true] at hne1 hne2); (try dsimp only))
  k_with "own call builtin:bytes.find" =>
    ((refine find2 ?_); intro _ _; simp only [findV, *])
  k_with "small" =>
    (first | k_extra "ar" | (simp only [List.length_append, List.length_cons, List.length_nil, List.length_map]; k_extra "ar"))
  k_with "own call builtin:len" =>
    (k_here; (with_reducible show wpAny _ _ (call (Value.builtin "len") [Value.ref _]) _ _ _); (k_dflt (refine len_led (by k_asm) (by k_mem) (by k_extra "small") ?_)); intro _ _; (try simp only [List.length_append, List.length_cons, List.length_nil, List.length_map]))
  k_with "own call builtin:list.append" =>
    (k_here; (with_reducible show wpAny _ _ (call (Value.builtin "list.append") [Value.ref _, _]) _ _ _); (k_dflt (refine append_led (by k_asm) (by k_asm) (by k_upd) (by k_extra "small") ?_)); intro _ _ hnN; (try dsimp only at hnN))
  k_with "own call ref" =>
    (
    (with_reducible show wpAny _ _ (call (Value.ref 119) _) _ _ _);
    (k_dflt (refine next_Kn (by k_asm) (by k_asm) (by k_asm) (by k_asm) (by k_asm) rfl rfl rfl rfl (by k_extra "room") (by k_extra "room") (by k_mem) (by k_updF) (by assumption) (by assumption) (by k_extra "ar") ?_)); (intro _ _ _ _ _ _ _ hnN); (try dsimp only at hnN); (try dsimp only))
  k_with "own call ref" =>
    (
    (with_reducible show wpAny _ _ (call (Value.ref 119) _) _ _ _);
    (k_dflt (refine next_Ks (by k_asm) (by k_asm) (by k_asm) (by k_asm) (by k_asm) rfl rfl rfl rfl (by k_extra "room") (by k_extra "room") (by k_mem) (by k_updF) (by assumption) (by assumption) (by k_extra "ar") ?_)); (intro _ _ _ _ _ _ _ _ _ _ hnN hne1); (try dsimp only at hnN); (simp only [List.forall_mem_cons, List.not_mem_nil, false_implies, implies_true, and_true] at hne1); (try dsimp only))
  k_with "own exec While Compare cons nil" =>
    (refine Stop.out ?_)
  k_with "own eval ListComp" =>
    (k_here; lcg_look; k_dflt (refine LCg.ListComp_U (F₀ := by k_asm) (by with_unfolding_all rfl) (by decide) (by rfl) (by decide) (by rfl) ?_))
  k_with "own exec Assign cons ListComp" =>
    (k_here; lcg_look; k_dflt (refine LCg.Assign_ListComp_U (F₀ := by k_asm) (by rfl) (by with_unfolding_all rfl) (by with_unfolding_all rfl) (by decide) (by rfl) (by decide) (by rfl) (by rfl) (by rfl) ?_))
  k_with "own eval ListComp" =>
    (k_here; lcf_look; k_dflt (refine LCg.ListComp_U (F₀ := by k_asm) (by with_unfolding_all rfl) (by decide) (by rfl) (by decide) (by rfl) ?_))
  k_with "own exec Assign cons ListComp" =>
    (k_here; lcf_look; k_dflt (refine LCg.Assign_ListComp_U (F₀ := by k_asm) (by rfl) (by with_unfolding_all rfl) (by with_unfolding_all rfl) (by decide) (by rfl) (by decide) (by rfl) (by rfl) (by rfl) ?_))
  k_with "own eval ListComp" =>
    (k_here; lct_look; k_dflt (refine LCt.ListComp_T (F₀ := by k_asm) (by with_unfolding_all rfl) (by decide) (by rfl) (by decide) (by rfl) ?_))
  k_with "own exec Assign cons ListComp" =>
    (k_here; lct_look; k_dflt (refine LCt.Assign_ListComp_T (F₀ := by k_asm) (by rfl) (by with_unfolding_all rfl) (by with_unfolding_all rfl) (by decide) (by rfl) (by decide) (by rfl) (by rfl) (by rfl) ?_))
  k_with "own CompSrc" =>
    (k_here; k_dflt (first
    | (refine LCg.CompSrc.ledger (by rfl) (by k_asm) (by k_asm) (by k_mem) (by rw [List.size_toArray, PySem.sizeLine_eq]; (first | omega | (simp only [List.length_append, List.length_cons, List.length_nil, List.length_map]; omega))) ?_; intro g'; refine Stop.out ?_)
    | (refine LCg.CompSrc.base (by rfl) (by k_asm) (by k_asm) (by assumption) (by rw [List.size_toArray, PySem.sizeLine_eq]; (first | omega | (simp only [List.length_append, List.length_cons, List.length_nil, List.length_map]; omega))) ?_; intro g'; refine Stop.out ?_)
    | (refine LCg.CompSrc.range (by rfl) (by k_asm) (by k_asm) (by assumption) (small_one (by omega) (by omega) (by omega) (by omega)) (rangeSize_nat _ _) (by rw [PySem.sizeLine_eq]; omega) ?_; intro g'; refine Stop.out ?_)))
  k_with "own CompSrcT" =>
    (k_here; k_dflt (first
    | (refine LCt.CompSrcT.ledger (by rfl) (by k_asm) (by k_asm) (by k_mem) (by rw [List.size_toArray, PySem.sizeLine_eq]; (first | omega | (simp only [List.length_append, List.length_cons, List.length_nil, List.length_map]; omega))) ?_; intro g'; refine Stop.out ?_)
    | (refine LCt.CompSrcT.base (by rfl) (by k_asm) (by k_asm) (by assumption) (by rw [List.size_toArray, PySem.sizeLine_eq]; (first | omega | (simp only [List.length_append, List.length_cons, List.length_nil, List.length_map]; omega))) ?_; intro g'; refine Stop.out ?_)
    | (refine LCt.CompSrcT.range (by rfl) (by k_asm) (by k_asm) (by assumption) (small_one (by omega) (by omega) (by omega) (by omega)) (rangeSize_nat _ _) (by rw [PySem.sizeLine_eq]; omega) ?_; intro g'; refine Stop.out ?_)))
  k_with "own exec For Name Call cons nil" =>
    (refine Stop.out ?_)
  k_with "own call ref" =>
    (
    (with_reducible show wpAny _ _ (call (Value.ref 138) _) _ _ _);
    (k_dflt (refine draw_Kb (by k_asm) (by k_asm) (by k_asm) (by k_asm) (by k_asm) rfl rfl rfl rfl (by k_extra "room") (by k_extra "room") (by k_updF) (by assumption) (by assumption) (by k_extra "ar") (by k_extra "ar") (by k_extra "ar") ?_)); (intro _ _ _ _ _ _ _ hpO hnF hnN); (try dsimp only at hnN); (try dsimp only))
  k_with "own call type:range" =>
    (k_here; (k_dflt (refine range1_rows (by k_asm) (by k_asm) ?_)); intro _ _ _ _ _ _ _ hnN _; (try dsimp only))
  k_with "own subscriptTail" =>
    ((with_reducible show wpAny _ _ (subscriptTail _ _ (Value.ref _) (Value.int _ _)) _ _ _); (k_dflt (refine item_bytes (by k_asm) (by k_mem) (by repeat (first | exact BytesIn.nil | apply BytesIn.cons)) (by assumption) (by (simp only [List.length_cons, List.length_nil]; k_extra "ar")) (by k_extra "ar") ?_)); intro _ _ hbm; have hlb := len7 hbm rfl)
  k_with "own getMethod str" =>
    (refine method_enc ?_)
  k_with "own getMethod bytes" =>
    (refine method_bjoin ?_)
  k_with "own call builtin:str.encode" =>
    (k_dflt (refine enc_K (by k_extra "ar") ?_); intro _ _)
  k_with "own call builtin:bytes.join" =>
    (k_here; (k_dflt (refine join_led (by k_asm) (by k_mem) (by assumption) (by assumption) (by assumption) ?_)); intro _ _)
  k_with "own binaryOp Add bytes bytes" =>
    ((with_reducible show wpAny _ _ (binaryOp _ (Value.bytes (List.toArray _) _) (Value.bytes (List.toArray _) _)) _ _ _); (k_dflt (refine add_B (by first | k_extra "ar" | (simp only [List.length_cons, List.length_nil, List.length_append]; k_extra "ar")) ?_)); intro _ _)
  k_with "own k_ne" =>
    (refine neN ?_; (try dsimp only); first | exact NeF.ne (by with_reducible assumption) | exact NeF.ne' (by with_reducible assumption) | k_extra "ar")
  k_with "allne" =>
    ((try simp only [AllNe, List.pairwise_cons, List.mem_cons, List.not_mem_nil, or_false, forall_eq_or_imp, forall_eq, List.Pairwise.nil, and_true, false_implies, implies_true]); repeat' (first | apply And.intro | (show @_root_.Ne Nat _ _; first | exact NeF.ne (by assumption) | exact NeF.ne' (by assumption) | k_extra "ar")))
  k_with "own k_all" =>
    (refine List.forall_mem_append.mpr ⟨?_, ?_⟩ <;> k_all)
  k_with "leaf" =>
    (intro p hp; iterate 24 try (with_reducible (first | exact hp | exact List.mem_append_left _ hp | apply List.mem_append_right | apply in_tl)))
  k_with "elem" =>
    (iterate 24 try (with_reducible (first | exact List.mem_cons_self | apply in_tl | apply List.mem_append_right)))
  k_with "sub9" =>
    (repeat' (first | exact sub_nil | refine sub_cons (by first | (k_extra "elem"; done) | k_mem) ?_ | (k_extra "leaf"; done) | refine sub_app ?_ ?_))
  k_with "mm" =>
    (iterate 14 (try (first | exact List.mem_cons_self | apply in_tl)))
  k_with "off9" =>
    (repeat' (first | exact off_nil | refine off_cons (by first | exact off_lt (by assumption) | exact OwnOff.ne (by assumption) (by k_extra "mm")) ?_))
  trivial
theorem all_segs : SegAt 0 At0 := seg0 (seg5 (seg8 (seg10 (seg14 seg15))))
theorem led_objs {h₀ h : Heap} {L a b : Addr} {o o' : Obj} (_ : News h₀ L h [(a, o), (b, o')]) : ∃ x y, x = o ∧ y = o' := ⟨_, _, rfl, rfl⟩
theorem fin_law : PySem.Challenge.rw_no0353_01.Holds := by
  apply Mine.hd
  k_go0
  (all_goals try k_fold)
  rename World => w
  rename Fr _ _ _ _ => F
  rename News _ _ _ _ => N
  rename Below callerA _ _ _ => B
  rename Top _ _ _ _ _ _ => T
  rename (Mine.hd.heap_39 _).In _ => X
  rename IntsAre _ _ => hI
  rename Heap.IsList _ _ _ => hL
  rename ¬ _ < _ => hlen
  obtain ⟨oD, oP, rfl, rfl⟩ := led_objs N
  rename oD.data = _ => hdD
  rename oP.data = _ => hdP
  rename (Shared.gens _) = #[] => hgen
  refine wpAny_mono (Q := qk) (E := fun _ _ => False) ?_ (fun _ _ h => h) (fun _ _ h => h.elim)
  refine all_segs w _ _ _ _ _ _ [] callerA _ _ _ _ _ qk _ ⟨B, X, T, by decide, by decide, ?_⟩ ⟨_, oD, oP, _, _, _, F, N, hdD.trans rfl, hdP.trans rfl, rfl, hL, hI, by k_extra "ar"⟩
  intro h' tk dr m' F'
  show GoodW _ _ _ _ _ _ _
  refine ⟨.inl ⟨.bool true, .bool true, [], rfl, ?_, ?_, ?_, ?_⟩, fun b o e => F'.keep b o e, rfl, hgen⟩
  rotate_left
  · constructor
  · wrow_post
  · exact fun _ => ⟨List.nodup_nil, fun a h => nomatch h⟩
  · exact raisesW_false (by wrow_none_raised)
end
end Mine
theorem PySem.Challenge.cw_no0353_01_holds : PySem.Challenge.rw_no0353_01.Holds := by
  exact Mine.fin_law
