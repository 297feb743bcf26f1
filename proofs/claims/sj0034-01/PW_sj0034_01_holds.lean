import PyProof.Rows.All
import Wide.All
import OpenK.AllK
import Wide.FinOn
import PySem.Challenge.RW_sj0034_01
set_option Elab.async false
open PySem PySem.W PyProof.Rows PySem.Spec
local macro_rules | `(tactic| k_mem) => `(tactic| first | with_reducible assumption | exact List.mem_cons_self | (refine List.mem_cons_of_mem _ ?_; k_mem) | (refine List.mem_append_left _ ?_; k_mem) | (refine List.mem_append_right _ ?_; k_mem))
local macro_rules | `(tactic| walk_at "execs cons") => `(tactic| k_extra "execs cons")
local macro_rules | `(tactic| walk_at "call ref") => `(tactic| k_extra "call ref")
local macro_rules | `(tactic| walk_at "subscriptTail Name Constant ref int") => `(tactic| k_extra "subscriptTail Name Constant ref int")
local macro_rules | `(tactic| walk_at "eval ListComp") => `(tactic| k_extra "eval ListComp")
local macro_rules | `(tactic| walk_at "call builtin:len") => `(tactic| k_extra "call builtin:len")
local macro_rules | `(tactic| walk_at "CompSrc") => `(tactic| k_extra "CompSrc")
local macro_rules | `(tactic| walk_at "subscriptTail Subscript") => `(tactic| k_extra "subscriptTail Subscript")
local macro_rules | `(tactic| walk_at "subscriptTail Name Name ref int") => `(tactic| k_extra "subscriptTail Name Name ref int")
local macro_rules | `(tactic| walk_at "subscriptTail Name UnaryOp") => `(tactic| k_extra "subscriptTail Name UnaryOp")
local macro_rules | `(tactic| walk_at "call builtin:list.append") => `(tactic| k_extra "call builtin:list.append")
local macro_rules | `(tactic| walk_at "call type:reversed") => `(tactic| k_extra "call type:reversed")
local macro_rules | `(tactic| walk_at "binaryOp Add ref ref") => `(tactic| k_extra "binaryOp Add ref ref")
local macro_rules | `(tactic| walk_at "NestSrc") => `(tactic| k_extra "NestSrc")
local macro_rules | `(tactic| walk_at "call type:list") => `(tactic| k_extra "call type:list")
local macro_rules | `(tactic| walk_at "exec While") => `(tactic| k_extra "exec While")
local macro_rules | `(tactic| walk_at "exec For Name Subscript cons nil") => `(tactic| k_extra "exec For Name Subscript cons nil")
local macro_rules | `(tactic| walk_at "compareOp In int ref") => `(tactic| k_extra "compareOp In int ref")
local macro_rules | `(tactic| walk_at "compareOp NotIn int ref") => `(tactic| k_extra "compareOp NotIn int ref")
local macro_rules | `(tactic| walk_at "exec For Tuple Name cons nil") => `(tactic| k_extra "exec For Tuple Name cons nil")
local macro_rules | `(tactic| walk_at "exec For Name Call cons nil") => `(tactic| k_extra "exec For Name Call cons nil")
local macro_rules | `(tactic| walk_at "exec For Tuple Call cons nil") => `(tactic| k_extra "exec For Tuple Call cons nil")
local macro_rules | `(tactic| walk_at "call builtin:sorted") => `(tactic| k_extra "call builtin:sorted")
local macro_rules | `(tactic| walk_at "storeName int") => `(tactic| k_extra "storeName int")
local macro_rules | `(tactic| walk_at "setItem ref int") => `(tactic| k_extra "setItem ref int")
local macro_rules | `(tactic| walk_at "setItem ref str") => `(tactic| k_extra "setItem ref str")
local macro_rules | `(tactic| walk_at "subscriptTail Name Slice ref ref") => `(tactic| k_extra "subscriptTail Name Slice ref ref")
local macro_rules | `(tactic| walk_at "subscriptTail Subscript Name Constant Constant ref int") => `(tactic| k_extra "subscriptTail Subscript Name Constant Constant ref int")
local macro_rules | `(tactic| walk_at "subscriptTail Attribute Name Subscript ref int") => `(tactic| k_extra "subscriptTail Attribute Name Subscript ref int")
local macro_rules | `(tactic| walk_at "subscriptTail Attribute Name Name ref int") => `(tactic| k_extra "subscriptTail Attribute Name Name ref int")
local macro_rules | `(tactic| walk_at "RawSrcT") => `(tactic| k_extra "RawSrcT")
local macro_rules | `(tactic| walk_at "setItem ref ref") => `(tactic| k_extra "setItem ref ref")
local macro_rules | `(tactic| walk_at "getAttr ref") => `(tactic| k_extra "getAttr ref")
local macro_rules | `(tactic| walk_at "newTuple") => `(tactic| k_extra "newTuple")
local macro_rules | `(tactic| walk_at "getMethod ref") => `(tactic| k_extra "getMethod ref")
local macro_rules | `(tactic| walk_at "CompSrcT") => `(tactic| k_extra "CompSrcT")
local macro_rules | `(tactic| walk_at "compareOp In ref ref") => `(tactic| k_extra "compareOp In ref ref")
local macro_rules | `(tactic| walk_at "call type:tuple") => `(tactic| k_extra "call type:tuple")
local macro_rules | `(tactic| walk_at "compareOp Eq ref ref") => `(tactic| k_extra "compareOp Eq ref ref")
local macro_rules | `(tactic| walk_at "pyIter ref") => `(tactic| k_extra "pyIter ref")
local macro_rules | `(tactic| walk_at "inplaceOp Add ref ref") => `(tactic| k_extra "inplaceOp Add ref ref")
local macro_rules | `(tactic| walk_at "callWith builtin:list.append") => `(tactic| k_extra "callWith builtin:list.append")
local macro_rules | `(tactic| passes_own) => `(tactic| with_reducible assumption)
local macro_rules | `(tactic| k_ne) => `(tactic| k_extra "k_ne")
local macro_rules | `(tactic| k_all) => `(tactic| k_extra "k_all")
local macro_rules | `(tactic| k_room) => `(tactic| k_extra "k_room")
local macro_rules | `(tactic| k_enter) => `(tactic| (refine' code_defC ?k1 ?k2 ?k3 ?k4 ?k5 ?kA ?kF ?kK ?k6 ?k7 ?k8 ?k9 ?kB ?kD ?_ ?c2 ?c3 ?c4; (case kA => exact rfl); (case kF => exact rfl); (case kK => assumption); (case k1 => k_asm); (case k2 => k_asm); (case k3 => k_asm); (case k4 => k_asm); (case k5 => k_asm); (case k6 => k_is); (case k7 => k_is); (case k8 => assumption); (case k9 => exact BindsTo.of_eq rfl); (case kB => exact rfl); (case kD => decide +kernel); (case c2 => exact rfl); (case c3 => exact rfl); (case c4 => exact rfl); k_whole; intro g' L' h' tk' cells' FG' F' N' Y' B' X' T' l1; (try k_lt l1); k_cells Y'; (try simp only [List.cons_append, List.nil_append] at N'); (try dsimp only); (try k_lift B'); (try k_fold)))

section
open PySem PySem.W PyProof.Rows
set_option Elab.async false
namespace Mine
theorem nq : PySem.W.namesOk = PySem.W.namesOk := rfl
name_quick tw16018607276475445134 for PySem.W.namesOk by Mine.nq
name_quick tw9948023125614773506 for PySem.W.namesOk by Mine.nq
name_quick tw6589095468515690095 for PySem.W.namesOk by Mine.nq
name_quick tw8537084889766193716 for PySem.W.namesOk by Mine.nq
name_quick tw1355338860687761863 for PySem.W.namesOk by Mine.nq
name_quick tw13512673800721320934 for PySem.W.namesOk by Mine.nq
name_quick tw18211773271919218964 for PySem.W.namesOk by Mine.nq
name_quick tw17532718790514356516 for PySem.W.namesOk by Mine.nq
name_quick tw13607416678640721797 for PySem.W.namesOk by Mine.nq
name_quick tw6607076655185829615 for PySem.W.namesOk by Mine.nq
name_quick tw14884601019740666482 for PySem.W.namesOk by Mine.nq
name_quick tw17497748084772794779 for PySem.W.namesOk by Mine.nq
name_quick tw5268983451555188008 for PySem.W.namesOk by Mine.nq
name_quick tw282004115355043989 for PySem.W.namesOk by Mine.nq
name_quick tw5706481520468235054 for PySem.W.namesOk by Mine.nq
name_quick tw10010936943081839664 for PySem.W.namesOk by Mine.nq
name_quick tw4549333791460862111 for PySem.W.namesOk by Mine.nq
name_quick tw17018628822417861297 for PySem.W.namesOk by Mine.nq
name_quick tw4558998842232669794 for PySem.W.namesOk by Mine.nq
name_quick tw14714103240675001986 for PySem.W.namesOk by Mine.nq
name_quick tw13254397897704925713 for PySem.W.namesOk by Mine.nq
name_quick tw9407582987413476825 for PySem.W.namesOk by Mine.nq
name_quick tw8603108125212654177 for PySem.W.namesOk by Mine.nq
name_quick tw17000458434675057986 for PySem.W.namesOk by Mine.nq
name_quick tw470574548607681690 for PySem.W.namesOk by Mine.nq
name_quick tw13317431791736044220 for PySem.W.namesOk by Mine.nq
name_quick tw3636048126100218174 for PySem.W.namesOk by Mine.nq
name_quick tw1291980286583624508 for PySem.W.namesOk by Mine.nq
name_quick tw6434138532213402376 for PySem.W.namesOk by Mine.nq
name_quick tw14326252917377295143 for PySem.W.namesOk by Mine.nq
name_quick tw9011979029575296479 for PySem.W.namesOk by Mine.nq
name_quick tw7276740287692124622 for PySem.W.namesOk by Mine.nq
name_quick tw6448080314894763839 for PySem.W.namesOk by Mine.nq
name_quick tw14223099787259518943 for PySem.W.namesOk by Mine.nq
name_quick tw11729385059970357855 for PySem.W.namesOk by Mine.nq
name_quick tw2039238271031011813 for PySem.W.namesOk by Mine.nq
name_quick tw1218959903707654005 for PySem.W.namesOk by Mine.nq
name_quick tw3282434896037501709 for PySem.W.namesOk by Mine.nq
name_quick tw15168306246750427876 for PySem.W.namesOk by Mine.nq
name_quick tw9908251947323293946 for PySem.W.namesOk by Mine.nq
name_quick tw1962928258387122110 for PySem.W.namesOk by Mine.nq
name_quick tw117213463901210413 for PySem.W.namesOk by Mine.nq
name_quick tw6004533443673955352 for PySem.W.namesOk by Mine.nq
name_quick tw8860024209350480642 for PySem.W.namesOk by Mine.nq
name_quick tw10833955939284561965 for PySem.W.namesOk by Mine.nq
name_quick tw1377046205977697930 for PySem.W.namesOk by Mine.nq
name_quick tw14168537005229113720 for PySem.W.namesOk by Mine.nq
name_quick tw4292500188555128830 for PySem.W.namesOk by Mine.nq
name_quick tw3105397867545767578 for PySem.W.namesOk by Mine.nq
name_quick tw6380047634161181297 for PySem.W.namesOk by Mine.nq
name_quick tw16531745337717519161 for PySem.W.namesOk by Mine.nq
name_quick tw18220123701641295943 for PySem.W.namesOk by Mine.nq
name_quick tw10938465397075749097 for PySem.W.namesOk by Mine.nq
name_quick tw136631920214876835 for PySem.W.namesOk by Mine.nq
name_quick tw392140993173905013 for PySem.W.namesOk by Mine.nq
name_quick tw17964007177503468958 for PySem.W.namesOk by Mine.nq
name_quick tw4302124980754421698 for PySem.W.namesOk by Mine.nq
name_quick tw15278061642289888581 for PySem.W.namesOk by Mine.nq
name_quick tw4527066259768149269 for PySem.W.namesOk by Mine.nq
name_quick tw5902227825499142635 for PySem.W.namesOk by Mine.nq
name_quick tw16350708796919097252 for PySem.W.namesOk by Mine.nq
name_quick tw16049961110935095269 for PySem.W.namesOk by Mine.nq
name_quick tw460243522976405022 for PySem.W.namesOk by Mine.nq
name_quick tw2283851925072248500 for PySem.W.namesOk by Mine.nq
name_quick tw14979626087600564940 for PySem.W.namesOk by Mine.nq
name_quick tw16741492637210864865 for PySem.W.namesOk by Mine.nq
name_quick tw8703263022893421829 for PySem.W.namesOk by Mine.nq
name_quick tw5032809538720368765 for PySem.W.namesOk by Mine.nq
name_quick tw505943868828395459 for PySem.W.namesOk by Mine.nq
name_quick tw14108194823987119177 for PySem.W.namesOk by Mine.nq
name_quick tw6683783046931543321 for PySem.W.namesOk by Mine.nq
name_quick tw8901101332624060146 for PySem.W.namesOk by Mine.nq
name_quick tw7745614565497352828 for PySem.W.namesOk by Mine.nq
name_quick tw10528696920762540405 for PySem.W.namesOk by Mine.nq
name_quick tw1702518465993881591 for PySem.W.namesOk by Mine.nq
name_quick tw11566699232636054958 for PySem.W.namesOk by Mine.nq
name_quick tw18340240734955500558 for PySem.W.namesOk by Mine.nq
name_quick tw15066959818950650227 for PySem.W.namesOk by Mine.nq
name_quick tw6654550962395885724 for PySem.W.namesOk by Mine.nq
name_quick tw14537914154153760125 for PySem.W.namesOk by Mine.nq
name_quick tw3619232141914619222 for PySem.W.namesOk by Mine.nq
name_quick tw14834023430324568649 for PySem.W.namesOk by Mine.nq
name_quick tw1829445100760108279 for PySem.W.namesOk by Mine.nq
name_quick tw13335737130258781183 for PySem.W.namesOk by Mine.nq
name_quick tw3778451253796500701 for PySem.W.namesOk by Mine.nq
name_quick tw17100903815162463580 for PySem.W.namesOk by Mine.nq
name_quick tw4090926877573551719 for PySem.W.namesOk by Mine.nq
name_quick tw3577408171920636059 for PySem.W.namesOk by Mine.nq
name_quick tw17111948838632640456 for PySem.W.namesOk by Mine.nq
name_quick tw4658958612460137192 for PySem.W.namesOk by Mine.nq
name_quick tw17988542015724977305 for PySem.W.namesOk by Mine.nq
name_quick tw10996506086634736982 for PySem.W.namesOk by Mine.nq
name_quick tw11543547407058413889 for PySem.W.namesOk by Mine.nq
name_quick tw15112985482279097393 for PySem.W.namesOk by Mine.nq
name_quick tw10007627690174824804 for PySem.W.namesOk by Mine.nq
name_quick tw1258717718454355964 for PySem.W.namesOk by Mine.nq
name_quick tw12945451867199242903 for PySem.W.namesOk by Mine.nq
name_quick tw8075568018651887793 for PySem.W.namesOk by Mine.nq
name_quick tw8693227569615203950 for PySem.W.namesOk by Mine.nq
name_quick tw13900631225919944168 for PySem.W.namesOk by Mine.nq
name_quick tw2478078296215019888 for PySem.W.namesOk by Mine.nq
name_quick tw9851784056462626060 for PySem.W.namesOk by Mine.nq
name_quick tw2627984346626558326 for PySem.W.namesOk by Mine.nq
name_quick tw17975652961387846372 for PySem.W.namesOk by Mine.nq
name_quick tw4071324889030633612 for PySem.W.namesOk by Mine.nq
name_quick tw15894407043143930727 for PySem.W.namesOk by Mine.nq
name_quick tw3362959441861295915 for PySem.W.namesOk by Mine.nq
name_quick tw5349121933718820234 for PySem.W.namesOk by Mine.nq
name_quick tw13236226663087606529 for PySem.W.namesOk by Mine.nq
name_quick tw11788150170368784547 for PySem.W.namesOk by Mine.nq
name_quick tw14386061602966655976 for PySem.W.namesOk by Mine.nq
name_quick tw12233582284571471492 for PySem.W.namesOk by Mine.nq
name_quick tw3152983702415266003 for PySem.W.namesOk by Mine.nq
name_quick tw17000155066101142889 for PySem.W.namesOk by Mine.nq
name_quick tw11317593695737139937 for PySem.W.namesOk by Mine.nq
name_quick tw7892128664451923741 for PySem.W.namesOk by Mine.nq
name_quick tw13336611051118763670 for PySem.W.namesOk by Mine.nq
name_quick tw4775785305629353868 for PySem.W.namesOk by Mine.nq
name_quick tw12866136484021002089 for PySem.W.namesOk by Mine.nq
name_quick tw9315938663221665524 for PySem.W.namesOk by Mine.nq
name_quick tw5770868932273138760 for PySem.W.namesOk by Mine.nq
name_quick tw11270796479367742343 for PySem.W.namesOk by Mine.nq
name_quick tw15475462885187679331 for PySem.W.namesOk by Mine.nq
name_quick tw3764465048917985505 for PySem.W.namesOk by Mine.nq
name_quick tw17532440430192770315 for PySem.W.namesOk by Mine.nq
name_quick tw10942035263794033107 for PySem.W.namesOk by Mine.nq
name_quick tw1333364371103165705 for PySem.W.namesOk by Mine.nq
name_quick tw1503297043503765363 for PySem.W.namesOk by Mine.nq
name_quick tw2862820112641550484 for PySem.W.namesOk by Mine.nq
name_quick tw17888162413812561239 for PySem.W.namesOk by Mine.nq
name_quick tw6679490504615227074 for PySem.W.namesOk by Mine.nq
name_quick tw4933834842325187142 for PySem.W.namesOk by Mine.nq
name_quick tw6929956602132211858 for PySem.W.namesOk by Mine.nq
name_quick tw16593013826814733010 for PySem.W.namesOk by Mine.nq
name_quick tw16804044748790271530 for PySem.W.namesOk by Mine.nq
name_quick tw9274575747777397700 for PySem.W.namesOk by Mine.nq
name_quick tw4679858250743294509 for PySem.W.namesOk by Mine.nq
name_quick tw17069979004554194336 for PySem.W.namesOk by Mine.nq
name_quick tw151948405760981731 for PySem.W.namesOk by Mine.nq
name_quick tw7269565832213808900 for PySem.W.namesOk by Mine.nq
name_quick tw11985326045990495214 for PySem.W.namesOk by Mine.nq
name_quick tw951843321253372498 for PySem.W.namesOk by Mine.nq
name_quick tw13981391230805400906 for PySem.W.namesOk by Mine.nq
name_quick tw8753696776887207221 for PySem.W.namesOk by Mine.nq
name_quick tw662354867322794072 for PySem.W.namesOk by Mine.nq
name_quick tw1258299570235058372 for PySem.W.namesOk by Mine.nq
name_quick tw1092655722715705105 for PySem.W.namesOk by Mine.nq
name_quick tw13215998728584607739 for PySem.W.namesOk by Mine.nq
name_quick tw13789449189825218787 for PySem.W.namesOk by Mine.nq
name_quick tw8424611434330503625 for PySem.W.namesOk by Mine.nq
name_quick tw5529568453561195837 for PySem.W.namesOk by Mine.nq
name_quick tw3972328310683599613 for PySem.W.namesOk by Mine.nq
name_quick tw16981483081396284153 for PySem.W.namesOk by Mine.nq
name_quick tw14126943448341045398 for PySem.W.namesOk by Mine.nq
name_quick tw9862997608875712007 for PySem.W.namesOk by Mine.nq
name_quick tw14333388528381170442 for PySem.W.namesOk by Mine.nq
name_quick tw13678640442995254988 for PySem.W.namesOk by Mine.nq
name_quick tw11333186260410459676 for PySem.W.namesOk by Mine.nq
name_quick tw9763268239775435451 for PySem.W.namesOk by Mine.nq
name_quick tw15007238320947547705 for PySem.W.namesOk by Mine.nq
name_quick tw8579058602437062094 for PySem.W.namesOk by Mine.nq
name_quick tw7232422423428716515 for PySem.W.namesOk by Mine.nq
name_quick tw932993149863042379 for PySem.W.namesOk by Mine.nq
name_quick tw3131671291697673992 for PySem.W.namesOk by Mine.nq
name_quick tw11588390666370768167 for PySem.W.namesOk by Mine.nq
name_quick tw4011157648589011858 for PySem.W.namesOk by Mine.nq
name_quick tw4552823106982906706 for PySem.W.namesOk by Mine.nq
name_quick tw18074178063015702965 for PySem.W.namesOk by Mine.nq
name_quick tw1641718772566732887 for PySem.W.namesOk by Mine.nq
name_quick tw4565691546616451037 for PySem.W.namesOk by Mine.nq
name_quick tw17730448691065144110 for PySem.W.namesOk by Mine.nq
name_quick tw4797165386629745026 for PySem.W.namesOk by Mine.nq
name_quick tw7275051467321613617 for PySem.W.namesOk by Mine.nq
name_quick tw17279654841073493023 for PySem.W.namesOk by Mine.nq
name_quick tw6245536207120538393 for PySem.W.namesOk by Mine.nq
name_quick tw682011567655089306 for PySem.W.namesOk by Mine.nq
name_quick tw8376441433122354887 for PySem.W.namesOk by Mine.nq
name_quick tw11420187438672877268 for PySem.W.namesOk by Mine.nq
name_quick tw16349804527192203551 for PySem.W.namesOk by Mine.nq
name_quick tw5721027456603625697 for PySem.W.namesOk by Mine.nq
name_quick tw16414604833108395602 for PySem.W.namesOk by Mine.nq
name_quick tw2719445374943340272 for PySem.W.namesOk by Mine.nq
name_quick tw9564595351457756722 for PySem.W.namesOk by Mine.nq
name_quick tw17954471519018878134 for PySem.W.namesOk by Mine.nq
name_quick tw1537898542681612871 for PySem.W.namesOk by Mine.nq
name_quick tw704327219915372674 for PySem.W.namesOk by Mine.nq
name_quick tw18056578402003937789 for PySem.W.namesOk by Mine.nq
name_quick tw17672482021469178181 for PySem.W.namesOk by Mine.nq
name_quick tw15263041282635125899 for PySem.W.namesOk by Mine.nq
set_option maxRecDepth 100000 in
set_option maxHeartbeats 8000000 in
open_top hd for PySem.Challenge.rw_sj0034_01
end Mine
end

section
open PySem PySem.W PyProof.Rows PySem.Spec
set_option Elab.async false
namespace Mine
theorem fill : PySem.Challenge.rw_sj0034_01 = PySem.Challenge.rw_sj0034_01 ∧ Mine.hd.heap_39 = Mine.hd.heap_39 := by
  k_fill
  exact ⟨rfl, rfl⟩

theorem fmod_lo {x m : Int} (hm : 1 ≤ m) : 0 ≤ x.fmod m := Int.fmod_nonneg_of_pos _ (by omega)
theorem fmod_hi {x m : Int} (hm : 1 ≤ m) : x.fmod m < m := Int.fmod_lt_of_pos _ (by omega)

set_option maxRecDepth 100000 in
set_option maxHeartbeats 8000000 in
theorem coin_walk (w : World) (mean : ExcName → Option Value) (mg mb : Str → Option Value) (dp un : Nat) (gd : Option (List Code)) (cn : Str) (cs : Scope) (L a : Addr) (ccd : Value) (cl : List (Str × Addr)) (outer : List Env)
   (A₀ : Around) (base h₀ : Heap) (m : Str → Option Value) (s : Shared) (Q E : Value → Shared → Prop)
   (rest : List (Addr × Obj)) (P C : Addr) (vs : List Value) (ns : List Int) (nc : Nat) (i : Int) (tk : Tok) (many : Int) (mt : Tok)
   (B : Below A₀ base outer h₀) (F : Fr h₀ L s.heap m) (X : (Mine.hd.heap_39 w.params).In h₀)
   (N : News h₀ L s.heap ((P, listOf #[.ref C, .int i tk] 0) :: (C, listOf vs.toArray nc) :: rest))
   (T : Top Mine.hd.view_39 (looseW Mine.hd.view_39 []) mean mg mb h₀) (hk : cs.kind = .function)
   (hoff : OwnOff rest [P]) (hPC : C ≠ P) (hI : IntsAre vs ns) (hlen : ns.length ≤ 60) (hi : -1 ≤ i) (hi2 : i < 1000000) (hm : 1 ≤ many) (hm2 : many ≤ 1000)
   (hdp : dp + 3 < recursionLimit) (hun : un + 20 < cLine)
   (ret : ∀ r rt h' tk' it, Fr h₀ L h' m → News h₀ L h' ((P, listOf #[.ref C, .int (i+1) it] 0) :: (C, listOf vs.toArray nc) :: rest) → 0 ≤ r → r < many → Q (.int r rt) { s with heap := h', toks := tk' }) :
   wpAny (model PySem.Challenge.rw_sj0034_01.row.prog w) (ktrTop dp un gd cn cs L a ccd cl outer) (call (.ref (ktn_at% "_law_coin")) [.ref P, .int many mt]) Q E s := by
  refine wpAny_call ?_
  w_top off
  k_with_none
  k_dflt ktr_enter
  k_steps
  all_goals exact ret _ _ _ _ _ (by assumption) (by assumption) (fmod_lo hm) (fmod_hi hm)

theorem coin_spec {w : World} {mean : ExcName → Option Value} {mg mb : Str → Option Value} {dp un : Nat} {gd : Option (List Code)} {cn : Str} {cs : Scope} {L a : Addr} {ccd : Value} {cl : List (Str × Addr)} {outer : List Env}
   {A₀ : Around} {base h₀ : Heap} {m : Str → Option Value} {s : Shared} {Q E : Value → Shared → Prop}
   {news : List (Addr × Obj)} {nf : Obj → List (Addr × Obj)} {P C : Addr} {vs : List Value} {ns : List Int} {nc : Nat} {i : Int} {tk : Tok} {many : Int} {mt : Tok}
   (B : Below A₀ base outer h₀) (F : Fr h₀ L s.heap m) (X : (Mine.hd.heap_39 w.params).In h₀) (N : News h₀ L s.heap news)
   (T : Top Mine.hd.view_39 (looseW Mine.hd.view_39 []) mean mg mb h₀) (hk : cs.kind = .function)
   (U : UpdF P (listOf #[.ref C, .int i tk] 0) news nf) (hC : (C, listOf vs.toArray nc) ∈ news)
   (hI : IntsAre vs ns) (hlen : ns.length ≤ 60) (hi : -1 ≤ i) (hi2 : i < 1000000) (hm : 1 ≤ many) (hm2 : many ≤ 1000)
   (hPC : C ≠ P)
   (hdp : dp + 3 < recursionLimit) (hun : un + 20 < cLine)
   (ret : ∀ r rt h' tk' it, Fr h₀ L h' m → News h₀ L h' (nf (listOf #[.ref C, .int (i+1) it] 0)) → 0 ≤ r → r < many → Q (.int r rt) { s with heap := h', toks := tk' }) :
   wpAny (model PySem.Challenge.rw_sj0034_01.row.prog w) (ktrTop dp un gd cn cs L a ccd cl outer) (call (.ref (ktn_at% "_law_coin")) [.ref P, .int many mt]) Q E s := by
  obtain ⟨pre, post, rfl, hg, h1, h2⟩ := U.split
  refine coin_walk w mean mg mb dp un gd cn cs L a ccd cl outer A₀ base h₀ m s Q E (pre ++ post) P C vs ns nc i tk many mt B F X ?_ T hk ?_ hPC hI hlen hi hi2 hm hm2 hdp hun ?_
  · intro p hp
    rcases List.mem_cons.mp hp with rfl | hp
    · exact N _ (List.mem_append_right _ (.head _))
    rcases List.mem_cons.mp hp with rfl | hp
    · exact N _ hC
    · exact N p ((List.mem_append.mp hp).elim (fun h => List.mem_append_left _ h) fun h => List.mem_append_right _ (.tail _ h))
  · intro p hp b hb
    rw [List.mem_singleton.mp hb]
    exact (List.mem_append.mp hp).elim (h1 p) (h2 p)
  · intro r rt h' tk' it F' N' hr0 hr1
    refine ret r rt h' tk' it F' ?_ hr0 hr1
    rw [hg]
    intro p hp
    rcases List.mem_append.mp hp with hp | hp
    · exact N' p (.tail _ (.tail _ (List.mem_append_left _ hp)))
    · rcases List.mem_cons.mp hp with rfl | hp
      · exact N' _ (.head _)
      · exact N' p (.tail _ (.tail _ (List.mem_append_right _ hp)))
end Mine
end

section
open PySem PySem.W PyProof.Rows PySem.Spec
namespace Mine
/-- a tree of the law's making -/
inductive Tr where
  | sig (n r : Int)
  | ext (w : Int) (e : Tr) (b : Bool)
  | slice (w : Int) (e : Tr) (lo : Int)
  | cat (w : Int) (x y : Tr)

def Tr.width : Tr → Int
  | .sig n _ => n
  | .ext w _ _ => w
  | .slice w _ _ => w
  | .cat w _ _ => w

def Tr.deep : Tr → Nat
  | .sig .. => 1
  | .ext _ e _ => e.deep + 1
  | .slice _ e _ => e.deep + 1
  | .cat _ x y => max x.deep y.deep + 1

abbrev tupO (its : Array Value) : Obj := { cls := .type "tuple", data := .seq its }

/-- how the ledger bears a tree -/
inductive TrIn (news : List (Addr × Obj)) : Value → Tr → Prop
  | sig {a : Addr} {t0 t1 t2 : Tok} {n r : Int} (h : (a, tupO #[.str (Str.ofString "sig") t0, .int n t1, .int r t2]) ∈ news) : TrIn news (.ref a) (.sig n r)
  | ext {a : Addr} {t0 t1 : Tok} {w : Int} {v : Value} {e : Tr} {b : Bool} (h : (a, tupO #[.str (Str.ofString "ext") t0, .int w t1, v, .bool b]) ∈ news) (he : TrIn news v e) : TrIn news (.ref a) (.ext w e b)
  | slice {a : Addr} {t0 t1 t2 : Tok} {w lo : Int} {v : Value} {e : Tr} (h : (a, tupO #[.str (Str.ofString "slice") t0, .int w t1, v, .int lo t2]) ∈ news) (he : TrIn news v e) : TrIn news (.ref a) (.slice w e lo)
  | cat {a p : Addr} {t0 t1 : Tok} {w : Int} {v u : Value} {x y : Tr} (h : (a, tupO #[.str (Str.ofString "cat") t0, .int w t1, .ref p]) ∈ news) (hp : (p, tupO #[v, u]) ∈ news) (hx : TrIn news v x) (hy : TrIn news u y) : TrIn news (.ref a) (.cat w x y)

theorem TrIn.mono {news news' : List (Addr × Obj)} {v : Value} {t : Tr} (h : TrIn news v t) (hs : ∀ p ∈ news, p ∈ news') : TrIn news' v t := by
  induction h with
  | sig h => exact .sig (hs _ h)
  | ext h _ ih => exact .ext (hs _ h) ih
  | slice h _ ih => exact .slice (hs _ h) ih
  | cat h hp _ _ ix iy => exact .cat (hs _ h) (hs _ hp) ix iy

/-- a tree as the law makes it -/
def Tr.Good (sz : Int → Int) : Tr → Prop
  | .sig n r => 0 ≤ r ∧ r < 3 ∧ n = sz r ∧ 1 ≤ n ∧ n ≤ 4
  | .ext w e _ => 1 ≤ w ∧ w ≤ 6 ∧ e.Good sz
  | .slice w e lo => 1 ≤ w ∧ w ≤ 6 ∧ -1 ≤ lo ∧ lo ≤ 2 ∧ e.Good sz
  | .cat w x y => w = x.width + y.width ∧ x.Good sz ∧ y.Good sz

/-- every tree is a tuple whose second place is its width -/
theorem TrIn.head {news : List (Addr × Obj)} {v : Value} {t : Tr} (h : TrIn news v t) : ∃ a its t1, v = .ref a ∧ (a, tupO its) ∈ news ∧ its.toList[1]? = some (.int t.width t1) := by
  cases h with
  | sig h => exact ⟨_, _, _, rfl, h, rfl⟩
  | ext h _ => exact ⟨_, _, _, rfl, h, rfl⟩
  | slice h _ => exact ⟨_, _, _, rfl, h, rfl⟩
  | cat h _ _ _ => exact ⟨_, _, _, rfl, h, rfl⟩
end Mine
namespace Mine
section
variable {prog : Program} {w : World} {A : Around} {E : Value → Shared → Prop} {s : Shared} {h₀ : Heap} {L : Addr} {news : List (Addr × Obj)}
theorem item_tupN {value slice : Expr} {a : Addr} {its : Array Value} {n : Nat} {k : Int} {u : Tok} {x : Value} {Q : Value → Shared → Prop} (N : News h₀ L s.heap news) (hm : (a, ({ cls := .type "tuple", data := .seq its n } : Obj)) ∈ news)
    (h0 : 0 ≤ k) (hk : k < 100) (hx : its.toList[k.toNat]? = some x) (h : Q x s)
    (hs : subscripted slice false (.ref a) (.int k u) = operate [.ref a, .int k u] (getItem (.ref a) (.int k u)) := by with_unfolding_all rfl) :
    wpAny (model prog w) A (subscriptTail value slice (.ref a) (.int k u)) Q E s := by
  have hT : IsTup s.heap a its.toList.toArray := by rw [Array.toArray_toList]; exact News.isTup N hm
  have hlt : k.toNat < its.toList.length := (List.getElem?_eq_some_iff.mp hx).1
  refine item_tupleT (l := its.toList) hT (by omega) (by omega) (j := k.toNat) ?_ hx h hs
  unfold seqIndex?
  have h1 : ¬ k < 0 := by omega
  have h2 : k < (its.toList.length : Int) := by omega
  simp only [h1, if_false, h0, h2, decide_true, Bool.and_self, if_true]
end
theorem ownOff_ne {own : List (Addr × Obj)} {b : Addr} (h : OwnOff own [b]) : ∀ p ∈ own, p.1 ≠ b := fun p hp => h p hp b (.head _)
theorem ownOff_app {own own' : List (Addr × Obj)} {adr : List Addr} (h : OwnOff own adr) (h' : OwnOff own' adr) : OwnOff (own ++ own') adr := fun p hp => (List.mem_append.mp hp).elim (h p) (h' p)
theorem ownOff_cons {a : Addr} {o : Obj} {own : List (Addr × Obj)} {adr : List Addr} (ha : ∀ b ∈ adr, a ≠ b) (h : OwnOff own adr) : OwnOff ((a, o) :: own) adr := fun p hp => (List.mem_cons.mp hp).elim (fun e => e ▸ ha) (h p)
/-- a block of the ledger, moved ahead -/
theorem sub_mid {α : Type} {X T M R : List α} : ∀ p ∈ X ++ (M ++ (T ++ R)), p ∈ X ++ (T ++ (M ++ R)) := fun _ hp =>
  (List.mem_append.mp hp).elim (List.mem_append_left _) fun h => List.mem_append_right _ ((List.mem_append.mp h).elim (fun h => List.mem_append_right _ (List.mem_append_left _ h)) fun h => (List.mem_append.mp h).elim (List.mem_append_left _) fun h => List.mem_append_right _ (List.mem_append_right _ h))
/-- a block of the ledger, passed over -/
theorem sub_skip {α : Type} {X T R : List α} : ∀ p ∈ X ++ R, p ∈ X ++ (T ++ R) := fun _ hp =>
  (List.mem_append.mp hp).elim (List.mem_append_left _) fun h => List.mem_append_right _ (List.mem_append_right _ h)
theorem news_sub {h₀ h : Heap} {L : Addr} {news news' : List (Addr × Obj)} (N : News h₀ L h news) (hs : ∀ p ∈ news', p ∈ news) : News h₀ L h news' := fun p hp => N p (hs p hp)
end Mine

namespace Mine
theorem TrIn.drop {pre post : List (Addr × Obj)} {SN : Addr} {o : Obj} (ho : o.cls = .type "list") {v : Value} {t : Tr} (h : TrIn (pre ++ (SN, o) :: post) v t) : TrIn (pre ++ post) v t := by
  have go : ∀ (a : Addr) (its : Array Value), (a, tupO its) ∈ pre ++ (SN, o) :: post → (a, tupO its) ∈ pre ++ post := by
    intro a its hm
    rcases List.mem_append.mp hm with hm | hm
    · exact List.mem_append_left _ hm
    · rcases List.mem_cons.mp hm with hm | hm
      · have : (tupO its).cls = o.cls := by rw [(Prod.mk.inj hm).2]
        rw [ho] at this
        exact absurd (Value.type.inj this) (by decide)
      · exact List.mem_append_right _ hm
  induction h with
  | sig h => exact .sig (go _ _ h)
  | ext h _ ih => exact .ext (go _ _ h) ih
  | slice h _ ih => exact .slice (go _ _ h) ih
  | cat h hp _ _ ix iy => exact .cat (go _ _ h) (go _ _ hp) ix iy
end Mine
end

section
open PySem PySem.W PyProof.Rows PySem.Spec PySem.Calls
namespace Mine
section
variable {prog : Program} {w : World} {A : Around} {s : Shared} {env : Env} {h₀ : Heap}

/-- what a turn leaves: the iterator as it was, the ledger nx apart from it, the word J -/
def TurnAt (h₀ : Heap) (L : Addr) (I : Addr) (oI : Obj) (J : (Str → Option Value) → List (Addr × Obj) → Prop) (s₁ : Shared) (Q : Flow → Shared → Prop) (f : Flow) (s₂ : Shared) : Prop :=
  match f with
  | .ret v => Q (.ret v) s₂
  | .brk => Q .next s₂
  | _ => ∃ h' tk m' news' nx, s₂ = { s₁ with heap := h', toks := tk } ∧ Fr h₀ L h' m' ∧ News h₀ L h' news' ∧ (I, oI) ∈ news' ∧ (∀ p ∈ nx, p ∈ news') ∧ (∀ p ∈ nx, p.1 ≠ I) ∧ J m' nx

theorem TurnAt.mk {L I : Addr} {oI : Obj} {J : (Str → Option Value) → List (Addr × Obj) → Prop} {s₁ : Shared} {Q : Flow → Shared → Prop} {h' : Heap} {tk : Nat} {m' : Str → Option Value} {news' : List (Addr × Obj)} (nx : List (Addr × Obj))
    (F : Fr h₀ L h' m') (N : News h₀ L h' news') (hI : (I, oI) ∈ news') (hs : ∀ p ∈ nx, p ∈ news') (ho : OwnOff nx [I]) (hJ : J m' nx) : TurnAt h₀ L I oI J s₁ Q .next { s₁ with heap := h', toks := tk } :=
  ⟨h', tk, m', news', nx, rfl, F, N, hI, hs, fun p hp => ho p hp I (.head _), hJ⟩

theorem codeAny_forI {R : Result → Shared → Prop} {target : Expr} {body : List Stmt} {I : Addr} {fp : List Addr} {n : Nat} {P : Nat → Value → Prop} {St : Nat → Heap → Prop} {m : Str → Option Value} {news : List (Addr × Obj)}
    (J : Nat → (Str → Option Value) → List (Addr × Obj) → Prop) (W : Walks prog w A I fp [I] n P St)
    (hIL : I ≠ env.locals) (hI0 : h₀.get? I = none) (hIo : ∀ i h, St i h → ∃ o, h.get? I = some o)
    (hSt : ∀ i h h' o nw m', St i h → h.get? I = some o → h'.get? I = some o → (∀ b o, h₀.get? b = some o → h'.get? b = some o) → News h₀ env.locals h' nw → J i m' nw → St i h')
    (hst : St 0 s.heap) (F : Fr h₀ env.locals s.heap m) (N : News h₀ env.locals s.heap news) (hn : ∀ p ∈ news, p.1 ≠ I) (h0 : J 0 m news)
    (hgo : ∀ i (s' : Shared) v (Q' : Unit → Shared → Prop), St i s'.heap → Q' () s' → wpAny (model prog w) A (letOwnedTupleGo target (.ref I) v) Q' (notedBy (model prog w) A env fun e s' => R (.error e) s') s')
    (step : ∀ i v m₁ nx h tk oI, i < n → P i v → J i m₁ nx → OwnOff nx [I] → Fr h₀ env.locals h m₁ → News h₀ env.locals h ((I, oI) :: nx) →
      wpAny (model prog w) A (assign target env v) (fun _ s₂ => wpAny (model prog w) A (execs body env) (TurnAt h₀ env.locals I oI (J (i + 1)) { s with heap := h, toks := tk } (fun f s' => R (.ok f) s')) (notedBy (model prog w) A env fun e s' => R (.error e) s') s₂)
        (notedBy (model prog w) A env fun e s' => R (.error e) s') { s with heap := h, toks := tk })
    (hR : ∀ h' tk m' nx, Fr h₀ env.locals h' m' → News h₀ env.locals h' nx → J n m' nx → R (.ok .next) { s with heap := h', toks := tk }) :
    codeAny (model prog w) A (.forLoop target (.ref I) body [] env) R s := by
  have old : ∀ b o, h₀.get? b = some o → b ∉ [I] := fun b o e hb => by rw [List.mem_singleton.mp hb, hI0] at e; cases e
  refine codeAny_forLoop_any
    (fun k s' => ∃ h' tk m' nx i, s' = { s with heap := h', toks := tk } ∧ St i h' ∧ Fr h₀ env.locals h' m' ∧ News h₀ env.locals h' nx ∧ (∀ p ∈ nx, p.1 ≠ I) ∧ J i m' nx ∧ i ≤ n ∧ k = n + 1 - i) ?_ (n + 1)
    ⟨s.heap, s.toks, m, news, 0, rfl, hst, F, N, hn, h0, Nat.zero_le _, rfl⟩
  rintro k s' ⟨h', tk, m', nx, i, rfl, hst', F', N', hoff, hJ, hi, rfl⟩
  have next : ∀ h₁ : Heap, (∀ b o, b ∉ [I] → h'.get? b = some o → h₁.get? b = some o) → Fr h₀ env.locals h₁ m' ∧ News h₀ env.locals h₁ nx := fun h₁ hk₁ =>
    ⟨⟨F'.ns.at' fun o e => hk₁ _ o (by simpa using Ne.symm hIL) e, fun b o e => hk₁ b o (old b o e) (F'.keep b o e), F'.above⟩, fun p hp => ⟨hk₁ _ _ (by simpa using hoff p hp) (N' p hp).1, (N' p hp).2⟩⟩
  by_cases hlt : i < n
  · refine W.item i _ _ _ hlt hst' fun v h₁ tk₁ hP hst₁ hk₁ => ?_
    obtain ⟨F₁, N₁⟩ := next h₁ hk₁
    obtain ⟨oI, heI⟩ := hIo _ _ hst₁
    have NI : News h₀ env.locals h₁ ((I, oI) :: nx) := fun p hp => by
      rcases List.mem_cons.mp hp with rfl | hp
      · exact ⟨heI, hIL, hI0⟩
      · exact N₁ p hp
    refine hgo (i + 1) _ v _ hst₁ ?_
    refine wpAny_mono (step i v m' nx h₁ tk₁ oI hlt hP hJ (fun p hp b hb => by rw [List.mem_singleton.mp hb]; exact hoff p hp) F₁ NI) (fun _ s₂ h₂ => wpAny_mono h₂ (fun f s₃ h₃ => ?_) fun _ _ e => e) fun _ _ e => e
    have fin : (∃ h' tk m' news' nx', s₃ = { s with heap := h', toks := tk } ∧ Fr h₀ env.locals h' m' ∧ News h₀ env.locals h' news' ∧ (I, oI) ∈ news' ∧ (∀ p ∈ nx', p ∈ news') ∧ (∀ p ∈ nx', p.1 ≠ I) ∧ J (i + 1) m' nx') →
        ∃ k, k < n + 1 - i ∧ ∃ h' tk m' nx i, s₃ = { s with heap := h', toks := tk } ∧ St i h' ∧ Fr h₀ env.locals h' m' ∧ News h₀ env.locals h' nx ∧ (∀ p ∈ nx, p.1 ≠ I) ∧ J i m' nx ∧ i ≤ n ∧ k = n + 1 - i := by
      rintro ⟨h₃', tk₃, m₃, news₃, nx₃, rfl, F₃, N₃, hI₃, hs₃, ho₃, hJ₃⟩
      have N₃' : News h₀ env.locals h₃' nx₃ := fun p hp => N₃ p (hs₃ p hp)
      exact ⟨n + 1 - (i + 1), by omega, h₃', tk₃, m₃, nx₃, i + 1, rfl, hSt _ _ _ _ _ _ hst₁ heI (N₃ _ hI₃).1 F₃.keep N₃' hJ₃, F₃, N₃', ho₃, hJ₃, hlt, rfl⟩
    cases f with
    | ret v => exact h₃
    | brk => exact h₃
    | cont => exact fin h₃
    | next => exact fin h₃
  · have hin : i = n := by omega
    subst hin
    refine W.done _ _ _ hst' fun h₁ tk₁ hk₁ => wpAny_execs_nil ?_
    obtain ⟨F₁, N₁⟩ := next h₁ hk₁
    exact hR h₁ tk₁ m' nx F₁ N₁ hJ

/-- a loop's iterator in hand -/
def LoopI (prog : Program) (w : World) (A : Around) (h₀ : Heap) (env : Env) (target : Expr) (body : List Stmt) (Q : Flow → Shared → Prop) (E : Value → Shared → Prop) (it : Value) (s₂ : Shared) : Prop :=
  ∃ (I : Addr) (fp : List Addr) (n : Nat) (P : Nat → Value → Prop) (St : Nat → Heap → Prop) (m : Str → Option Value) (news : List (Addr × Obj)) (J : Nat → (Str → Option Value) → List (Addr × Obj) → Prop),
    it = .ref I ∧ Walks prog w A I fp [I] n P St ∧ I ≠ env.locals ∧ h₀.get? I = none ∧ (∀ i h, St i h → ∃ o, h.get? I = some o) ∧
    (∀ i h h' o nw m', St i h → h.get? I = some o → h'.get? I = some o → (∀ b o, h₀.get? b = some o → h'.get? b = some o) → News h₀ env.locals h' nw → J i m' nw → St i h') ∧
    St 0 s₂.heap ∧ Fr h₀ env.locals s₂.heap m ∧ News h₀ env.locals s₂.heap news ∧ (∀ p ∈ news, p.1 ≠ I) ∧ J 0 m news ∧
    (∀ i (s' : Shared) v (Q' : Unit → Shared → Prop), St i s'.heap → Q' () s' → wpAny (model prog w) A (letOwnedTupleGo target (.ref I) v) Q' E s') ∧
    (∀ i v m₁ nx h tk oI, i < n → P i v → J i m₁ nx → OwnOff nx [I] → Fr h₀ env.locals h m₁ → News h₀ env.locals h ((I, oI) :: nx) →
      wpAny (model prog w) A (assign target env v) (fun _ s₃ => wpAny (model prog w) A (execs body env) (TurnAt h₀ env.locals I oI (J (i + 1)) { s₂ with heap := h, toks := tk } Q) E s₃) E { s₂ with heap := h, toks := tk }) ∧
    ∀ h' tk m' nx, Fr h₀ env.locals h' m' → News h₀ env.locals h' nx → J n m' nx → Q .next { s₂ with heap := h', toks := tk }

theorem For_I {E : Value → Shared → Prop} {Q : Flow → Shared → Prop} {target iter : Expr} {pos : Pos} {body : List Stmt} (h₀ : Heap)
    (h : wpAny (model prog w) A (eval iter env) (fun xv s₁ => wpAny (model prog w) A (pyIter xv) (fun it s₂ => LoopI prog w A h₀ env target body Q E it s₂) E s₁) E s)
    (hs : ∀ x, foldedSetIterable iter env x = pure x) (hE : PassesOwn (model prog w) A env E) :
    wpAny (model prog w) A (exec (.For target iter body [] pos) env) Q E s := by
  refine wpAny_For (wpAny_mono h (fun xv s₁ h₁ => wpAny_mono h₁ (fun it s₂ h₂ => ?_) fun _ _ e => e) fun _ _ e => e) hs
  obtain ⟨I, fp, n, P, St, m, news, J, rfl, W, hIL, hI0, hIo, hSt, hst, F, N, hn, h0, hgo, step, hQ⟩ := h₂
  refine codeAny_forI (R := fun r s' => match r with | .ok f => Q f s' | .error e => cameBackBy (model prog w) A env E e s') J W hIL hI0 hIo hSt hst F N hn h0 (fun i s' v Q' a b => wpAny_passesOwn hE (hgo i s' v Q' a b)) ?_ hQ
  intro i v m₁ nx h tk oI a b c d e f
  refine wpAny_passesOwn hE (wpAny_mono (step i v m₁ nx h tk oI a b c d e f) (fun _ s₃ h₃ => wpAny_passesOwn hE h₃) fun _ _ e => e)
end
end Mine
namespace Mine
theorem frame_over {stored : List Str} {m m₀ : Str → Option Value} (hm : ∀ z, stored.contains z = false → m z = m₀ z) : m = fun y => if stored.contains y then m y else m₀ y := by
  funext y
  cases h : stored.contains y with
  | true => simp
  | false => simp only [Bool.false_eq_true, if_false]; exact hm y h
/-- the word on the frame's map: only the stored names turn -/
def JN (stored : List Str) (m₀ : Str → Option Value) (Inv : List (Addr × Obj) → Prop) (m : Str → Option Value) (nx : List (Addr × Obj)) : Prop := Inv nx ∧ ∀ z, stored.contains z = false → m z = m₀ z
section
variable {prog : Program} {w : World} {A : Around} {s : Shared} {env : Env} {h₀ : Heap} {E : Value → Shared → Prop} {Q : Flow → Shared → Prop} {target : Expr} {body : List Stmt} {m₀ : Str → Option Value} {news : List (Addr × Obj)}

theorem loopI_of {I : Addr} {fp : List Addr} {n : Nat} {P : Nat → Value → Prop} {St : Nat → Heap → Prop} (stored : List Str) (Inv : Nat → List (Addr × Obj) → Prop) (W : Walks prog w A I fp [I] n P St)
    (hIL : I ≠ env.locals) (hI0 : h₀.get? I = none) (hIo : ∀ i h, St i h → ∃ o, h.get? I = some o)
    (hSt : ∀ i h h' o nw, St i h → h.get? I = some o → h'.get? I = some o → (∀ b o, h₀.get? b = some o → h'.get? b = some o) → News h₀ env.locals h' nw → Inv i nw → St i h')
    (hst : St 0 s.heap) (F : Fr h₀ env.locals s.heap m₀) (N : News h₀ env.locals s.heap news) (hn : ∀ p ∈ news, p.1 ≠ I) (h0 : Inv 0 news)
    (hgo : ∀ i (s' : Shared) v (Q' : Unit → Shared → Prop), St i s'.heap → Q' () s' → wpAny (model prog w) A (letOwnedTupleGo target (.ref I) v) Q' E s')
    (turn : ∀ i v (u : Str → Option Value) nx h tk oI, i < n → P i v → Inv i nx → OwnOff nx [I] → Fr h₀ env.locals h (fun y => if stored.contains y then u y else m₀ y) → News h₀ env.locals h ((I, oI) :: nx) →
      wpAny (model prog w) A (assign target env v) (fun _ s₃ => wpAny (model prog w) A (execs body env) (TurnAt h₀ env.locals I oI (JN stored m₀ (Inv (i + 1))) { s with heap := h, toks := tk } Q) E s₃) E { s with heap := h, toks := tk })
    (done : ∀ (u : Str → Option Value) h tk nx, Inv n nx → Fr h₀ env.locals h (fun y => if stored.contains y then u y else m₀ y) → News h₀ env.locals h nx → Q .next { s with heap := h, toks := tk }) :
    LoopI prog w A h₀ env target body Q E (.ref I) s := by
  refine ⟨I, fp, n, P, St, m₀, news, fun i => JN stored m₀ (Inv i), rfl, W, hIL, hI0, hIo, fun i h h' o nw m' a b c d e f => hSt i h h' o nw a b c d e f.1, hst, F, N, hn, ⟨h0, fun _ _ => rfl⟩, hgo, ?_, ?_⟩
  · intro i v m₁ nx h tk oI hi hP hJ ho F₁ N₁
    rw [frame_over hJ.2] at F₁
    exact turn i v m₁ nx h tk oI hi hP hJ.1 ho F₁ N₁
  · intro h' tk m' nx F' N' hJ
    rw [frame_over hJ.2] at F'
    exact done m' h' tk nx hJ.1 F' N'

theorem seq_data_tup {o : Obj} {items : Array Value} {k : Nat} {a : Addr} {h : Heap} (e : o = { cls := .type "tuple", data := .seq items k }) (ho : h.get? a = some o) : h.IsTuple a items := ⟨o, ho, by rw [e], k, by rw [e]⟩

theorem loop_tuple {t : Addr} {items : Array Value} {k : Nat} (stored : List Str) (Inv : Nat → List (Addr × Obj) → Prop)
    (hh : A.handled = none) (F : Fr h₀ env.locals s.heap m₀) (N : News h₀ env.locals s.heap news) (h0 : Inv 0 news) (hsrc : ∀ i nx, Inv i nx → (t, ({ cls := .type "tuple", data := .seq items k } : Obj)) ∈ nx)
    (turn : ∀ i v (u : Str → Option Value) nx h tk I oI, items[i]? = some v → Inv i nx → OwnOff nx [I] → Fr h₀ env.locals h (fun y => if stored.contains y then u y else m₀ y) → News h₀ env.locals h ((I, oI) :: nx) →
      wpAny (model prog w) A (assign target env v) (fun _ s₃ => wpAny (model prog w) A (execs body env) (TurnAt h₀ env.locals I oI (JN stored m₀ (Inv (i + 1))) { s with heap := h, toks := tk } Q) E s₃) E { s with heap := h, toks := tk })
    (done : ∀ (u : Str → Option Value) h tk nx, Inv items.size nx → Fr h₀ env.locals h (fun y => if stored.contains y then u y else m₀ y) → News h₀ env.locals h nx → Q .next { s with heap := h, toks := tk }) :
    wpAny (model prog w) A (pyIter (.ref t)) (fun it s₂ => LoopI prog w A h₀ env target body Q E it s₂) E s := by
  have hm := N _ (hsrc 0 news h0)
  have ht : s.heap.IsTuple t items := ⟨_, hm.1, rfl, k, rfl⟩
  have hlt : t < s.heap.objs.size := Heap.lt_size hm.1
  refine wpAny_pyIter_tuple ht ?_
  have up : ∀ b o, s.heap.get? b = some o → (s.heap.push { cls := .type "tuple_iterator", data := .fields #[.ref t, .int 0 0] }).get? b = some o := fun b o e => Heap.get?_push_of_some _ e
  refine loopI_of stored Inv (Walks.tuple hh _ t (Nat.ne_of_lt hlt) items) (Ne.symm (Nat.ne_of_lt F.ns.lt)) (next_is_new F) (fun i h st => by obtain ⟨o, e, _⟩ := st.1; exact ⟨o, e⟩) ?_
    ⟨⟨_, Heap.get?_push_size _ rfl, rfl, rfl⟩, ht.at fun o e => Heap.get?_push_of_some _ e⟩ (F.keeps up) (N.grown up) (fun p hp => Nat.ne_of_lt (Heap.lt_size (N p hp).1)) h0 (fun i s' v Q' st hQ' => letGo_tupleiter st.1 hQ')
    (fun i v u nx h tk oI hi hP => turn i v u nx h tk _ oI hP) done
  intro i h h' o nw st e e' _ N' hI
  refine ⟨by obtain ⟨o', q, r⟩ := st.1; rw [e] at q; cases q; exact ⟨o, e', r⟩, ⟨_, (N' _ (hsrc i nw hI)).1, rfl, k, rfl⟩⟩

theorem loop_list {t : Addr} {items : Array Value} {k : Nat} (stored : List Str) (Inv : Nat → List (Addr × Obj) → Prop)
    (hh : A.handled = none) (F : Fr h₀ env.locals s.heap m₀) (N : News h₀ env.locals s.heap news) (h0 : Inv 0 news) (hsrc : ∀ i nx, Inv i nx → (t, ({ cls := .type "list", data := .seq items k } : Obj)) ∈ nx)
    (turn : ∀ i v (u : Str → Option Value) nx h tk I oI, items[i]? = some v → Inv i nx → OwnOff nx [I] → Fr h₀ env.locals h (fun y => if stored.contains y then u y else m₀ y) → News h₀ env.locals h ((I, oI) :: nx) →
      wpAny (model prog w) A (assign target env v) (fun _ s₃ => wpAny (model prog w) A (execs body env) (TurnAt h₀ env.locals I oI (JN stored m₀ (Inv (i + 1))) { s with heap := h, toks := tk } Q) E s₃) E { s with heap := h, toks := tk })
    (done : ∀ (u : Str → Option Value) h tk nx, Inv items.size nx → Fr h₀ env.locals h (fun y => if stored.contains y then u y else m₀ y) → News h₀ env.locals h nx → Q .next { s with heap := h, toks := tk }) :
    wpAny (model prog w) A (pyIter (.ref t)) (fun it s₂ => LoopI prog w A h₀ env target body Q E it s₂) E s := by
  have hm := N _ (hsrc 0 news h0)
  have ht : s.heap.IsList t items := ⟨_, hm.1, rfl, k, rfl⟩
  have hlt : t < s.heap.objs.size := Heap.lt_size hm.1
  refine wpAny_pyIter_list ht ?_
  have up : ∀ b o, s.heap.get? b = some o → (s.heap.push { cls := .type "list_iterator", data := .fields #[.ref t, .int 0 0] }).get? b = some o := fun b o e => Heap.get?_push_of_some _ e
  refine loopI_of stored Inv (Walks.list hh _ t (Nat.ne_of_lt hlt) items) (Ne.symm (Nat.ne_of_lt F.ns.lt)) (next_is_new F) (fun i h st => by obtain ⟨o, e, _⟩ := st.1; exact ⟨o, e⟩) ?_
    ⟨⟨_, Heap.get?_push_size _ rfl, rfl, rfl⟩, ht.at fun o e => Heap.get?_push_of_some _ e⟩ (F.keeps up) (N.grown up) (fun p hp => Nat.ne_of_lt (Heap.lt_size (N p hp).1)) h0 (fun i s' v Q' st hQ' => letGo_listiter st.1 hQ')
    (fun i v u nx h tk oI hi hP => turn i v u nx h tk _ oI hP) done
  intro i h h' o nw st e e' _ N' hI
  refine ⟨by obtain ⟨o', q, r⟩ := st.1; rw [e] at q; cases q; exact ⟨o, e', r⟩, ⟨_, (N' _ (hsrc i nw hI)).1, rfl, k, rfl⟩⟩

theorem letGo_range {I : Addr} {x l c : Int} {v : Value} {Q' : Unit → Shared → Prop} {s' : Shared} (hit : IsRangeIter s'.heap I x l c) (h : Q' () s') : wpAny (model prog w) A (letOwnedTupleGo target (.ref I) v) Q' E s' := by
  have hit' : s'.heap.get? I = some _ := hit
  unfold letOwnedTupleGo
  cases target <;> first
    | exact wpAny_pure h
    | (cases v <;> first
        | exact wpAny_pure h
        | (refine wpAny_bind (wpAny_load hit' ?_)
           exact wpAny_pure h))

theorem loop_range {r : Addr} {a b : Int} {t u v : Tok} {n : Nat} (stored : List Str) (Inv : Nat → List (Addr × Obj) → Prop)
    (hh : A.handled = none) (hr : IsRange s.heap r a b 1 t u v) (hsm : Builtin.Range.small a b 1 = true) (hn : Builtin.Range.rangeSize a b 1 = ((n : Nat) : Int)) (F : Fr h₀ env.locals s.heap m₀) (N : News h₀ env.locals s.heap news) (h0 : Inv 0 news)
    (turn : ∀ i tt (u : Str → Option Value) nx h tk I oI, i < n → Inv i nx → OwnOff nx [I] → Fr h₀ env.locals h (fun y => if stored.contains y then u y else m₀ y) → News h₀ env.locals h ((I, oI) :: nx) →
      wpAny (model prog w) A (assign target env (.int (a + (i : Int)) tt)) (fun _ s₃ => wpAny (model prog w) A (execs body env) (TurnAt h₀ env.locals I oI (JN stored m₀ (Inv (i + 1))) { s with heap := h, toks := tk } Q) E s₃) E { s with heap := h, toks := tk })
    (done : ∀ (u : Str → Option Value) h tk nx, Inv n nx → Fr h₀ env.locals h (fun y => if stored.contains y then u y else m₀ y) → News h₀ env.locals h nx → Q .next { s with heap := h, toks := tk }) :
    wpAny (model prog w) A (pyIter (.ref r)) (fun it s₂ => LoopI prog w A h₀ env target body Q E it s₂) E s := by
  refine wpAny_pyIter_range hr hsm ?_
  refine loopI_of stored Inv (LCg.range_walks hh a n) (Ne.symm (Nat.ne_of_lt F.ns.lt)) (next_is_new F) (fun i h st => ⟨_, st⟩) ?_
    (by show IsRangeIter _ _ _ _ _; rw [hn]; simpa using Heap.get?_push_size _ rfl) (F.keeps fun _ _ e => Heap.get?_push_of_some _ e) (N.grown fun _ _ e => Heap.get?_push_of_some _ e) (fun p hp => Nat.ne_of_lt (Heap.lt_size (N p hp).1)) h0 (fun i s' v Q' st hQ' => letGo_range st hQ')
    (fun i v u nx h tk oI hi hP => by obtain ⟨tt, rfl⟩ := hP; exact turn i tt u nx h tk _ oI hi) done
  intro i h h' o nw st e e' hk N' hI
  exact LCg.range_st (h₀ := h₀) (L := env.locals) i h h' o [] st e e' hk (fun p hp => nomatch hp) trivial

theorem loop_dict {K : Type} [DecidableEq K] {knd : KeyKind prog w K} {d : Addr} {od : Obj} {kvs : List (K × Value)} {ep : Nat} (stored : List Str) (Inv : Nat → List (Addr × Obj) → Prop)
    (hh : A.handled = none) (hsys : (d == sysModules) = false) (hat : s.heap.DictAt knd d kvs ep) (hod : ∀ h : Heap, h.get? d = some od → h.DictAt knd d kvs ep)
    (F : Fr h₀ env.locals s.heap m₀) (N : News h₀ env.locals s.heap news) (h0 : Inv 0 news) (hsrc : ∀ i nx, Inv i nx → (d, od) ∈ nx)
    (turn : ∀ i k v x (u : Str → Option Value) nx h tk I oI, kvs[i]? = some (k, x) → knd.is k v = true → Inv i nx → OwnOff nx [I] → Fr h₀ env.locals h (fun y => if stored.contains y then u y else m₀ y) → News h₀ env.locals h ((I, oI) :: nx) →
      wpAny (model prog w) A (assign target env v) (fun _ s₃ => wpAny (model prog w) A (execs body env) (TurnAt h₀ env.locals I oI (JN stored m₀ (Inv (i + 1))) { s with heap := h, toks := tk } Q) E s₃) E { s with heap := h, toks := tk })
    (done : ∀ (u : Str → Option Value) h tk nx, Inv kvs.length nx → Fr h₀ env.locals h (fun y => if stored.contains y then u y else m₀ y) → News h₀ env.locals h nx → Q .next { s with heap := h, toks := tk }) :
    wpAny (model prog w) A (pyIter (.ref d)) (fun it s₂ => LoopI prog w A h₀ env target body Q E it s₂) E s := by
  have hm := N _ (hsrc 0 news h0)
  have hlt : d < s.heap.objs.size := Heap.lt_size hm.1
  refine wpAny_pyIter_dict hsys hat ?_
  have up : ∀ b o, s.heap.get? b = some o → (s.heap.push { cls := .type "dict_keyiterator", data := .fields #[.ref d, .int 0 0, .int kvs.length 0, .int ep 0] }).get? b = some o := fun b o e => Heap.get?_push_of_some _ e
  refine loopI_of stored Inv (Walks.dictKeys hh _ d (Nat.ne_of_lt hlt) kvs ep) (Ne.symm (Nat.ne_of_lt F.ns.lt)) (next_is_new F) (fun i h st => by obtain ⟨o, e, _⟩ := st.1; exact ⟨o, e⟩) ?_
    ⟨⟨_, Heap.get?_push_size _ rfl, rfl, rfl⟩, hod _ (up _ _ hm.1)⟩ (F.keeps up) (N.grown up) (fun p hp => Nat.ne_of_lt (Heap.lt_size (N p hp).1)) h0 (fun i s' v Q' st hQ' => letGo_keyiter st.1 hQ')
    (fun i v u nx h tk oI hi hP => by obtain ⟨k, x, hk, hv⟩ := hP; exact turn i k v x u nx h tk _ oI hk hv) done
  intro i h h' o nw st e e' _ N' hI
  exact ⟨by obtain ⟨o', q, r⟩ := st.1; rw [e] at q; cases q; exact ⟨o, e', r⟩, hod _ (N' _ (hsrc i nw hI)).1⟩
end
end Mine
namespace Mine
theorem For_IF {prog : Program} {w : World} {A : Around} {s : Shared} {env : Env} {h₀ : Heap} {m : Str → Option Value} {E : Value → Shared → Prop} {Q : Flow → Shared → Prop} {target iter : Expr} {pos : Pos} {body : List Stmt} (_F : Fr h₀ env.locals s.heap m)
    (h : wpAny (model prog w) A (eval iter env) (fun xv s₁ => wpAny (model prog w) A (pyIter xv) (fun it s₂ => LoopI prog w A h₀ env target body Q E it s₂) E s₁) E s)
    (hs : ∀ x, foldedSetIterable iter env x = pure x := by intro _; rfl) (hE : PassesOwn (model prog w) A env E := by passes_own) :
    wpAny (model prog w) A (exec (.For target iter body [] pos) env) Q E s := For_I h₀ h hs hE
end Mine
end

section
open PySem PySem.W PyProof.Rows PySem.Spec
namespace Mine
/-- a walk's state, written anew over the first one: its heap, its count of tokens -/
theorem st_to {M : Model} {A : Around} {α : Type} {c : Sem α} {Q : α → Shared → Prop} {E : Value → Shared → Prop} {s s' : Shared} {h₀ h : Heap} {L : Addr} {m : Str → Option Value} (_F : Fr h₀ L h m)
    (e : s' = { s with heap := h, toks := s'.toks }) (k : ∀ tk, wpAny M A c Q E { s with heap := h, toks := tk }) : wpAny M A c Q E s' := by
  rw [e]; exact k _
/-- a depth bound, one call deeper -/
theorem dpA {x k : Nat} {n N : Int} (h : (x : Int) ≤ n) (hk : n + (k : Int) ≤ N := by decide) : ((x + k : Nat) : Int) ≤ N := by omega
/-- what follows a function's body, as an opaque word -/
theorem gen_L {M : Model} {A : Around} {env : Env} {body : List Stmt} {T : Flow → Shared → Prop} {E : Value → Shared → Prop} {s : Shared}
    (k : ∀ (QL : Flow → Shared → Prop) (EL : Value → Shared → Prop), (∀ f s', T f s' → QL f s') → PassesOwn M A env EL → wpAny M A (execs body env) QL EL s) (hE : PassesOwn M A env E := by passes_own) :
    wpAny M A (execs body env) T E s := k T E (fun _ _ h => h) hE
/-- what follows a loop's body, as an opaque word -/
theorem gen_T {M : Model} {A : Around} {c : Sem Unit} {c2 : Sem Flow} {E : Value → Shared → Prop} {s : Shared} {h₀ : Heap} {L I : Addr} {oI : Obj} {J : (Str → Option Value) → List (Addr × Obj) → Prop} {s₁ : Shared} {Q : Flow → Shared → Prop}
    (k : ∀ (QT : Flow → Shared → Prop), (∀ f s', TurnAt h₀ L I oI J s₁ Q f s' → QT f s') → wpAny M A c (fun _ s₃ => wpAny M A c2 QT E s₃) E s) :
    wpAny M A c (fun _ s₃ => wpAny M A c2 (TurnAt h₀ L I oI J s₁ Q) E s₃) E s := k _ fun _ _ h => h
theorem gen_T2 {M : Model} {A : Around} {c2 : Sem Flow} {E : Value → Shared → Prop} {s : Shared} {h₀ : Heap} {L I : Addr} {oI : Obj} {J : (Str → Option Value) → List (Addr × Obj) → Prop} {s₁ : Shared} {Q : Flow → Shared → Prop}
    (k : ∀ (QT : Flow → Shared → Prop), (∀ f s', TurnAt h₀ L I oI J s₁ Q f s' → QT f s') → wpAny M A c2 QT E s) : wpAny M A c2 (TurnAt h₀ L I oI J s₁ Q) E s := k _ fun _ _ h => h
end Mine
end

section
open PySem PySem.W PyProof.Rows PySem.Spec
namespace Mine
/-- two lists, item by item -/
def Each {α β : Type} (R : α → β → Prop) : List α → List β → Prop
  | [], [] => True
  | a :: as, b :: bs => R a b ∧ Each R as bs
  | _, _ => False
section
variable {α β : Type} {R S : α → β → Prop}
theorem Each.length : ∀ {as : List α} {bs : List β}, Each R as bs → as.length = bs.length
  | [], [], _ => rfl
  | _ :: _, _ :: _, h => by simp only [List.length_cons, Each.length h.2]
theorem Each.mono (f : ∀ a b, R a b → S a b) : ∀ {as : List α} {bs : List β}, Each R as bs → Each S as bs
  | [], [], _ => trivial
  | _ :: _, _ :: _, h => ⟨f _ _ h.1, Each.mono f h.2⟩
theorem Each.append : ∀ {as : List α} {bs : List β} {as' : List α} {bs' : List β}, Each R as bs → Each R as' bs' → Each R (as ++ as') (bs ++ bs')
  | [], [], _, _, _, h' => h'
  | _ :: _, _ :: _, _, _, h, h' => ⟨h.1, Each.append h.2 h'⟩
theorem Each.get : ∀ {as : List α} {bs : List β}, Each R as bs → ∀ {i : Nat} {a : α}, as[i]? = some a → ∃ b, bs[i]? = some b ∧ R a b
  | [], [], _, i, a, e => by simp at e
  | x :: _, y :: _, h, 0, a, e => by simp at e; subst e; exact ⟨y, by simp, h.1⟩
  | _ :: _, _ :: _, h, i + 1, a, e => by simpa using Each.get h.2 (i := i) (by simpa using e)
theorem Each.get' : ∀ {as : List α} {bs : List β}, Each R as bs → ∀ {i : Nat} {b : β}, bs[i]? = some b → ∃ a, as[i]? = some a ∧ R a b
  | [], [], _, i, a, e => by simp at e
  | x :: _, y :: _, h, 0, a, e => by simp at e; subst e; exact ⟨x, by simp, h.1⟩
  | _ :: _, _ :: _, h, i + 1, a, e => by simpa using Each.get' h.2 (i := i) (by simpa using e)
theorem Each.nil : Each R [] [] := trivial
theorem Each.one {a : α} {b : β} (h : R a b) : Each R [a] [b] := ⟨h, trivial⟩
end

def PairIn (news : List (Addr × Obj)) (v : Value) (p : Int × Int) : Prop := ∃ a t u, v = .ref a ∧ (a, tupO #[.int p.1 t, .int p.2 u]) ∈ news
def OccIn (news : List (Addr × Obj)) (v : Value) (p : Int × Int × Bool) : Prop := ∃ a t u, v = .ref a ∧ (a, tupO #[.int p.1 t, .int p.2.1 u, .bool p.2.2]) ∈ news
theorem PairIn.mono {news news' : List (Addr × Obj)} (hs : ∀ p ∈ news, p ∈ news') : ∀ v p, PairIn news v p → PairIn news' v p := fun _ _ ⟨a, t, u, e, h⟩ => ⟨a, t, u, e, hs _ h⟩
theorem OccIn.mono {news news' : List (Addr × Obj)} (hs : ∀ p ∈ news, p ∈ news') : ∀ v p, OccIn news v p → OccIn news' v p := fun _ _ ⟨a, t, u, e, h⟩ => ⟨a, t, u, e, hs _ h⟩

/-- the occurrences that a trace notes, in its order: the vector, its width, whether it is whole -/
def Tr.occs : Tr → Bool → List (Int × Int × Bool)
  | .sig n r, c => [(r, n, c)]
  | .ext w e _, c => e.occs (c && decide (e.width ≤ w))
  | .slice w e lo, c => e.occs (c && decide (lo ≤ 0) && decide (e.width ≤ lo + w))
  | .cat _ x y, c => y.occs c ++ x.occs c
/-- a tree's own sizes -/
def Tr.Fit : Tr → Prop
  | .sig n _ => 1 ≤ n ∧ n ≤ 4
  | .ext w e _ => 1 ≤ w ∧ w ≤ 6 ∧ e.Fit
  | .slice w e lo => 1 ≤ w ∧ w ≤ 6 ∧ -1 ≤ lo ∧ lo ≤ 2 ∧ e.Fit
  | .cat w x y => w = x.width + y.width ∧ x.Fit ∧ y.Fit
theorem Tr.Good.fit {sz : Int → Int} : ∀ {t : Tr}, t.Good sz → t.Fit
  | .sig .., h => ⟨h.2.2.2.1, h.2.2.2.2⟩
  | .ext .., h => ⟨h.1, h.2.1, Tr.Good.fit h.2.2⟩
  | .slice .., h => ⟨h.1, h.2.1, h.2.2.1, h.2.2.2.1, Tr.Good.fit h.2.2.2.2⟩
  | .cat .., h => ⟨h.1, Tr.Good.fit h.2.1, Tr.Good.fit h.2.2⟩
theorem Tr.Fit.pos : ∀ {t : Tr}, t.Fit → 1 ≤ t.width
  | .sig .., h => h.1
  | .ext .., h => h.1
  | .slice .., h => h.1
  | .cat .., h => by have := Tr.Fit.pos h.2.1; have := Tr.Fit.pos h.2.2; have := h.1; simp only [Tr.width]; omega
/-- the number of leaves -/
def Tr.leaves : Tr → Nat
  | .sig .. => 1
  | .ext _ e _ => e.leaves
  | .slice _ e _ => e.leaves
  | .cat _ x y => x.leaves + y.leaves
theorem Tr.Fit.le : ∀ {t : Tr}, t.Fit → t.width ≤ 6 * (t.leaves : Int)
  | .sig .., h => by have := h.2; simp only [Tr.width, Tr.leaves]; omega
  | .ext _ e _, h => by have := h.2.1; have := Tr.Fit.le h.2.2; have := Tr.Fit.pos h.2.2; simp only [Tr.width, Tr.leaves]; omega
  | .slice _ e _, h => by have := h.2.1; have := Tr.Fit.le h.2.2.2.2; have := Tr.Fit.pos h.2.2.2.2; simp only [Tr.width, Tr.leaves]; omega
  | .cat _ x y, h => by have := h.1; have := Tr.Fit.le h.2.1; have := Tr.Fit.le h.2.2; simp only [Tr.width, Tr.leaves]; omega
theorem Tr.occs_len : ∀ (t : Tr) (c : Bool), (t.occs c).length = t.leaves
  | .sig .., _ => rfl
  | .ext _ e _, _ => e.occs_len _
  | .slice _ e _, _ => e.occs_len _
  | .cat _ x y, c => by simp only [Tr.occs, List.length_append, x.occs_len, y.occs_len, Tr.leaves]; omega
theorem Tr.leaves_le : ∀ (t : Tr), t.leaves ≤ 2 ^ (t.deep - 1)
  | .sig .. => by simp [Tr.leaves, Tr.deep]
  | .ext _ e _ => by have := e.leaves_le; simp only [Tr.leaves, Tr.deep, Nat.add_sub_cancel]; exact Nat.le_trans this (Nat.pow_le_pow_right (by decide) (by omega))
  | .slice _ e _ => by have := e.leaves_le; simp only [Tr.leaves, Tr.deep, Nat.add_sub_cancel]; exact Nat.le_trans this (Nat.pow_le_pow_right (by decide) (by omega))
  | .cat _ x y => by
    have hx := x.leaves_le; have hy := y.leaves_le
    simp only [Tr.leaves, Tr.deep, Nat.add_sub_cancel]
    have px : x.deep ≥ 1 := by cases x <;> simp [Tr.deep]
    have e : 2 ^ (max x.deep y.deep) = 2 ^ (max x.deep y.deep - 1) + 2 ^ (max x.deep y.deep - 1) := by
      obtain ⟨k, hk⟩ : ∃ k, max x.deep y.deep = k + 1 := ⟨max x.deep y.deep - 1, by omega⟩
      rw [hk, Nat.add_sub_cancel, Nat.pow_succ]; omega
    have h1 : 2 ^ (x.deep - 1) ≤ 2 ^ (max x.deep y.deep - 1) := Nat.pow_le_pow_right (by decide) (by omega)
    have h2 : 2 ^ (y.deep - 1) ≤ 2 ^ (max x.deep y.deep - 1) := Nat.pow_le_pow_right (by decide) (by omega)
    omega
/-- a whole occurrence's bits all show -/
def Cover (os : List (Int × Int × Bool)) (k : Nat) (bs : List (Int × Int)) : Prop :=
  ∀ (j : Nat) r n, os[j]? = some (r, n, true) → ∀ b : Int, 0 ≤ b → b < n → (((k + j : Nat) : Int), b) ∈ bs
/-- the keys that whole_keys tells -/
def Tr.keys : Tr → List Int
  | .sig _ r => [r]
  | .ext w e _ => if e.width ≤ w then e.keys else []
  | .slice w e lo => if lo ≤ 0 ∧ e.width ≤ lo + w then e.keys else []
  | .cat _ x y => x.keys ++ y.keys
/-- no occurrence is whole under what is not -/
theorem Tr.occs_false : ∀ (t : Tr) (p : Int × Int × Bool), p ∈ t.occs false → p.2.2 = false
  | .sig .., p, h => by rw [List.mem_singleton.mp h]
  | .ext _ e _, p, h => e.occs_false p (by simpa [Tr.occs] using h)
  | .slice _ e _, p, h => e.occs_false p (by simpa [Tr.occs] using h)
  | .cat _ x y, p, h => by
    rcases List.mem_append.mp h with h | h
    · exact y.occs_false p h
    · exact x.occs_false p h
theorem Tr.keys_iff : ∀ (t : Tr) (r : Int), r ∈ t.keys ↔ ∃ n, (r, n, true) ∈ t.occs true
  | .sig n r', r => by
    constructor
    · intro h; rw [List.mem_singleton.mp h]; exact ⟨n, .head _⟩
    · rintro ⟨n', h⟩; cases List.mem_singleton.mp h; exact .head _
  | .ext w e b, r => by
    by_cases hc : e.width ≤ w
    · simpa [Tr.keys, Tr.occs, hc] using e.keys_iff r
    · simp only [Tr.keys, Tr.occs, hc, if_false, decide_false, Bool.and_false]
      constructor
      · intro h; cases h
      · rintro ⟨n, h⟩; exact absurd (e.occs_false _ h) (by simp)
  | .slice w e lo, r => by
    by_cases hc : lo ≤ 0 ∧ e.width ≤ lo + w
    · have := e.keys_iff r
      simpa [Tr.keys, Tr.occs, hc] using this
    · have hf : (true && decide (lo ≤ 0) && decide (e.width ≤ lo + w)) = false := by
        rw [Bool.true_and, ← Bool.decide_and, decide_eq_false_iff_not]; exact hc
      simp only [Tr.keys, Tr.occs, hc, if_false, hf]
      constructor
      · intro h; cases h
      · rintro ⟨n, h⟩; exact absurd (e.occs_false _ h) (by simp)
  | .cat _ x y, r => by
    simp only [Tr.keys, Tr.occs, List.mem_append, x.keys_iff, y.keys_iff]
    constructor
    · rintro (⟨n, h⟩ | ⟨n, h⟩)
      · exact ⟨n, .inr h⟩
      · exact ⟨n, .inl h⟩
    · rintro ⟨n, h | h⟩
      · exact .inr ⟨n, h⟩
      · exact .inl ⟨n, h⟩
end Mine
end

section
open PySem PySem.W PyProof.Rows PySem.Spec PySem.Calls
namespace Mine
open LCg
/-- what an element's turn leaves -/
def EltAt (h₀ : Heap) (L : Addr) (m : Str → Option Value) (s₁ : Shared) (I : Addr) (oI : Obj) (C : Addr) (oC : Obj) (D : Addr) (oD : Obj) (S : List (Addr × Obj) → Prop) (R : Value → List (Addr × Obj) → Prop) (y : Value) (s₂ : Shared) : Prop :=
  CompEnd h₀ L m s₁ I oI C oC D oD S R y s₂
theorem EltAt.mk {h₀ : Heap} {L I C D : Addr} {m : Str → Option Value} {s₁ : Shared} {oI oC oD : Obj} {S : List (Addr × Obj) → Prop} {R : Value → List (Addr × Obj) → Prop} {y : Value} {h' : Heap} {tk : Nat} {all : List (Addr × Obj)} (nx : List (Addr × Obj))
    (F : Fr h₀ L h' m) (N : News h₀ L h' all) (sub : ∀ p ∈ (I, oI) :: (C, oC) :: (D, oD) :: nx, p ∈ all) (off : Off3 I C D nx) (hS : S nx) (r : R y nx) :
    EltAt h₀ L m s₁ I oI C oC D oD S R y { s₁ with heap := h', toks := tk } := CompEnd.intro F N nx sub off hS r
section
variable {prog : Program} {w : World} {A : Around} {h₀ : Heap} {L : Addr} {m : Str → Option Value} {env : Env} {s : Shared}
theorem compRest_inv {elt : Expr} {x : Str} {scope : Scope} {cl : List (Str × Addr)} {S : List (Addr × Obj) → Prop} {P : Nat → Value → Prop} {Fin : List Value → List (Addr × Obj) → Prop} (n : Nat) (Inv : Nat → List Value → List (Addr × Obj) → Prop)
    (turn : ∀ i v ys news I oI C oC D m₂ h tk (E' : Value → Shared → Prop), i < n → P i v → Inv i ys news → NsObj oC m₂ → m₂ x = some v → Fr h₀ L h m → News h₀ L h ((I, oI) :: (C, oC) :: (D, lst ys) :: news) → Off3 I C D news → ((@Ne Nat I C) ∧ (@Ne Nat I D) ∧ (@Ne Nat C D)) →
      wpAny (model prog w) A (eval elt (compEnvC scope cl C env)) (EltAt h₀ L m { s with heap := h, toks := tk } I oI C oC D (lst ys) S (fun y nx => Inv (i + 1) (ys ++ [y]) nx)) E' { s with heap := h, toks := tk })
    (fin : ∀ ys news, Inv n ys news → Fin ys news) : ∀ (k i : Nat) (ys : List Value) (news : List (Addr × Obj)), i + k = n → Inv i ys news → CompRest prog w A h₀ L m env elt x scope cl s S P Fin k i ys news
  | 0, i, ys, news, e, hi => by
    have : i = n := by omega
    subst this
    exact CompRest.zero (fin ys news hi)
  | k + 1, i, ys, news, e, hi => CompRest.succ fun v I oI C oC D m₂ h tk E' hP hC hx F N off ne => by
    refine wpAny_mono (turn i v ys news I oI C oC D m₂ h tk E' (by omega) hP hi hC hx F N off ne) (fun y s₂ h₂ => ?_) fun _ _ e => e
    obtain ⟨h', tk', news', rfl, F', N', off', hS', r⟩ := h₂
    exact ⟨h', tk', news', rfl, F', N', off', hS', compRest_inv n Inv turn fin k (i + 1) (ys ++ [y]) news' (by omega) r⟩

/-- the range's comprehension, by a word -/
theorem comp_range {elt : Expr} {x : Str} {scope : Scope} {cl : List (Str × Addr)} {Fin : Shared → List Value → List (Addr × Obj) → Prop} {r : Addr} {a b : Int} {t u v : Tok} {news : List (Addr × Obj)} (n : Nat) (Inv : Nat → List Value → List (Addr × Obj) → Prop)
    (hh : A.handled = none) (F : Fr h₀ L s.heap m) (N : News h₀ L s.heap news) (hr : IsRange s.heap r a b 1 t u v) (hsm : Builtin.Range.small a b 1 = true) (hn : Builtin.Range.rangeSize a b 1 = ((n : Nat) : Int)) (hsz : n ≤ sizeLine)
    (h0 : Inv 0 [] news)
    (turn : ∀ g i tt ys news I oI C oC D m₂ h tk (E' : Value → Shared → Prop), i < n → Inv i ys news → NsObj oC m₂ → m₂ x = some (.int (a + (i : Int)) tt) → Fr h₀ L h m → News h₀ L h ((I, oI) :: (C, oC) :: (D, lst ys) :: news) → Off3 I C D news → ((@Ne Nat I C) ∧ (@Ne Nat I D) ∧ (@Ne Nat C D)) →
      wpAny (model prog w) A (eval elt (compEnvC scope cl C env)) (EltAt h₀ L m { { s with heap := g } with heap := h, toks := tk } I oI C oC D (lst ys) (fun _ => True) (fun y nx => Inv (i + 1) (ys ++ [y]) nx)) E' { s with heap := h, toks := tk })
    (fin : ∀ g ys news, Inv n ys news → Fin { s with heap := g } ys news) : CompSrc prog w A h₀ L m env elt x scope cl Fin (.ref r) s :=
  CompSrc.range hh F N hr hsm hn hsz fun g => compRest_inv n Inv (fun i v ys news I oI C oC D m₂ h tk E' hi hP hI hC hx F N off ne => by
    obtain ⟨tt, rfl⟩ := hP
    exact turn g i tt ys news I oI C oC D m₂ h tk E' hi hI hC hx F N off ne) (fin g) n 0 [] news (by omega) h0
/-- the same, what the elements make said apart -/
theorem comp_rangeT {elt : Expr} {x : Str} {scope : Scope} {cl : List (Str × Addr)} {Fin : Shared → List Value → List (Addr × Obj) → Prop} {r : Addr} {a b : Int} {t u v : Tok} {news : List (Addr × Obj)} (n : Nat) (R : Nat → List Value → List (Addr × Obj) → Prop)
    (hh : A.handled = none) (F : Fr h₀ L s.heap m) (N : News h₀ L s.heap news) (hr : IsRange s.heap r a b 1 t u v) (hsm : Builtin.Range.small a b 1 = true) (hn : Builtin.Range.rangeSize a b 1 = ((n : Nat) : Int)) (hsz : n ≤ sizeLine)
    (h0 : R 0 [] [])
    (turn : ∀ g i tt ys tl I oI C oC D m₂ h tk (E' : Value → Shared → Prop), i < n → R i ys tl → (∀ p ∈ tl, ∀ q ∈ news, @LT.lt Nat _ q.1 p.1) → NsObj oC m₂ → m₂ x = some (.int (a + (i : Int)) tt) → Fr h₀ L h m → News h₀ L h ((I, oI) :: (C, oC) :: (D, lst ys) :: (tl ++ news)) → Off3 I C D (tl ++ news) → ((@Ne Nat I C) ∧ (@Ne Nat I D) ∧ (@Ne Nat C D)) →
      wpAny (model prog w) A (eval elt (compEnvC scope cl C env)) (EltAt h₀ L m { { s with heap := g } with heap := h, toks := tk } I oI C oC D (lst ys) (fun _ => True) (fun y nx => ∃ tl', nx = tl' ++ news ∧ (∀ p ∈ tl', ∀ q ∈ news, @LT.lt Nat _ q.1 p.1) ∧ R (i + 1) (ys ++ [y]) tl')) E' { s with heap := h, toks := tk })
    (fin : ∀ g ys tl, R n ys tl → (∀ p ∈ tl, ∀ q ∈ news, @LT.lt Nat _ q.1 p.1) → Fin { s with heap := g } ys (tl ++ news)) : CompSrc prog w A h₀ L m env elt x scope cl Fin (.ref r) s :=
  comp_range n (fun i ys nx => ∃ tl, nx = tl ++ news ∧ (∀ p ∈ tl, ∀ q ∈ news, @LT.lt Nat _ q.1 p.1) ∧ R i ys tl) hh F N hr hsm hn hsz ⟨[], rfl, (fun _ h => nomatch h), h0⟩
    (fun g i tt ys nx I oI C oC D m₂ h tk E' hi hI hC hx F N off ne => by obtain ⟨tl, rfl, hb, hR⟩ := hI; exact turn g i tt ys tl I oI C oC D m₂ h tk E' hi hR hb hC hx F N off ne)
    (fun g ys nx hI => by obtain ⟨tl, rfl, hb, hR⟩ := hI; exact fin g ys tl hR hb)
end
theorem off3_of {I C D : Addr} {l : List (Addr × Obj)} (h : ∀ p ∈ l, p.1 ≠ I ∧ p.1 ≠ C ∧ p.1 ≠ D) : Off3 I C D l := Off3.of h
theorem rangeSize_of {a b : Int} {n : Nat} (h : b = a + n) : Builtin.Range.rangeSize a b 1 = ((n : Nat) : Int) := by
  subst h
  unfold Builtin.Range.rangeSize
  rw [if_pos (by decide)]
  by_cases hn : n = 0
  · subst hn
    rw [if_neg (by omega)]
    rfl
  · rw [if_pos (by omega), Int.ediv_one]
    omega
theorem rangeSmall_of {a b : Int} (h1 : -1000 ≤ a) (h2 : a ≤ 1000) (h3 : -1000 ≤ b) (h4 : b ≤ 1000) : Builtin.Range.small a b 1 = true := by
  have hs : -3000 ≤ Builtin.Range.rangeSize a b 1 ∧ Builtin.Range.rangeSize a b 1 ≤ 3000 := by
    unfold Builtin.Range.rangeSize
    rw [if_pos (by decide)]
    split
    · rw [Int.ediv_one]; omega
    · omega
  generalize hg : Builtin.Range.rangeSize a b 1 = z at hs
  unfold Builtin.Range.small Builtin.Range.rangeFitsLong
  rw [hg]
  simp only [Bool.and_eq_true, Bool.or_eq_true, decide_eq_true_eq]
  (try rw [if_pos (by decide)])
  simp only [Bool.and_eq_true, Bool.or_eq_true, decide_eq_true_eq]
  omega
end Mine
namespace Mine
open LCg
def Apart (xs ys : List (Addr × Obj)) : Prop := ∀ q ∈ xs, ∀ p ∈ ys, @Ne Nat q.1 p.1
theorem allLt_mem {d : Addr} : ∀ {l : List (Addr × Obj)}, AllLt d l → ∀ p ∈ l, @LT.lt Nat _ p.1 d
  | [], _, _, hp => (nomatch hp)
  | q :: r, h, p, hp => by
    rcases List.mem_cons.mp hp with rfl | hp
    · exact h.1
    · exact allLt_mem h.2 p hp
/-- an element's end: one new object, that it gives back -/
theorem elt_one {h₀ h' : Heap} {L I C D D' : Addr} {m : Str → Option Value} {s₁ : Shared} {oI oC oD o : Obj} {R : Value → List (Addr × Obj) → Prop} {y : Value} {tk : Nat} {tl news : List (Addr × Obj)}
    (F : Fr h₀ L h' m) (N : News h₀ L h' ((D', o) :: (I, oI) :: (C, oC) :: (D, oD) :: (tl ++ news))) (l1 : AllLt D' ((I, oI) :: (C, oC) :: (D, oD) :: (tl ++ news))) (off : Off3 I C D (tl ++ news)) (hb : ∀ p ∈ tl, ∀ q ∈ news, @LT.lt Nat _ q.1 p.1) (hr : R y ((D', o) :: tl)) :
    EltAt h₀ L m s₁ I oI C oC D oD (fun _ => True) (fun y nx => ∃ tl', nx = tl' ++ news ∧ (∀ p ∈ tl', ∀ q ∈ news, @LT.lt Nat _ q.1 p.1) ∧ R y tl') y { s₁ with heap := h', toks := tk } := by
  have lt := allLt_mem l1
  refine EltAt.mk ((D', o) :: (tl ++ news)) F N (fun p hp => ?_) ⟨⟨?_, ?_, ?_⟩, off⟩ trivial ⟨(D', o) :: tl, rfl, fun p hp q hq => ?_, hr⟩
  · simp only [List.mem_cons] at hp ⊢
    rcases hp with h | h | h | h | h <;> simp only [h, true_or, or_true]
  · exact Nat.ne_of_gt (lt _ (.head _))
  · exact Nat.ne_of_gt (lt _ (.tail _ (.head _)))
  · exact Nat.ne_of_gt (lt _ (.tail _ (.tail _ (.head _))))
  · rcases List.mem_cons.mp hp with rfl | hp
    · exact lt q (.tail _ (.tail _ (.tail _ (List.mem_append_right _ hq))))
    · exact hb p hp q hq
theorem Each.snoc {α β : Type} {R : α → β → Prop} {as : List α} {bs : List β} {a : α} {b : β} (h : Each R as bs) (h' : R a b) : Each R (as ++ [a]) (bs ++ [b]) := h.append ⟨h', trivial⟩
theorem range_snoc {α : Type} (f : Nat → α) (n : Nat) : (List.range (n + 1)).map f = (List.range n).map f ++ [f n] := by rw [List.range_succ, List.map_append]; rfl
theorem off1_mem {D : Addr} : ∀ {l : List (Addr × Obj)}, Off1 D l → ∀ p ∈ l, @Ne Nat p.1 D
  | [], _, _, h => nomatch h
  | _ :: _, x, p, h => by
    rcases List.mem_cons.mp h with rfl | h
    · exact x.1
    · exact off1_mem x.2 p h
end Mine
namespace Mine
open LCg
section
variable {SN D D1 cell : Addr} {oS oS' oD o1 oc : Obj} {tl rest : List (Addr × Obj)}
theorem sigA (hb : ∀ p ∈ tl, ∀ q ∈ (D1, o1) :: (cell, oc) :: (SN, oS') :: rest, @LT.lt Nat _ q.1 p.1) (ho : Off1 D (tl ++ (D1, o1) :: (cell, oc) :: (SN, oS') :: rest)) (h1 : AllLt D1 ((cell, oc) :: (SN, oS') :: rest)) :
    Apart ((SN, oS) :: rest) ((D, oD) :: (tl ++ [(D1, o1)])) := by
  intro q hq p hp
  have ho' := off1_mem ho
  have h1' := allLt_mem h1
  rcases List.mem_cons.mp hp with rfl | hp
  · rcases List.mem_cons.mp hq with rfl | hq
    · exact ho' (SN, oS') (List.mem_append_right _ (.tail _ (.tail _ (.head _))))
    · exact ho' q (List.mem_append_right _ (.tail _ (.tail _ (.tail _ hq))))
  · rcases List.mem_append.mp hp with hp | hp
    · rcases List.mem_cons.mp hq with rfl | hq
      · exact Nat.ne_of_lt (hb p hp (SN, oS') (.tail _ (.tail _ (.head _))))
      · exact Nat.ne_of_lt (hb p hp q (.tail _ (.tail _ (.tail _ hq))))
    · rw [List.mem_singleton.mp hp]
      rcases List.mem_cons.mp hq with rfl | hq
      · exact Nat.ne_of_lt (h1' (SN, oS') (.tail _ (.head _)))
      · exact Nat.ne_of_lt (h1' q (.tail _ (.tail _ hq)))
theorem sigB (ho : Off1 D (tl ++ (D1, o1) :: (cell, oc) :: (SN, oS') :: rest)) : OwnOff (tl ++ [(D1, o1)]) [D] := by
  intro p hp b hb
  rw [List.mem_singleton.mp hb]
  have ho' := off1_mem ho
  rcases List.mem_append.mp hp with hp | hp
  · exact ho' p (List.mem_append_left _ hp)
  · rw [List.mem_singleton.mp hp]
    exact ho' (D1, o1) (List.mem_append_right _ (.head _))
theorem sigS {p : Addr × Obj} (hp : p ∈ (D, oD) :: (SN, oS') :: ((tl ++ [(D1, o1)]) ++ rest)) : p ∈ (D, oD) :: (tl ++ (D1, o1) :: (cell, oc) :: (SN, oS') :: rest) := by
  simp only [List.mem_cons, List.mem_append, List.not_mem_nil, or_false] at hp ⊢
  rcases hp with h | h | (h | h) | h <;> simp only [h, true_or, or_true]
end
theorem sigL {n x : Int} (h1 : 1 ≤ n) : ((((List.range n.toNat).map fun (j : Nat) => (x, 0 + (j : Int))).length : Nat) : Int) = (Tr.sig n r).width := by
  rw [List.length_map, List.length_range]; show (n.toNat : Int) = n; omega
theorem sigC {n r : Int} {c : Bool} {k : Nat} : Cover ((Tr.sig n r).occs c) k ((List.range n.toNat).map fun (j : Nat) => (((k + 1 : Nat) : Int) - 1, 0 + (j : Int))) := by
  intro j r' n' hj b h0 h1
  have hj0 : j = 0 := by
    have := (List.getElem?_eq_some_iff.mp hj).1
    simp only [Tr.occs, List.length_cons, List.length_nil] at this; omega
  subst hj0
  simp only [Tr.occs, List.getElem?_cons_zero, Option.some.injEq, Prod.mk.injEq] at hj
  obtain ⟨-, rfl, -⟩ := hj
  refine List.mem_map.mpr ⟨b.toNat, List.mem_range.mpr (by omega), ?_⟩
  refine Prod.ext ?_ ?_
  · show ((k + 1 : Nat) : Int) - 1 = ((k + 0 : Nat) : Int); omega
  · show 0 + (b.toNat : Int) = b; omega
end Mine
end

section
open PySem PySem.W PyProof.Rows PySem.Spec
namespace Mine
/- many facts at once, handed on in one step (a walk copies its goal at every binder) -/
theorem off_at {C I : Addr} {o : Obj} {l : List (Addr × Obj)} (h : OwnOff l [I]) (hm : (C, o) ∈ l) : @Ne Nat I C := fun e => h _ hm I (.head _) e.symm
theorem apart_at {X tl : List (Addr × Obj)} {b x : Addr} {ob o : Obj} (hA : Apart X ((b, ob) :: tl)) (hm : (x, o) ∈ X) : @Ne Nat x b := hA _ hm _ (.head _)
theorem off2 {I a0 a1 : Addr} {o0 o1 : Obj} {tl : List (Addr × Obj)} {G : Prop} (h : OwnOff ((a0, o0) :: (a1, o1) :: tl) [I]) (k : @Ne Nat I a0 → @Ne Nat I a1 → G) : G :=
  k (off_at h (.head _)) (off_at h (.tail _ (.head _)))
theorem off3 {I a0 a1 a2 : Addr} {o0 o1 o2 : Obj} {tl : List (Addr × Obj)} {G : Prop} (h : OwnOff ((a0, o0) :: (a1, o1) :: (a2, o2) :: tl) [I]) (k : @Ne Nat I a0 → @Ne Nat I a1 → @Ne Nat I a2 → G) : G :=
  k (off_at h (.head _)) (off_at h (.tail _ (.head _))) (off_at h (.tail _ (.tail _ (.head _))))
theorem off4 {I a0 a1 a2 a3 : Addr} {o0 o1 o2 o3 : Obj} {tl : List (Addr × Obj)} {G : Prop} (h : OwnOff ((a0, o0) :: (a1, o1) :: (a2, o2) :: (a3, o3) :: tl) [I]) (k : @Ne Nat I a0 → @Ne Nat I a1 → @Ne Nat I a2 → @Ne Nat I a3 → G) : G :=
  k (off_at h (.head _)) (off_at h (.tail _ (.head _))) (off_at h (.tail _ (.tail _ (.head _)))) (off_at h (.tail _ (.tail _ (.tail _ (.head _)))))
theorem off5 {I a0 a1 a2 a3 a4 : Addr} {o0 o1 o2 o3 o4 : Obj} {tl : List (Addr × Obj)} {G : Prop} (h : OwnOff ((a0, o0) :: (a1, o1) :: (a2, o2) :: (a3, o3) :: (a4, o4) :: tl) [I]) (k : @Ne Nat I a0 → @Ne Nat I a1 → @Ne Nat I a2 → @Ne Nat I a3 → @Ne Nat I a4 → G) : G :=
  k (off_at h (.head _)) (off_at h (.tail _ (.head _))) (off_at h (.tail _ (.tail _ (.head _)))) (off_at h (.tail _ (.tail _ (.tail _ (.head _))))) (off_at h (.tail _ (.tail _ (.tail _ (.tail _ (.head _))))))
theorem off8 {I a0 a1 a2 a3 a4 a5 a6 a7 : Addr} {o0 o1 o2 o3 o4 o5 o6 o7 : Obj} {tl : List (Addr × Obj)} {G : Prop} (h : OwnOff ((a0, o0) :: (a1, o1) :: (a2, o2) :: (a3, o3) :: (a4, o4) :: (a5, o5) :: (a6, o6) :: (a7, o7) :: tl) [I]) (k : @Ne Nat I a0 → @Ne Nat I a1 → @Ne Nat I a2 → @Ne Nat I a3 → @Ne Nat I a4 → @Ne Nat I a5 → @Ne Nat I a6 → @Ne Nat I a7 → G) : G :=
  k (off_at h (.head _)) (off_at h (.tail _ (.head _))) (off_at h (.tail _ (.tail _ (.head _)))) (off_at h (.tail _ (.tail _ (.tail _ (.head _))))) (off_at h (.tail _ (.tail _ (.tail _ (.tail _ (.head _)))))) (off_at h (.tail _ (.tail _ (.tail _ (.tail _ (.tail _ (.head _))))))) (off_at h (.tail _ (.tail _ (.tail _ (.tail _ (.tail _ (.tail _ (.head _)))))))) (off_at h (.tail _ (.tail _ (.tail _ (.tail _ (.tail _ (.tail _ (.tail _ (.head _)))))))))
theorem off9 {I a0 a1 a2 a3 a4 a5 a6 a7 a8 : Addr} {o0 o1 o2 o3 o4 o5 o6 o7 o8 : Obj} {tl : List (Addr × Obj)} {G : Prop} (h : OwnOff ((a0, o0) :: (a1, o1) :: (a2, o2) :: (a3, o3) :: (a4, o4) :: (a5, o5) :: (a6, o6) :: (a7, o7) :: (a8, o8) :: tl) [I]) (k : @Ne Nat I a0 → @Ne Nat I a1 → @Ne Nat I a2 → @Ne Nat I a3 → @Ne Nat I a4 → @Ne Nat I a5 → @Ne Nat I a6 → @Ne Nat I a7 → @Ne Nat I a8 → G) : G :=
  k (off_at h (.head _)) (off_at h (.tail _ (.head _))) (off_at h (.tail _ (.tail _ (.head _)))) (off_at h (.tail _ (.tail _ (.tail _ (.head _))))) (off_at h (.tail _ (.tail _ (.tail _ (.tail _ (.head _)))))) (off_at h (.tail _ (.tail _ (.tail _ (.tail _ (.tail _ (.head _))))))) (off_at h (.tail _ (.tail _ (.tail _ (.tail _ (.tail _ (.tail _ (.head _)))))))) (off_at h (.tail _ (.tail _ (.tail _ (.tail _ (.tail _ (.tail _ (.tail _ (.head _))))))))) (off_at h (.tail _ (.tail _ (.tail _ (.tail _ (.tail _ (.tail _ (.tail _ (.tail _ (.head _))))))))))
theorem off10 {I a0 a1 a2 a3 a4 a5 a6 a7 a8 a9 : Addr} {o0 o1 o2 o3 o4 o5 o6 o7 o8 o9 : Obj} {tl : List (Addr × Obj)} {G : Prop} (h : OwnOff ((a0, o0) :: (a1, o1) :: (a2, o2) :: (a3, o3) :: (a4, o4) :: (a5, o5) :: (a6, o6) :: (a7, o7) :: (a8, o8) :: (a9, o9) :: tl) [I]) (k : @Ne Nat I a0 → @Ne Nat I a1 → @Ne Nat I a2 → @Ne Nat I a3 → @Ne Nat I a4 → @Ne Nat I a5 → @Ne Nat I a6 → @Ne Nat I a7 → @Ne Nat I a8 → @Ne Nat I a9 → G) : G :=
  k (off_at h (.head _)) (off_at h (.tail _ (.head _))) (off_at h (.tail _ (.tail _ (.head _)))) (off_at h (.tail _ (.tail _ (.tail _ (.head _))))) (off_at h (.tail _ (.tail _ (.tail _ (.tail _ (.head _)))))) (off_at h (.tail _ (.tail _ (.tail _ (.tail _ (.tail _ (.head _))))))) (off_at h (.tail _ (.tail _ (.tail _ (.tail _ (.tail _ (.tail _ (.head _)))))))) (off_at h (.tail _ (.tail _ (.tail _ (.tail _ (.tail _ (.tail _ (.tail _ (.head _))))))))) (off_at h (.tail _ (.tail _ (.tail _ (.tail _ (.tail _ (.tail _ (.tail _ (.tail _ (.head _)))))))))) (off_at h (.tail _ (.tail _ (.tail _ (.tail _ (.tail _ (.tail _ (.tail _ (.tail _ (.tail _ (.head _)))))))))))
theorem off11 {I a0 a1 a2 a3 a4 a5 a6 a7 a8 a9 a10 : Addr} {o0 o1 o2 o3 o4 o5 o6 o7 o8 o9 o10 : Obj} {tl : List (Addr × Obj)} {G : Prop} (h : OwnOff ((a0, o0) :: (a1, o1) :: (a2, o2) :: (a3, o3) :: (a4, o4) :: (a5, o5) :: (a6, o6) :: (a7, o7) :: (a8, o8) :: (a9, o9) :: (a10, o10) :: tl) [I]) (k : @Ne Nat I a0 → @Ne Nat I a1 → @Ne Nat I a2 → @Ne Nat I a3 → @Ne Nat I a4 → @Ne Nat I a5 → @Ne Nat I a6 → @Ne Nat I a7 → @Ne Nat I a8 → @Ne Nat I a9 → @Ne Nat I a10 → G) : G :=
  k (off_at h (.head _)) (off_at h (.tail _ (.head _))) (off_at h (.tail _ (.tail _ (.head _)))) (off_at h (.tail _ (.tail _ (.tail _ (.head _))))) (off_at h (.tail _ (.tail _ (.tail _ (.tail _ (.head _)))))) (off_at h (.tail _ (.tail _ (.tail _ (.tail _ (.tail _ (.head _))))))) (off_at h (.tail _ (.tail _ (.tail _ (.tail _ (.tail _ (.tail _ (.head _)))))))) (off_at h (.tail _ (.tail _ (.tail _ (.tail _ (.tail _ (.tail _ (.tail _ (.head _))))))))) (off_at h (.tail _ (.tail _ (.tail _ (.tail _ (.tail _ (.tail _ (.tail _ (.tail _ (.head _)))))))))) (off_at h (.tail _ (.tail _ (.tail _ (.tail _ (.tail _ (.tail _ (.tail _ (.tail _ (.tail _ (.head _))))))))))) (off_at h (.tail _ (.tail _ (.tail _ (.tail _ (.tail _ (.tail _ (.tail _ (.tail _ (.tail _ (.tail _ (.head _))))))))))))
theorem off12 {I a0 a1 a2 a3 a4 a5 a6 a7 a8 a9 a10 a11 : Addr} {o0 o1 o2 o3 o4 o5 o6 o7 o8 o9 o10 o11 : Obj} {tl : List (Addr × Obj)} {G : Prop} (h : OwnOff ((a0, o0) :: (a1, o1) :: (a2, o2) :: (a3, o3) :: (a4, o4) :: (a5, o5) :: (a6, o6) :: (a7, o7) :: (a8, o8) :: (a9, o9) :: (a10, o10) :: (a11, o11) :: tl) [I]) (k : @Ne Nat I a0 → @Ne Nat I a1 → @Ne Nat I a2 → @Ne Nat I a3 → @Ne Nat I a4 → @Ne Nat I a5 → @Ne Nat I a6 → @Ne Nat I a7 → @Ne Nat I a8 → @Ne Nat I a9 → @Ne Nat I a10 → @Ne Nat I a11 → G) : G :=
  k (off_at h (.head _)) (off_at h (.tail _ (.head _))) (off_at h (.tail _ (.tail _ (.head _)))) (off_at h (.tail _ (.tail _ (.tail _ (.head _))))) (off_at h (.tail _ (.tail _ (.tail _ (.tail _ (.head _)))))) (off_at h (.tail _ (.tail _ (.tail _ (.tail _ (.tail _ (.head _))))))) (off_at h (.tail _ (.tail _ (.tail _ (.tail _ (.tail _ (.tail _ (.head _)))))))) (off_at h (.tail _ (.tail _ (.tail _ (.tail _ (.tail _ (.tail _ (.tail _ (.head _))))))))) (off_at h (.tail _ (.tail _ (.tail _ (.tail _ (.tail _ (.tail _ (.tail _ (.tail _ (.head _)))))))))) (off_at h (.tail _ (.tail _ (.tail _ (.tail _ (.tail _ (.tail _ (.tail _ (.tail _ (.tail _ (.head _))))))))))) (off_at h (.tail _ (.tail _ (.tail _ (.tail _ (.tail _ (.tail _ (.tail _ (.tail _ (.tail _ (.tail _ (.head _)))))))))))) (off_at h (.tail _ (.tail _ (.tail _ (.tail _ (.tail _ (.tail _ (.tail _ (.tail _ (.tail _ (.tail _ (.tail _ (.head _)))))))))))))
theorem off13 {I a0 a1 a2 a3 a4 a5 a6 a7 a8 a9 a10 a11 a12 : Addr} {o0 o1 o2 o3 o4 o5 o6 o7 o8 o9 o10 o11 o12 : Obj} {tl : List (Addr × Obj)} {G : Prop} (h : OwnOff ((a0, o0) :: (a1, o1) :: (a2, o2) :: (a3, o3) :: (a4, o4) :: (a5, o5) :: (a6, o6) :: (a7, o7) :: (a8, o8) :: (a9, o9) :: (a10, o10) :: (a11, o11) :: (a12, o12) :: tl) [I]) (k : @Ne Nat I a0 → @Ne Nat I a1 → @Ne Nat I a2 → @Ne Nat I a3 → @Ne Nat I a4 → @Ne Nat I a5 → @Ne Nat I a6 → @Ne Nat I a7 → @Ne Nat I a8 → @Ne Nat I a9 → @Ne Nat I a10 → @Ne Nat I a11 → @Ne Nat I a12 → G) : G :=
  k (off_at h (.head _)) (off_at h (.tail _ (.head _))) (off_at h (.tail _ (.tail _ (.head _)))) (off_at h (.tail _ (.tail _ (.tail _ (.head _))))) (off_at h (.tail _ (.tail _ (.tail _ (.tail _ (.head _)))))) (off_at h (.tail _ (.tail _ (.tail _ (.tail _ (.tail _ (.head _))))))) (off_at h (.tail _ (.tail _ (.tail _ (.tail _ (.tail _ (.tail _ (.head _)))))))) (off_at h (.tail _ (.tail _ (.tail _ (.tail _ (.tail _ (.tail _ (.tail _ (.head _))))))))) (off_at h (.tail _ (.tail _ (.tail _ (.tail _ (.tail _ (.tail _ (.tail _ (.tail _ (.head _)))))))))) (off_at h (.tail _ (.tail _ (.tail _ (.tail _ (.tail _ (.tail _ (.tail _ (.tail _ (.tail _ (.head _))))))))))) (off_at h (.tail _ (.tail _ (.tail _ (.tail _ (.tail _ (.tail _ (.tail _ (.tail _ (.tail _ (.tail _ (.head _)))))))))))) (off_at h (.tail _ (.tail _ (.tail _ (.tail _ (.tail _ (.tail _ (.tail _ (.tail _ (.tail _ (.tail _ (.tail _ (.head _))))))))))))) (off_at h (.tail _ (.tail _ (.tail _ (.tail _ (.tail _ (.tail _ (.tail _ (.tail _ (.tail _ (.tail _ (.tail _ (.tail _ (.head _))))))))))))))
theorem apart12 {b a0 a1 a2 a3 a4 a5 a6 a7 a8 a9 a10 a11 : Addr} {ob o0 o1 o2 o3 o4 o5 o6 o7 o8 o9 o10 o11 : Obj} {tl rs : List (Addr × Obj)} {G : Prop} (h : Apart ((a0, o0) :: (a1, o1) :: (a2, o2) :: (a3, o3) :: (a4, o4) :: (a5, o5) :: (a6, o6) :: (a7, o7) :: (a8, o8) :: (a9, o9) :: (a10, o10) :: (a11, o11) :: rs) ((b, ob) :: tl)) (k : @Ne Nat a0 b → @Ne Nat a1 b → @Ne Nat a2 b → @Ne Nat a3 b → @Ne Nat a4 b → @Ne Nat a5 b → @Ne Nat a6 b → @Ne Nat a7 b → @Ne Nat a8 b → @Ne Nat a9 b → @Ne Nat a10 b → @Ne Nat a11 b → G) : G :=
  k (apart_at h (.head _)) (apart_at h (.tail _ (.head _))) (apart_at h (.tail _ (.tail _ (.head _)))) (apart_at h (.tail _ (.tail _ (.tail _ (.head _))))) (apart_at h (.tail _ (.tail _ (.tail _ (.tail _ (.head _)))))) (apart_at h (.tail _ (.tail _ (.tail _ (.tail _ (.tail _ (.head _))))))) (apart_at h (.tail _ (.tail _ (.tail _ (.tail _ (.tail _ (.tail _ (.head _)))))))) (apart_at h (.tail _ (.tail _ (.tail _ (.tail _ (.tail _ (.tail _ (.tail _ (.head _))))))))) (apart_at h (.tail _ (.tail _ (.tail _ (.tail _ (.tail _ (.tail _ (.tail _ (.tail _ (.head _)))))))))) (apart_at h (.tail _ (.tail _ (.tail _ (.tail _ (.tail _ (.tail _ (.tail _ (.tail _ (.tail _ (.head _))))))))))) (apart_at h (.tail _ (.tail _ (.tail _ (.tail _ (.tail _ (.tail _ (.tail _ (.tail _ (.tail _ (.tail _ (.head _)))))))))))) (apart_at h (.tail _ (.tail _ (.tail _ (.tail _ (.tail _ (.tail _ (.tail _ (.tail _ (.tail _ (.tail _ (.tail _ (.head _)))))))))))))
theorem and2 {p0 p1 G : Prop} (h : p0 ∧ p1) (k : p0 → p1 → G) : G :=
  k h.1 h.2
theorem and3 {p0 p1 p2 G : Prop} (h : p0 ∧ p1 ∧ p2) (k : p0 → p1 → p2 → G) : G :=
  k h.1 h.2.1 h.2.2
theorem and4 {p0 p1 p2 p3 G : Prop} (h : p0 ∧ p1 ∧ p2 ∧ p3) (k : p0 → p1 → p2 → p3 → G) : G :=
  k h.1 h.2.1 h.2.2.1 h.2.2.2
theorem and5 {p0 p1 p2 p3 p4 G : Prop} (h : p0 ∧ p1 ∧ p2 ∧ p3 ∧ p4) (k : p0 → p1 → p2 → p3 → p4 → G) : G :=
  k h.1 h.2.1 h.2.2.1 h.2.2.2.1 h.2.2.2.2
theorem and6 {p0 p1 p2 p3 p4 p5 G : Prop} (h : p0 ∧ p1 ∧ p2 ∧ p3 ∧ p4 ∧ p5) (k : p0 → p1 → p2 → p3 → p4 → p5 → G) : G :=
  k h.1 h.2.1 h.2.2.1 h.2.2.2.1 h.2.2.2.2.1 h.2.2.2.2.2
theorem and7 {p0 p1 p2 p3 p4 p5 p6 G : Prop} (h : p0 ∧ p1 ∧ p2 ∧ p3 ∧ p4 ∧ p5 ∧ p6) (k : p0 → p1 → p2 → p3 → p4 → p5 → p6 → G) : G :=
  k h.1 h.2.1 h.2.2.1 h.2.2.2.1 h.2.2.2.2.1 h.2.2.2.2.2.1 h.2.2.2.2.2.2
theorem and8 {p0 p1 p2 p3 p4 p5 p6 p7 G : Prop} (h : p0 ∧ p1 ∧ p2 ∧ p3 ∧ p4 ∧ p5 ∧ p6 ∧ p7) (k : p0 → p1 → p2 → p3 → p4 → p5 → p6 → p7 → G) : G :=
  k h.1 h.2.1 h.2.2.1 h.2.2.2.1 h.2.2.2.2.1 h.2.2.2.2.2.1 h.2.2.2.2.2.2.1 h.2.2.2.2.2.2.2
theorem and9 {p0 p1 p2 p3 p4 p5 p6 p7 p8 G : Prop} (h : p0 ∧ p1 ∧ p2 ∧ p3 ∧ p4 ∧ p5 ∧ p6 ∧ p7 ∧ p8) (k : p0 → p1 → p2 → p3 → p4 → p5 → p6 → p7 → p8 → G) : G :=
  k h.1 h.2.1 h.2.2.1 h.2.2.2.1 h.2.2.2.2.1 h.2.2.2.2.2.1 h.2.2.2.2.2.2.1 h.2.2.2.2.2.2.2.1 h.2.2.2.2.2.2.2.2
theorem and10 {p0 p1 p2 p3 p4 p5 p6 p7 p8 p9 G : Prop} (h : p0 ∧ p1 ∧ p2 ∧ p3 ∧ p4 ∧ p5 ∧ p6 ∧ p7 ∧ p8 ∧ p9) (k : p0 → p1 → p2 → p3 → p4 → p5 → p6 → p7 → p8 → p9 → G) : G :=
  k h.1 h.2.1 h.2.2.1 h.2.2.2.1 h.2.2.2.2.1 h.2.2.2.2.2.1 h.2.2.2.2.2.2.1 h.2.2.2.2.2.2.2.1 h.2.2.2.2.2.2.2.2.1 h.2.2.2.2.2.2.2.2.2
theorem and11 {p0 p1 p2 p3 p4 p5 p6 p7 p8 p9 p10 G : Prop} (h : p0 ∧ p1 ∧ p2 ∧ p3 ∧ p4 ∧ p5 ∧ p6 ∧ p7 ∧ p8 ∧ p9 ∧ p10) (k : p0 → p1 → p2 → p3 → p4 → p5 → p6 → p7 → p8 → p9 → p10 → G) : G :=
  k h.1 h.2.1 h.2.2.1 h.2.2.2.1 h.2.2.2.2.1 h.2.2.2.2.2.1 h.2.2.2.2.2.2.1 h.2.2.2.2.2.2.2.1 h.2.2.2.2.2.2.2.2.1 h.2.2.2.2.2.2.2.2.2.1 h.2.2.2.2.2.2.2.2.2.2
theorem and12 {p0 p1 p2 p3 p4 p5 p6 p7 p8 p9 p10 p11 G : Prop} (h : p0 ∧ p1 ∧ p2 ∧ p3 ∧ p4 ∧ p5 ∧ p6 ∧ p7 ∧ p8 ∧ p9 ∧ p10 ∧ p11) (k : p0 → p1 → p2 → p3 → p4 → p5 → p6 → p7 → p8 → p9 → p10 → p11 → G) : G :=
  k h.1 h.2.1 h.2.2.1 h.2.2.2.1 h.2.2.2.2.1 h.2.2.2.2.2.1 h.2.2.2.2.2.2.1 h.2.2.2.2.2.2.2.1 h.2.2.2.2.2.2.2.2.1 h.2.2.2.2.2.2.2.2.2.1 h.2.2.2.2.2.2.2.2.2.2.1 h.2.2.2.2.2.2.2.2.2.2.2
theorem and13 {p0 p1 p2 p3 p4 p5 p6 p7 p8 p9 p10 p11 p12 G : Prop} (h : p0 ∧ p1 ∧ p2 ∧ p3 ∧ p4 ∧ p5 ∧ p6 ∧ p7 ∧ p8 ∧ p9 ∧ p10 ∧ p11 ∧ p12) (k : p0 → p1 → p2 → p3 → p4 → p5 → p6 → p7 → p8 → p9 → p10 → p11 → p12 → G) : G :=
  k h.1 h.2.1 h.2.2.1 h.2.2.2.1 h.2.2.2.2.1 h.2.2.2.2.2.1 h.2.2.2.2.2.2.1 h.2.2.2.2.2.2.2.1 h.2.2.2.2.2.2.2.2.1 h.2.2.2.2.2.2.2.2.2.1 h.2.2.2.2.2.2.2.2.2.2.1 h.2.2.2.2.2.2.2.2.2.2.2.1 h.2.2.2.2.2.2.2.2.2.2.2.2
theorem off6 {I a0 a1 a2 a3 a4 a5 : Addr} {o0 o1 o2 o3 o4 o5 : Obj} {tl : List (Addr × Obj)} {G : Prop} (h : OwnOff ((a0, o0) :: (a1, o1) :: (a2, o2) :: (a3, o3) :: (a4, o4) :: (a5, o5) :: tl) [I]) (k : @Ne Nat I a0 → @Ne Nat I a1 → @Ne Nat I a2 → @Ne Nat I a3 → @Ne Nat I a4 → @Ne Nat I a5 → G) : G :=
  k (off_at h (.head _)) (off_at h (.tail _ (.head _))) (off_at h (.tail _ (.tail _ (.head _)))) (off_at h (.tail _ (.tail _ (.tail _ (.head _))))) (off_at h (.tail _ (.tail _ (.tail _ (.tail _ (.head _)))))) (off_at h (.tail _ (.tail _ (.tail _ (.tail _ (.tail _ (.head _)))))))
theorem off7 {I a0 a1 a2 a3 a4 a5 a6 : Addr} {o0 o1 o2 o3 o4 o5 o6 : Obj} {tl : List (Addr × Obj)} {G : Prop} (h : OwnOff ((a0, o0) :: (a1, o1) :: (a2, o2) :: (a3, o3) :: (a4, o4) :: (a5, o5) :: (a6, o6) :: tl) [I]) (k : @Ne Nat I a0 → @Ne Nat I a1 → @Ne Nat I a2 → @Ne Nat I a3 → @Ne Nat I a4 → @Ne Nat I a5 → @Ne Nat I a6 → G) : G :=
  k (off_at h (.head _)) (off_at h (.tail _ (.head _))) (off_at h (.tail _ (.tail _ (.head _)))) (off_at h (.tail _ (.tail _ (.tail _ (.head _))))) (off_at h (.tail _ (.tail _ (.tail _ (.tail _ (.head _)))))) (off_at h (.tail _ (.tail _ (.tail _ (.tail _ (.tail _ (.head _))))))) (off_at h (.tail _ (.tail _ (.tail _ (.tail _ (.tail _ (.tail _ (.head _))))))))
/-- an object in the ledger is opaque from here on -/
theorem led_opq1 {h₀ h : Heap} {L a : Addr} {o : Obj} {p : Addr × Obj} {rest : List (Addr × Obj)} {G : Prop} {Pr : Obj → Prop} (N : News h₀ L h (p :: (a, o) :: rest)) (hp : Pr o) (k : ∀ o', Pr o' → News h₀ L h (p :: (a, o') :: rest) → G) : G := k o hp N
end Mine
end

section
open PySem PySem.W PyProof.Rows PySem.Spec
set_option Elab.async false
namespace Mine
theorem fill2 : PySem.Challenge.rw_sj0034_01 = PySem.Challenge.rw_sj0034_01 ∧ Mine.hd.heap_39 = Mine.hd.heap_39 := by
  k_fill
  exact ⟨rfl, rfl⟩

def TreeSpec (w : World) (mean : ExcName → Option Value) (mg mb : Str → Option Value) (d bud : Int) : Prop :=
  ∀ (dp un : Nat) (gd : Option (List Code)) (cn : Str) (cs : Scope) (L a : Addr) (ccd : Value) (cl : List (Str × Addr)) (outer : List Env)
   (A₀ : Around) (base h₀ : Heap) (m : Str → Option Value) (s : Shared) (Q E : Value → Shared → Prop)
   (rest : List (Addr × Obj)) (P C S : Addr) (vs : List Value) (ns : List Int) (nc ss : Nat) (i : Int) (tk dt : Tok) (z0 z1 z2 : Int) (y0 y1 y2 : Tok)
   (_B : Below A₀ base outer h₀) (_F : Fr h₀ L s.heap m) (_X : (Mine.hd.heap_39 w.params).In h₀)
   (_N : News h₀ L s.heap ((P, listOf #[.ref C, .int i tk] 0) :: (C, listOf vs.toArray nc) :: (S, listOf #[.int z0 y0, .int z1 y1, .int z2 y2] ss) :: rest))
   (_T : Top Mine.hd.view_39 (looseW Mine.hd.view_39 []) mean mg mb h₀) (_hk : cs.kind = .function)
   (_hoff : OwnOff rest [P]) (_hPC : C ≠ P) (_hPS : S ≠ P) (_hI : IntsAre vs ns) (_hlen : ns.length ≤ 60) (_hi : -1 ≤ i) (_hi2 : i + bud < 1000000)
   (_hz0 : 1 ≤ z0 ∧ z0 ≤ 4) (_hz1 : 1 ≤ z1 ∧ z1 ≤ 4) (_hz2 : 1 ≤ z2 ∧ z2 ≤ 4)
   (_hdp : (dp : Int) ≤ 500 + 10 * d) (_hun : (un : Int) ≤ 1000 + 100 * d)
   (_ret : ∀ t v tl i' it h' tk', Fr h₀ L h' m → News h₀ L h' ((P, listOf #[.ref C, .int i' it] 0) :: (C, listOf vs.toArray nc) :: (S, listOf #[.int z0 y0, .int z1 y1, .int z2 y2] ss) :: (tl ++ rest)) →
      Apart ((P, listOf #[.ref C, .int i tk] 0) :: (C, listOf vs.toArray nc) :: (S, listOf #[.int z0 y0, .int z1 y1, .int z2 y2] ss) :: rest) tl → i ≤ i' → i' ≤ i + bud → TrIn tl v t → t.Good (fun r => if r = 0 then z0 else if r = 1 then z1 else z2) → (t.deep : Int) + d ≤ 3 → Q v { s with heap := h', toks := tk' }),
   wpAny (model PySem.Challenge.rw_sj0034_01.row.prog w) (ktrTop dp un gd cn cs L a ccd cl outer) (call (.ref (ktn_at% "_law_tree")) [.ref P, .ref S, .int d dt]) Q E s


theorem tree_use {w : World} {mean : ExcName → Option Value} {mg mb : Str → Option Value} {dp un : Nat} {gd : Option (List Code)} {cn : Str} {cs : Scope} {L a : Addr} {ccd : Value} {cl : List (Str × Addr)} {outer : List Env}
   {A₀ : Around} {base h₀ : Heap} {m : Str → Option Value} {s : Shared} {Q E : Value → Shared → Prop}
   {rest : List (Addr × Obj)} {P C S : Addr} {vs : List Value} {ns : List Int} {nc ss : Nat} {i : Int} {tk dt : Tok} {z0 z1 z2 : Int} {y0 y1 y2 : Tok} {d bud : Int}
   (H : TreeSpec w mean mg mb d bud)
   (B : Below A₀ base outer h₀) (F : Fr h₀ L s.heap m) (X : (Mine.hd.heap_39 w.params).In h₀)
   (N : News h₀ L s.heap ((P, listOf #[.ref C, .int i tk] 0) :: (C, listOf vs.toArray nc) :: (S, listOf #[.int z0 y0, .int z1 y1, .int z2 y2] ss) :: rest))
   (T : Top Mine.hd.view_39 (looseW Mine.hd.view_39 []) mean mg mb h₀) (hk : cs.kind = .function)
   (hoff : OwnOff rest [P]) (hPC : C ≠ P) (hPS : S ≠ P) (hI : IntsAre vs ns) (hlen : ns.length ≤ 60) (hi : -1 ≤ i) (hi2 : i + bud < 1000000)
   (hz0 : 1 ≤ z0 ∧ z0 ≤ 4) (hz1 : 1 ≤ z1 ∧ z1 ≤ 4) (hz2 : 1 ≤ z2 ∧ z2 ≤ 4)
   (hdp : (dp : Int) ≤ 500 + 10 * d) (hun : (un : Int) ≤ 1000 + 100 * d)
   (ret : ∀ t a its wt tl i' it h' tk', Fr h₀ L h' m → News h₀ L h' ((P, listOf #[.ref C, .int i' it] 0) :: (C, listOf vs.toArray nc) :: (S, listOf #[.int z0 y0, .int z1 y1, .int z2 y2] ss) :: (tl ++ rest)) →
      Apart ((P, listOf #[.ref C, .int i tk] 0) :: (C, listOf vs.toArray nc) :: (S, listOf #[.int z0 y0, .int z1 y1, .int z2 y2] ss) :: rest) tl → OwnOff tl [P] → OwnOff (tl ++ rest) [P] → i ≤ i' → i' ≤ i + bud → TrIn tl (.ref a) t → (a, tupO its) ∈ tl → its.toList[1]? = some (.int t.width wt) → t.Good (fun r => if r = 0 then z0 else if r = 1 then z1 else z2) → (t.deep : Int) + d ≤ 3 → Q (.ref a) { s with heap := h', toks := tk' }) :
   wpAny (model PySem.Challenge.rw_sj0034_01.row.prog w) (ktrTop dp un gd cn cs L a ccd cl outer) (call (.ref (ktn_at% "_law_tree")) [.ref P, .ref S, .int d dt]) Q E s := by
  refine H _ _ _ _ _ _ _ _ _ _ _ _ _ _ _ _ _ rest P C S vs ns nc ss i tk dt z0 z1 z2 y0 y1 y2 B F X N T hk hoff hPC hPS hI hlen hi hi2 hz0 hz1 hz2 hdp hun ?_
  intro t v tl i' it h' tk' F' N' ho h1 h2 hT hG hd
  obtain ⟨a, its, t1, rfl, hm, hw⟩ := hT.head
  have ho' : OwnOff tl [P] := fun p hp b hb e => by
    rw [List.mem_singleton.mp hb] at e
    exact ho _ (.head _) p hp e.symm
  exact ret t a its t1 tl i' it h' tk' F' N' ho ho' (ownOff_app ho' hoff) h1 h2 hT hm hw hG hd

section
variable {h₀ h : Heap} {L : Addr} {x y p c s : Addr × Obj} {t1 t2 rest : List (Addr × Obj)}
theorem permA (N : News h₀ L h (x :: p :: c :: s :: rest)) : News h₀ L h (p :: c :: s :: ([x] ++ rest)) := news_sub N (sub_mid (X := []) (T := [x]) (M := [p, c, s]) (R := rest))
theorem permB (N : News h₀ L h (x :: p :: c :: s :: (t1 ++ rest))) : News h₀ L h (p :: c :: s :: ((x :: t1) ++ rest)) := news_sub N (sub_mid (X := []) (T := [x]) (M := [p, c, s]) (R := t1 ++ rest))
theorem permC (N : News h₀ L h (x :: y :: p :: c :: s :: (t2 ++ (t1 ++ rest)))) : News h₀ L h (p :: c :: s :: ((x :: y :: (t1 ++ t2)) ++ rest)) := news_sub (news_sub N (sub_mid (X := []) (T := [x, y]) (M := [p, c, s]) (R := t2 ++ (t1 ++ rest)))) fun q hq => by
  have h2 : q ∈ [p, c, s, x, y] ++ (t1 ++ (t2 ++ rest)) := by rw [← List.append_assoc t1]; exact hq
  exact sub_mid (X := [p, c, s, x, y]) (T := t2) (M := t1) (R := rest) q h2
end
theorem ownOff_one {a b : Addr} {o : Obj} {own : List (Addr × Obj)} (h : @LT.lt Nat _ b a) (k : OwnOff own [b]) : OwnOff ((a, o) :: own) [b] := ownOff_cons (fun c hc e => by rw [List.mem_singleton.mp hc] at e; exact absurd h (by rw [e]; exact Nat.lt_irrefl _)) k
theorem ownOff_nil {adr : List Addr} : OwnOff [] adr := fun _ hp => nomatch hp
section
variable {P C S x y : Addr} {p1 c1 s1 p2 c2 s2 p3 c3 s3 ox oy : Obj} {t1 t2 rest : List (Addr × Obj)}
theorem apartA (h : @LT.lt Nat _ P x ∧ @LT.lt Nat _ C x ∧ @LT.lt Nat _ S x ∧ AllLt x rest) : Apart ((P, p1) :: (C, c1) :: (S, s1) :: rest) [(x, ox)] := fun q hq p hp => by
  rw [List.mem_singleton.mp hp]
  simp only [List.mem_cons] at hq
  rcases hq with rfl | rfl | rfl | hq
  · exact Nat.ne_of_lt h.1
  · exact Nat.ne_of_lt h.2.1
  · exact Nat.ne_of_lt h.2.2.1
  · exact Nat.ne_of_lt (allLt_mem h.2.2.2 q hq)
theorem apart_obj (h : Apart ((P, p1) :: (C, c1) :: (S, s1) :: rest) t1) : Apart ((P, p2) :: (C, c2) :: (S, s2) :: rest) t1 := fun q hq p hp => by
  simp only [List.mem_cons] at hq
  rcases hq with rfl | rfl | rfl | hq
  · exact h (P, p1) (.head _) p hp
  · exact h (C, c1) (.tail _ (.head _)) p hp
  · exact h (S, s1) (.tail _ (.tail _ (.head _))) p hp
  · exact h q (.tail _ (.tail _ (.tail _ hq))) p hp
theorem apart_sub {X Y tl : List (Addr × Obj)} (h : Apart X tl) (hs : ∀ p ∈ Y, p ∈ X) : Apart Y tl := fun q hq p hp => h q (hs q hq) p hp
theorem apart_app {X a b : List (Addr × Obj)} (h : Apart X a) (k : Apart X b) : Apart X (a ++ b) := fun q hq p hp => by
  rcases List.mem_append.mp hp with hp | hp
  · exact h q hq p hp
  · exact k q hq p hp
theorem apartB (h : @LT.lt Nat _ P x ∧ @LT.lt Nat _ C x ∧ @LT.lt Nat _ S x ∧ AllLt x (t1 ++ rest)) (hA : Apart ((P, p1) :: (C, c1) :: (S, s1) :: rest) t1) : Apart ((P, p2) :: (C, c2) :: (S, s2) :: rest) ((x, ox) :: t1) :=
  apart_app (a := [(x, ox)]) (apartA ⟨h.1, h.2.1, h.2.2.1, allLt_of fun p hp => allLt_mem h.2.2.2 p (List.mem_append_right _ hp)⟩) (apart_obj hA)
theorem apartC (hy : @LT.lt Nat _ P y ∧ @LT.lt Nat _ C y ∧ @LT.lt Nat _ S y ∧ AllLt y (t2 ++ (t1 ++ rest))) (hx : @LT.lt Nat _ y x ∧ @LT.lt Nat _ P x ∧ @LT.lt Nat _ C x ∧ @LT.lt Nat _ S x ∧ AllLt x (t2 ++ (t1 ++ rest)))
    (h1 : Apart ((P, p1) :: (C, c1) :: (S, s1) :: rest) t1) (h2 : Apart ((P, p2) :: (C, c2) :: (S, s2) :: (t1 ++ rest)) t2) : Apart ((P, p3) :: (C, c3) :: (S, s3) :: rest) ((x, ox) :: (y, oy) :: (t1 ++ t2)) := by
  have r : ∀ p ∈ rest, p ∈ t2 ++ (t1 ++ rest) := fun p hp => List.mem_append_right _ (List.mem_append_right _ hp)
  refine apart_app (a := [(x, ox)]) (apartA ⟨hx.2.1, hx.2.2.1, hx.2.2.2.1, allLt_of fun p hp => allLt_mem hx.2.2.2.2 p (r p hp)⟩) (apart_app (a := [(y, oy)]) (apartA ⟨hy.1, hy.2.1, hy.2.2.1, allLt_of fun p hp => allLt_mem hy.2.2.2 p (r p hp)⟩) (apart_app (apart_obj h1) (apart_sub (apart_obj (p2 := p3) (c2 := c3) (s2 := s3) h2) fun p hp => ?_)))
  simp only [List.mem_cons, List.mem_append] at hp ⊢
  rcases hp with h | h | h | h <;> simp only [h, true_or, or_true]
end
theorem good_sig {z0 z1 z2 r : Int} (h0 : 0 ≤ r) (h3 : r < 3) (hz0 : 1 ≤ z0 ∧ z0 ≤ 4) (hz1 : 1 ≤ z1 ∧ z1 ≤ 4) (hz2 : 1 ≤ z2 ∧ z2 ≤ 4) :
    (Tr.sig ([z0, z1, z2].getD r.toNat 0) r).Good (fun r => if r = 0 then z0 else if r = 1 then z1 else z2) := by
  rcases (show r = 0 ∨ r = 1 ∨ r = 2 by omega) with rfl | rfl | rfl
  · exact ⟨by decide, by decide, rfl, hz0.1, hz0.2⟩
  · exact ⟨by decide, by decide, rfl, hz1.1, hz1.2⟩
  · exact ⟨by decide, by decide, rfl, hz2.1, hz2.2⟩
set_option maxRecDepth 100000 in
set_option maxHeartbeats 8000000 in
theorem tree_step (w : World) (mean : ExcName → Option Value) (mg mb : Str → Option Value) (d bud bud' : Int) (hd0 : 0 ≤ d) (hd2 : d ≤ 2) (hb : 2 ≤ bud) (hb' : d < 2 → 1 + 2 * bud' ≤ bud ∧ 3 + bud' ≤ bud ∧ 0 ≤ bud')
    (IH : d < 2 → TreeSpec w mean mg mb (d + 1) bud') : TreeSpec w mean mg mb d bud := by
  intro dp un gd cn cs L a ccd cl outer A₀ base h₀ m s Q E rest P C S vs ns nc ss i tk dt z0 z1 z2 y0 y1 y2 B F X N T hk hoff hPC hPS hI hlen hi hi2 hz0 hz1 hz2 hdp hun ret
  refine wpAny_call ?_
  have hroom : dp < recursionLimit := by simp only [recursionLimit]; omega
  rcases (show d < 2 ∨ d = 2 by omega) with hlt | heq
  · have IH' := IH hlt
    clear IH
    have hb1 := hb' hlt
    clear hb'
    w_top off
    k_with_none
    k_with "call ref" => ((k_here; (refine' coin_spec ?kB ?kF ?kX ?kN ?kT ?kk ?kU ?kC ?kI ?kl ?ki ?ki2 ?km ?km2 ?kPC ?kd ?ku ?_; (case kB => k_asm); (case kF => k_asm); (case kX => k_asm); (case kN => k_asm); (case kT => k_asm); (case kk => first | exact rfl | assumption); (case kU => k_updF); (case kC => k_mem); (case kI => k_asm); (case kl => k_asm); (case ki => omega); (case ki2 => omega); (case km => omega); (case km2 => omega); (case kPC => k_asm); (case kd => (simp only [recursionLimit]; omega)); (case ku => (simp only [cLine]; omega)); intro r' rt' h' tk' it' F' N' hr0' hr1'; (try dsimp only); (try k_sweep))))
    k_with "call ref" => ((k_here; (refine' tree_use ?kH ?kB ?kF ?kX ?kN ?kT ?kk ?kO ?kPC ?kPS ?kI ?kl ?ki ?ki2 ?z0 ?z1 ?z2 ?kd ?ku ?_; (case kH => assumption); (case kB => k_asm); (case kF => k_asm); (case kX => k_asm); (case kN => k_asm); (case kT => k_asm); (case kk => first | exact rfl | assumption); (case kO => k_asm); (case kI => k_asm); (case kl => k_asm); (case ki => omega); (case ki2 => omega); (case z0 => k_asm); (case z1 => k_asm); (case z2 => k_asm); (case kPC => k_asm); (case kPS => k_asm); (case kd => (simp only [depth_deeper]; omega)); (case ku => (simp only [units_deeper]; omega)); intro t' a' its' wt' tl' i' it' h' tk' F' N' hA' hot' hoff' hi0' hi1' hT' hm' hw' hG' hd'; (try dsimp only); (try k_sweep))))
    k_with "subscriptTail Name Constant ref int" => ((k_here; (refine' item_tupN ?kN ?km ?k0 ?k1 ?kx ?_; (case kN => k_asm); (case km => k_mem); (case k0 => decide); (case k1 => decide); (case kx => first | exact rfl | assumption); k_whole)))
    k_with "execs cons" => ((rename Fr _ _ _ _ => zF); k_dflt (refine st_to (s := s) zF (by with_reducible rfl) (fun tk => ?_)); (try k_made); (refine wpAny_execs_cons ?_); (try dsimp only))
    k_with "k_ne" => (refine neN ?_; (try dsimp only); first | with_reducible assumption | (refine Ne.symm ?_; with_reducible assumption) | (refine Nat.ne_of_lt ?_; with_reducible assumption) | (refine Nat.ne_of_gt ?_; with_reducible assumption) | k_extra "k_nf")
    k_with "k_nf" => ((rename _ ∧ _ => lX); first | exact Nat.ne_of_gt lX.1 | exact Nat.ne_of_lt lX.1 | exact Nat.ne_of_gt lX.2.1 | exact Nat.ne_of_lt lX.2.1 | exact Nat.ne_of_gt lX.2.2.1 | exact Nat.ne_of_lt lX.2.2.1 | exact Nat.ne_of_gt lX.2.2.2.1 | exact Nat.ne_of_lt lX.2.2.2.1 | exact Nat.ne_of_gt lX.2.2.2.2.1 | exact Nat.ne_of_lt lX.2.2.2.2.1 | exact Nat.ne_of_gt lX.2.2.2.2.2.1 | exact Nat.ne_of_lt lX.2.2.2.2.2.1 | exact Nat.ne_of_gt lX.2.2.2.2.2.2.1 | exact Nat.ne_of_lt lX.2.2.2.2.2.2.1 | exact Nat.ne_of_gt lX.2.2.2.2.2.2.2.1 | exact Nat.ne_of_lt lX.2.2.2.2.2.2.2.1 | exact Nat.ne_of_gt lX.2.2.2.2.2.2.2.2.1 | exact Nat.ne_of_lt lX.2.2.2.2.2.2.2.2.1 | exact Nat.ne_of_gt lX.2.2.2.2.2.2.2.2.2.1 | exact Nat.ne_of_lt lX.2.2.2.2.2.2.2.2.2.1 | exact Nat.ne_of_gt lX.2.2.2.2.2.2.2.2.2.2.1 | exact Nat.ne_of_lt lX.2.2.2.2.2.2.2.2.2.2.1 | exact Nat.ne_of_gt lX.2.2.2.2.2.2.2.2.2.2.2.1 | exact Nat.ne_of_lt lX.2.2.2.2.2.2.2.2.2.2.2.1 | exact Nat.ne_of_gt lX.2 | exact Nat.ne_of_lt lX.2 | exact Nat.ne_of_gt lX.2.2 | exact Nat.ne_of_lt lX.2.2 | exact Nat.ne_of_gt lX.2.2.2 | exact Nat.ne_of_lt lX.2.2.2 | exact Nat.ne_of_gt lX.2.2.2.2 | exact Nat.ne_of_lt lX.2.2.2.2 | exact Nat.ne_of_gt lX.2.2.2.2.2 | exact Nat.ne_of_lt lX.2.2.2.2.2 | exact Nat.ne_of_gt lX.2.2.2.2.2.2 | exact Nat.ne_of_lt lX.2.2.2.2.2.2 | exact Nat.ne_of_gt lX.2.2.2.2.2.2.2 | exact Nat.ne_of_lt lX.2.2.2.2.2.2.2 | exact Nat.ne_of_gt lX.2.2.2.2.2.2.2.2 | exact Nat.ne_of_lt lX.2.2.2.2.2.2.2.2 | exact Nat.ne_of_gt lX.2.2.2.2.2.2.2.2.2 | exact Nat.ne_of_lt lX.2.2.2.2.2.2.2.2.2 | exact Nat.ne_of_gt lX.2.2.2.2.2.2.2.2.2.2 | exact Nat.ne_of_lt lX.2.2.2.2.2.2.2.2.2.2 | exact Nat.ne_of_gt lX.2.2.2.2.2.2.2.2.2.2.2 | exact Nat.ne_of_lt lX.2.2.2.2.2.2.2.2.2.2.2 | exact Ne.symm lX.1 | exact lX.1 | exact Ne.symm lX.2.1 | exact lX.2.1 | exact Ne.symm lX.2.2.1 | exact lX.2.2.1 | exact Ne.symm lX.2.2.2.1 | exact lX.2.2.2.1 | exact Ne.symm lX.2.2.2.2.1 | exact lX.2.2.2.2.1 | exact Ne.symm lX.2.2.2.2.2.1 | exact lX.2.2.2.2.2.1 | exact Ne.symm lX.2.2.2.2.2.2.1 | exact lX.2.2.2.2.2.2.1 | exact Ne.symm lX.2.2.2.2.2.2.2.1 | exact lX.2.2.2.2.2.2.2.1 | exact Ne.symm lX.2.2.2.2.2.2.2.2.1 | exact lX.2.2.2.2.2.2.2.2.1 | exact Ne.symm lX.2.2.2.2.2.2.2.2.2.1 | exact lX.2.2.2.2.2.2.2.2.2.1 | exact Ne.symm lX.2.2.2.2.2.2.2.2.2.2.1 | exact lX.2.2.2.2.2.2.2.2.2.2.1 | exact Ne.symm lX.2.2.2.2.2.2.2.2.2.2.2.1 | exact lX.2.2.2.2.2.2.2.2.2.2.2.1 | (clear lX; k_extra "k_nf"))
    k_dflt ktr_enter
    k_steps
    · refine' ret (.sig _ _) _ _ _ _ _ _ ?F_1 (permA ?N_1) ?O_1 ?i_1 ?j_1 (.sig (.head _)) (good_sig (by assumption) (by assumption) hz0 hz1 hz2) ?D_1
      case D_1 => simp only [Tr.deep]; omega
      case F_1 => assumption
      case N_1 => assumption
      case O_1 => exact apartA (by assumption)
      all_goals omega
    · refine' ret (.ext _ _ _) _ _ _ _ _ _ ?F_2 (permB ?N_2) ?O_2 ?i_2 ?j_2 (.ext (.head _) (.mono ?T_2 fun _ h => .tail _ h)) ⟨?a_2, ?b_2, ?c_2⟩ ?D_2
      case F_2 => assumption
      case N_2 => assumption
      case O_2 => exact apartB (by assumption) (by assumption)
      case T_2 => assumption
      case c_2 => assumption
      case D_2 => simp only [Tr.deep]; omega
      all_goals omega
    · refine' ret (.slice _ _ _) _ _ _ _ _ _ ?F_3 (permB ?N_3) ?O_3 ?i_3 ?j_3 (.slice (.head _) (.mono ?T_3 fun _ h => .tail _ h)) ⟨?a_3, ?b_3, ?b'_3, ?b''_3, ?c_3⟩ ?D_3
      case F_3 => assumption
      case N_3 => assumption
      case O_3 => exact apartB (by assumption) (by assumption)
      case T_3 => assumption
      case c_3 => assumption
      case D_3 => simp only [Tr.deep]; omega
      all_goals omega
    · refine' ret (.cat _ _ _) _ _ _ _ _ _ ?F_4 (permC ?N_4) ?O_4 ?i_4 ?j_4 (.cat (.head _) (.tail _ (.head _)) (.mono ?T_4 fun _ h => .tail _ (.tail _ (List.mem_append_left _ h))) (.mono ?U_4 fun _ h => .tail _ (.tail _ (List.mem_append_right _ h)))) ⟨?a_4, ?b_4, ?c_4⟩ ?D_4
      case F_4 => assumption
      case N_4 => assumption
      case O_4 => exact apartC (by assumption) (by assumption) (by assumption) (by assumption)
      case T_4 => assumption
      case U_4 => assumption
      case a_4 => rfl
      case b_4 => assumption
      case c_4 => assumption
      case D_4 => simp only [Tr.deep]; omega
      all_goals omega
  · subst heq
    clear IH hb'
    w_top off
    k_with_none
    k_with "call ref" => ((k_here; (refine' coin_spec ?kB ?kF ?kX ?kN ?kT ?kk ?kU ?kC ?kI ?kl ?ki ?ki2 ?km ?km2 ?kPC ?kd ?ku ?_; (case kB => k_asm); (case kF => k_asm); (case kX => k_asm); (case kN => k_asm); (case kT => k_asm); (case kk => first | exact rfl | assumption); (case kU => k_updF); (case kC => k_mem); (case kI => k_asm); (case kl => k_asm); (case ki => omega); (case ki2 => omega); (case km => omega); (case km2 => omega); (case kPC => k_asm); (case kd => (simp only [recursionLimit]; omega)); (case ku => (simp only [cLine]; omega)); intro r' rt' h' tk' it' F' N' hr0' hr1'; (try dsimp only); (try k_sweep))))
    k_with "call ref" => ((k_here; (refine' tree_use ?kH ?kB ?kF ?kX ?kN ?kT ?kk ?kO ?kPC ?kPS ?kI ?kl ?ki ?ki2 ?z0 ?z1 ?z2 ?kd ?ku ?_; (case kH => assumption); (case kB => k_asm); (case kF => k_asm); (case kX => k_asm); (case kN => k_asm); (case kT => k_asm); (case kk => first | exact rfl | assumption); (case kO => k_asm); (case kI => k_asm); (case kl => k_asm); (case ki => omega); (case ki2 => omega); (case z0 => k_asm); (case z1 => k_asm); (case z2 => k_asm); (case kPC => k_asm); (case kPS => k_asm); (case kd => (simp only [depth_deeper]; omega)); (case ku => (simp only [units_deeper]; omega)); intro t' a' its' wt' tl' i' it' h' tk' F' N' hA' hot' hoff' hi0' hi1' hT' hm' hw' hG' hd'; (try dsimp only); (try k_sweep))))
    k_with "subscriptTail Name Constant ref int" => ((k_here; (refine' item_tupN ?kN ?km ?k0 ?k1 ?kx ?_; (case kN => k_asm); (case km => k_mem); (case k0 => decide); (case k1 => decide); (case kx => first | exact rfl | assumption); k_whole)))
    k_with "execs cons" => ((rename Fr _ _ _ _ => zF); k_dflt (refine st_to (s := s) zF (by with_reducible rfl) (fun tk => ?_)); (try k_made); (refine wpAny_execs_cons ?_); (try dsimp only))
    k_with "k_ne" => (refine neN ?_; (try dsimp only); first | with_reducible assumption | (refine Ne.symm ?_; with_reducible assumption) | (refine Nat.ne_of_lt ?_; with_reducible assumption) | (refine Nat.ne_of_gt ?_; with_reducible assumption) | k_extra "k_nf")
    k_with "k_nf" => ((rename _ ∧ _ => lX); first | exact Nat.ne_of_gt lX.1 | exact Nat.ne_of_lt lX.1 | exact Nat.ne_of_gt lX.2.1 | exact Nat.ne_of_lt lX.2.1 | exact Nat.ne_of_gt lX.2.2.1 | exact Nat.ne_of_lt lX.2.2.1 | exact Nat.ne_of_gt lX.2.2.2.1 | exact Nat.ne_of_lt lX.2.2.2.1 | exact Nat.ne_of_gt lX.2.2.2.2.1 | exact Nat.ne_of_lt lX.2.2.2.2.1 | exact Nat.ne_of_gt lX.2.2.2.2.2.1 | exact Nat.ne_of_lt lX.2.2.2.2.2.1 | exact Nat.ne_of_gt lX.2.2.2.2.2.2.1 | exact Nat.ne_of_lt lX.2.2.2.2.2.2.1 | exact Nat.ne_of_gt lX.2.2.2.2.2.2.2.1 | exact Nat.ne_of_lt lX.2.2.2.2.2.2.2.1 | exact Nat.ne_of_gt lX.2.2.2.2.2.2.2.2.1 | exact Nat.ne_of_lt lX.2.2.2.2.2.2.2.2.1 | exact Nat.ne_of_gt lX.2.2.2.2.2.2.2.2.2.1 | exact Nat.ne_of_lt lX.2.2.2.2.2.2.2.2.2.1 | exact Nat.ne_of_gt lX.2.2.2.2.2.2.2.2.2.2.1 | exact Nat.ne_of_lt lX.2.2.2.2.2.2.2.2.2.2.1 | exact Nat.ne_of_gt lX.2.2.2.2.2.2.2.2.2.2.2.1 | exact Nat.ne_of_lt lX.2.2.2.2.2.2.2.2.2.2.2.1 | exact Nat.ne_of_gt lX.2 | exact Nat.ne_of_lt lX.2 | exact Nat.ne_of_gt lX.2.2 | exact Nat.ne_of_lt lX.2.2 | exact Nat.ne_of_gt lX.2.2.2 | exact Nat.ne_of_lt lX.2.2.2 | exact Nat.ne_of_gt lX.2.2.2.2 | exact Nat.ne_of_lt lX.2.2.2.2 | exact Nat.ne_of_gt lX.2.2.2.2.2 | exact Nat.ne_of_lt lX.2.2.2.2.2 | exact Nat.ne_of_gt lX.2.2.2.2.2.2 | exact Nat.ne_of_lt lX.2.2.2.2.2.2 | exact Nat.ne_of_gt lX.2.2.2.2.2.2.2 | exact Nat.ne_of_lt lX.2.2.2.2.2.2.2 | exact Nat.ne_of_gt lX.2.2.2.2.2.2.2.2 | exact Nat.ne_of_lt lX.2.2.2.2.2.2.2.2 | exact Nat.ne_of_gt lX.2.2.2.2.2.2.2.2.2 | exact Nat.ne_of_lt lX.2.2.2.2.2.2.2.2.2 | exact Nat.ne_of_gt lX.2.2.2.2.2.2.2.2.2.2 | exact Nat.ne_of_lt lX.2.2.2.2.2.2.2.2.2.2 | exact Nat.ne_of_gt lX.2.2.2.2.2.2.2.2.2.2.2 | exact Nat.ne_of_lt lX.2.2.2.2.2.2.2.2.2.2.2 | exact Ne.symm lX.1 | exact lX.1 | exact Ne.symm lX.2.1 | exact lX.2.1 | exact Ne.symm lX.2.2.1 | exact lX.2.2.1 | exact Ne.symm lX.2.2.2.1 | exact lX.2.2.2.1 | exact Ne.symm lX.2.2.2.2.1 | exact lX.2.2.2.2.1 | exact Ne.symm lX.2.2.2.2.2.1 | exact lX.2.2.2.2.2.1 | exact Ne.symm lX.2.2.2.2.2.2.1 | exact lX.2.2.2.2.2.2.1 | exact Ne.symm lX.2.2.2.2.2.2.2.1 | exact lX.2.2.2.2.2.2.2.1 | exact Ne.symm lX.2.2.2.2.2.2.2.2.1 | exact lX.2.2.2.2.2.2.2.2.1 | exact Ne.symm lX.2.2.2.2.2.2.2.2.2.1 | exact lX.2.2.2.2.2.2.2.2.2.1 | exact Ne.symm lX.2.2.2.2.2.2.2.2.2.2.1 | exact lX.2.2.2.2.2.2.2.2.2.2.1 | exact Ne.symm lX.2.2.2.2.2.2.2.2.2.2.2.1 | exact lX.2.2.2.2.2.2.2.2.2.2.2.1 | (clear lX; k_extra "k_nf"))
    k_dflt ktr_enter
    k_steps
    · refine' ret (.sig _ _) _ _ _ _ _ _ ?F_5 (permA ?N_5) ?O_5 ?i_5 ?j_5 (.sig (.head _)) (good_sig (by assumption) (by assumption) hz0 hz1 hz2) ?D_5
      case D_5 => simp only [Tr.deep]; omega
      case F_5 => assumption
      case N_5 => assumption
      case O_5 => exact apartA (by assumption)
      all_goals omega

theorem tree2 (w : World) (mean : ExcName → Option Value) (mg mb : Str → Option Value) : TreeSpec w mean mg mb 2 2 := tree_step w mean mg mb 2 2 0 (by decide) (by decide) (by decide) (fun h => by omega) (fun h => by omega)
theorem tree1 (w : World) (mean : ExcName → Option Value) (mg mb : Str → Option Value) : TreeSpec w mean mg mb 1 5 := tree_step w mean mg mb 1 5 2 (by decide) (by decide) (by decide) (fun h => by omega) (fun _ => tree2 w mean mg mb)
theorem tree0 (w : World) (mean : ExcName → Option Value) (mg mb : Str → Option Value) : TreeSpec w mean mg mb 0 11 := tree_step w mean mg mb 0 11 5 (by decide) (by decide) (by decide) (fun h => by omega) (fun _ => tree1 w mean mg mb)
end Mine
end

section
open PySem PySem.W PyProof.Rows PySem.Spec PySem.Calls
namespace Mine
section
variable {prog : Program} {w : World} {A : Around} {E : Value → Shared → Prop} {s : Shared} {h₀ : Heap} {L : Addr} {news : List (Addr × Obj)}
theorem len_listN {l : Addr} {vs : List Value} {n : Nat} {Q : Value → Shared → Prop} (N : News h₀ L s.heap news) (hm : (l, listOf vs.toArray n) ∈ news) (hz : vs.length ≤ 16384) (h : Q (.int (vs.length : Int) (s.toks + 1)) { s with toks := s.toks + 1 + 1 }) :
    wpAny (model prog w) A (call (.builtin "len") [.ref l]) Q E s :=
  kun_lenL (News.isList N hm) (by rw [List.size_toArray]) (by omega) h
theorem len_arrN {l : Addr} {its : Array Value} {n : Nat} {Q : Value → Shared → Prop} (N : News h₀ L s.heap news) (hm : (l, listOf its n) ∈ news) (hz : its.size ≤ 16384) (h : Q (.int (its.size : Int) (s.toks + 1)) { s with toks := s.toks + 1 + 1 }) :
    wpAny (model prog w) A (call (.builtin "len") [.ref l]) Q E s :=
  kun_lenL (News.isList N hm) rfl (by omega) h
theorem item_listN {value slice : Expr} {l : Addr} {vs : List Value} {n : Nat} {k : Int} {u : Tok} {x : Value} {Q : Value → Shared → Prop} (N : News h₀ L s.heap news) (hm : (l, listOf vs.toArray n) ∈ news)
    (h0 : 0 ≤ k) (hk : k < 16384) (hx : vs[k.toNat]? = some x) (h : Q x s)
    (hs : subscripted slice false (.ref l) (.int k u) = operate [.ref l, .int k u] (getItem (.ref l) (.int k u)) := by with_unfolding_all rfl) :
    wpAny (model prog w) A (subscriptTail value slice (.ref l) (.int k u)) Q E s :=
  tail_any (News.isList N hm).typeIs slot_list_getitem.lookup (wpAny_getItem_list (News.isList N hm) h0 (by omega) (by simpa using hx) h) hs
theorem any_mem {k : Int} {ns : List Int} : ns.any (· == k) = decide (k ∈ ns) := by
  rw [Bool.eq_iff_iff]; simp
theorem in_intsN {l : Addr} {vs : List Value} {ns : List Int} {n : Nat} {k : Int} {t : Tok} {Q : Value → Shared → Prop} (N : News h₀ L s.heap news) (hm : (l, listOf vs.toArray n) ∈ news) (hi : IntsAre vs ns)
    (h : Q (.bool (decide (k ∈ ns))) s) : wpAny (model prog w) A (compareOp .In (.int k t) (.ref l)) Q E s :=
  in_list_ints (News.isList N hm) hi (by rw [any_mem]; exact h)
theorem notin_intsN {l : Addr} {vs : List Value} {ns : List Int} {n : Nat} {k : Int} {t : Tok} {Q : Value → Shared → Prop} (N : News h₀ L s.heap news) (hm : (l, listOf vs.toArray n) ∈ news) (hi : IntsAre vs ns)
    (h : Q (.bool (!decide (k ∈ ns))) s) : wpAny (model prog w) A (compareOp .NotIn (.int k t) (.ref l)) Q E s :=
  notin_list_ints (News.isList N hm) hi (by rw [any_mem]; exact h)
end
end Mine
end

section
open PySem PySem.W PyProof.Rows PySem.Spec PySem.Calls
namespace Mine
/-- the cut at a test's value -/
def BoolIs (b : Bool) (s : Shared) (v : Value) (s' : Shared) : Prop := ∃ tk, v = .bool b ∧ s' = { s with toks := tk }
theorem bool_cut {M : Model} {A : Around} {E : Value → Shared → Prop} {s : Shared} {env : Env} {e : Expr} {Q : Value → Shared → Prop} (b : Bool) (h : wpAny M A (eval e env) (BoolIs b s) E s) (k : ∀ tk, Q (.bool b) { s with toks := tk }) :
    wpAny M A (eval e env) Q E s := wpAny_mono h (fun v s' ⟨tk, e1, e2⟩ => by subst e1 e2; exact k tk) fun _ _ x => x
theorem BoolIs.mk {b b' : Bool} {s : Shared} {tk : Nat} (h : b' = b) : BoolIs b s (.bool b') { s with toks := tk } := ⟨tk, by rw [h], rfl⟩

def Covers (lo : Int) (i : Nat) (bs ps : List (Int × Int)) : Prop := ∀ j : Nat, j < i → ∀ p, 0 ≤ lo + (j : Int) → bs[(lo + (j : Int)).toNat]? = some p → p ∈ ps
theorem Covers.zero {lo : Int} {bs : List (Int × Int)} : Covers lo 0 bs [] := fun _ h => absurd h (Nat.not_lt_zero _)
theorem Covers.hit {lo : Int} {i : Nat} {bs ps : List (Int × Int)} {p : Int × Int} (h : Covers lo i bs ps) (hp : bs[(lo + (i : Int)).toNat]? = some p) : Covers lo (i + 1) bs (ps ++ [p]) := by
  intro j hj q h0 hq
  rcases Nat.lt_succ_iff_lt_or_eq.mp hj with hj | rfl
  · exact List.mem_append_left _ (h j hj q h0 hq)
  · rw [hp] at hq; cases hq; exact List.mem_append_right _ (.head _)
theorem Covers.miss {lo : Int} {i : Nat} {bs ps : List (Int × Int)} {p : Int × Int} (h : Covers lo i bs ps) (hp : ¬ (0 ≤ lo + (i : Int) ∧ lo + (i : Int) < bs.length)) : Covers lo (i + 1) bs (ps ++ [p]) := by
  intro j hj q h0 hq
  rcases Nat.lt_succ_iff_lt_or_eq.mp hj with hj | rfl
  · exact List.mem_append_left _ (h j hj q h0 hq)
  · have := (List.getElem?_eq_some_iff.mp hq).1
    exact absurd ⟨h0, by omega⟩ hp

section
variable {prog : Program} {w : World} {A : Around} {s : Shared} {env : Env} {h₀ : Heap} {E : Value → Shared → Prop} {Q : Flow → Shared → Prop} {target : Expr} {body : List Stmt} {m₀ : Str → Option Value}
/-- the word of the trace's loop -/
def TraceInv (l b : Addr) (bvs : List Value) (bk : Nat) (bs : List (Int × Int)) (base src : List (Addr × Obj)) (lo : Int) (i : Nat) (nx : List (Addr × Obj)) : Prop :=
  ∃ vs k ps tl2, nx = (l, listOf vs.toArray k) :: (b, listOf bvs.toArray bk) :: (tl2 ++ base) ∧ ps.length = i ∧ vs.length = i ∧ Each (PairIn (tl2 ++ src)) vs ps ∧ Covers lo i bs ps ∧ Apart ((l, listOf #[] 0) :: (b, listOf #[] 0) :: base) tl2

theorem trace_loop {r l b : Addr} {bvs : List Value} {bk : Nat} {bs : List (Int × Int)} {base : List (Addr × Obj)} (src : List (Addr × Obj)) {lo hi : Int} {t u v : Tok} {n : Nat} (stored : List Str)
    (hh : A.handled = none) (hr : IsRange s.heap r lo hi 1 t u v) (hsm : Builtin.Range.small lo hi 1 = true) (hn : Builtin.Range.rangeSize lo hi 1 = ((n : Nat) : Int)) (F : Fr h₀ env.locals s.heap m₀) (N : News h₀ env.locals s.heap ((b, listOf bvs.toArray bk) :: (l, listOf #[] 0) :: base))
    (hlb : @Ne Nat b l) (hol : OwnOff base [l])
    (turn : ∀ i tt (u : Str → Option Value) vs k ps tl2 h tk I oI, i < n → vs.length = i → ps.length = i → Each (PairIn (tl2 ++ src)) vs ps → Covers lo i bs ps → Apart ((l, listOf #[] 0) :: (b, listOf #[] 0) :: base) tl2 → OwnOff (tl2 ++ base) [l] → @Ne Nat b l → @Ne Nat I l → @Ne Nat I b → OwnOff (tl2 ++ base) [I] →
      Fr h₀ env.locals h (fun y => if stored.contains y then u y else m₀ y) → News h₀ env.locals h ((I, oI) :: (l, listOf vs.toArray k) :: (b, listOf bvs.toArray bk) :: (tl2 ++ base)) →
      wpAny (model prog w) A (assign target env (.int (lo + (i : Int)) tt)) (fun _ s₃ => wpAny (model prog w) A (execs body env) (TurnAt h₀ env.locals I oI (JN stored m₀ (TraceInv l b bvs bk bs base src lo (i + 1))) { s with heap := h, toks := tk } Q) E s₃) E { s with heap := h, toks := tk })
    (done : ∀ (u : Str → Option Value) vs k ps tl2 h tk, vs.length = n → ps.length = n → Each (PairIn (tl2 ++ src)) vs ps → Covers lo n bs ps → Apart ((l, listOf #[] 0) :: (b, listOf #[] 0) :: base) tl2 →
      Fr h₀ env.locals h (fun y => if stored.contains y then u y else m₀ y) → News h₀ env.locals h ((l, listOf vs.toArray k) :: (b, listOf bvs.toArray bk) :: (tl2 ++ base)) → Q .next { s with heap := h, toks := tk }) :
    wpAny (model prog w) A (pyIter (.ref r)) (fun it s₂ => LoopI prog w A h₀ env target body Q E it s₂) E s := by
  have N0 : News h₀ env.locals s.heap ((l, listOf #[] 0) :: (b, listOf bvs.toArray bk) :: base) := news_sub N fun p hp => by
    simp only [List.mem_cons] at hp ⊢
    rcases hp with h | h | h <;> simp only [h, true_or, or_true]
  refine loop_range stored (TraceInv l b bvs bk bs base src lo) hh hr hsm hn F N0 ⟨[], 0, [], [], rfl, rfl, rfl, trivial, .zero, fun _ _ _ h => nomatch h⟩ ?_ ?_
  · rintro i tt u nx h tk I oI hi ⟨vs, k, ps, tl2, rfl, hp, hv, hE, hC, hA⟩ ho F₁ N₁
    refine turn i tt u vs k ps tl2 h tk I oI hi hv hp hE hC hA (ownOff_app (fun p hp b hb e => hA _ (.head _) p hp ((List.mem_singleton.mp hb ▸ e).symm)) hol) hlb (fun e => ho _ (.head _) I (.head _) e.symm) (fun e => ho _ (.tail _ (.head _)) I (.head _) e.symm)
      (fun p hp => ho p (.tail _ (.tail _ hp))) F₁ N₁
  · rintro u h tk nx ⟨vs, k, ps, tl2, rfl, hp, hv, hE, hC, hA⟩ F₁ N₁
    exact done u vs k ps tl2 h tk hv hp hE hC hA F₁ N₁

/-- a turn's end: an item that stood -/
theorem trace_old {l b I : Addr} {bvs vs : List Value} {bk k i : Nat} {bs ps : List (Int × Int)} {base src tl2 : List (Addr × Obj)} {lo : Int} {stored : List Str} {m' : Str → Option Value} {oI : Obj} {h' : Heap} {tk : Nat} {v : Value} {p : Int × Int} {s₁ : Shared}
    (F : Fr h₀ env.locals h' m') (N : News h₀ env.locals h' ((I, oI) :: (l, listOf (vs ++ [v]).toArray (k + 1)) :: (b, listOf bvs.toArray bk) :: (tl2 ++ base))) (hv : vs.length = i) (hp : ps.length = i) (hE : Each (PairIn (tl2 ++ src)) vs ps)
    (hA : Apart ((l, listOf #[] 0) :: (b, listOf #[] 0) :: base) tl2) (hlI : @Ne Nat I l) (hbI : @Ne Nat I b) (hoI : OwnOff (tl2 ++ base) [I]) (hP : PairIn (tl2 ++ src) v p) (hC : Covers lo (i + 1) bs (ps ++ [p])) (hm : ∀ z, stored.contains z = false → m' z = m₀ z) :
    TurnAt h₀ env.locals I oI (JN stored m₀ (TraceInv l b bvs bk bs base src lo (i + 1))) s₁ Q .next { s₁ with heap := h', toks := tk } := by
  refine TurnAt.mk ((l, listOf (vs ++ [v]).toArray (k + 1)) :: (b, listOf bvs.toArray bk) :: (tl2 ++ base)) F N (.head _) (fun p hp => .tail _ hp) ?_
    ⟨⟨vs ++ [v], k + 1, ps ++ [p], tl2, rfl, by simp [hp], by simp [hv], hE.snoc hP, hC, hA⟩, hm⟩
  exact ownOff_cons (fun b hb e => hlI (by rw [List.mem_singleton.mp hb] at e; exact e.symm)) (ownOff_cons (fun b hb e => hbI (by rw [List.mem_singleton.mp hb] at e; exact e.symm)) hoI)
/-- a turn's end: a new pair -/
theorem trace_new {l b I D : Addr} {bvs vs : List Value} {bk k i : Nat} {bs ps : List (Int × Int)} {base src tl2 : List (Addr × Obj)} {lo : Int} {stored : List Str} {m' : Str → Option Value} {oI : Obj} {h' : Heap} {tk : Nat} {t1 t2 : Tok} {x y : Int} {s₁ : Shared}
    (F : Fr h₀ env.locals h' m') (N : News h₀ env.locals h' ((D, tupO #[.int x t1, .int y t2]) :: (I, oI) :: (l, listOf (vs ++ [Value.ref D]).toArray (k + 1)) :: (b, listOf bvs.toArray bk) :: (tl2 ++ base))) (hv : vs.length = i) (hp : ps.length = i) (hE : Each (PairIn (tl2 ++ src)) vs ps)
    (hlt : AllLt D ((I, oI) :: (l, listOf vs.toArray k) :: (b, listOf bvs.toArray bk) :: (tl2 ++ base)))
    (hA : Apart ((l, listOf #[] 0) :: (b, listOf #[] 0) :: base) tl2) (hlI : @Ne Nat I l) (hbI : @Ne Nat I b) (hoI : OwnOff (tl2 ++ base) [I]) (hC : Covers lo (i + 1) bs (ps ++ [(x, y)])) (hm : ∀ z, stored.contains z = false → m' z = m₀ z) :
    TurnAt h₀ env.locals I oI (JN stored m₀ (TraceInv l b bvs bk bs base src lo (i + 1))) s₁ Q .next { s₁ with heap := h', toks := tk } := by
  have lt := allLt_mem hlt
  refine TurnAt.mk ((l, listOf (vs ++ [Value.ref D]).toArray (k + 1)) :: (b, listOf bvs.toArray bk) :: (((D, tupO #[.int x t1, .int y t2]) :: tl2) ++ base)) F N (.tail _ (.head _)) (fun p hp => ?_) ?_
    ⟨⟨vs ++ [Value.ref D], k + 1, ps ++ [(x, y)], (D, tupO #[.int x t1, .int y t2]) :: tl2, rfl, by simp [hp], by simp [hv], (hE.mono (PairIn.mono fun _ h => .tail _ h)).snoc ⟨D, t1, t2, rfl, .head _⟩, hC, ?_⟩, hm⟩
  · simp only [List.mem_cons, List.mem_append] at hp ⊢
    rcases hp with h | h | (h | h) | h <;> simp only [h, true_or, or_true]
  · refine ownOff_cons (fun b hb e => hlI (by rw [List.mem_singleton.mp hb] at e; exact e.symm)) (ownOff_cons (fun b hb e => hbI (by rw [List.mem_singleton.mp hb] at e; exact e.symm)) (ownOff_cons (fun b hb e => ?_) hoI))
    rw [List.mem_singleton.mp hb] at e
    exact absurd (lt _ (.head _)) (by rw [show D = I from e]; exact Nat.lt_irrefl _)
  · intro q hq p hp
    rcases List.mem_cons.mp hp with rfl | hp
    · rcases List.mem_cons.mp hq with rfl | hq
      · exact Nat.ne_of_lt (lt (l, listOf vs.toArray k) (.tail _ (.head _)))
      · rcases List.mem_cons.mp hq with rfl | hq
        · exact Nat.ne_of_lt (lt (b, listOf bvs.toArray bk) (.tail _ (.tail _ (.head _))))
        · exact Nat.ne_of_lt (lt q (.tail _ (.tail _ (.tail _ (List.mem_append_right _ hq)))))
    · exact hA q hq p hp
end
section
variable {prog : Program} {w : World} {A : Around} {E : Value → Shared → Prop} {s : Shared} {h₀ : Heap} {L : Addr} {news base : List (Addr × Obj)}
theorem item_pairs {value slice : Expr} {l : Addr} {vs : List Value} {n : Nat} {k : Int} {u : Tok} {ps : List (Int × Int)} {Q : Value → Shared → Prop} (N : News h₀ L s.heap news) (hm : (l, listOf vs.toArray n) ∈ news) (hE : Each (PairIn base) vs ps) (hz : vs.length ≤ 16000)
    (h0 : 0 ≤ k) (hk : k < vs.length) (h : ∀ a p, ps[k.toNat]? = some p → PairIn base (.ref a) p → Q (.ref a) s)
    (hs : subscripted slice false (.ref l) (.int k u) = operate [.ref l, .int k u] (getItem (.ref l) (.int k u)) := by with_unfolding_all rfl) :
    wpAny (model prog w) A (subscriptTail value slice (.ref l) (.int k u)) Q E s := by
  obtain ⟨v, hv⟩ : ∃ v, vs[k.toNat]? = some v := ⟨vs[k.toNat]'(by omega), List.getElem?_eq_getElem _⟩
  obtain ⟨p, hp, hP⟩ := hE.get hv
  obtain ⟨a, t, u', rfl, hm'⟩ := id hP
  exact item_listN N hm h0 (by omega) hv (h a p hp hP) hs
theorem item_pairs_last {value slice : Expr} {l : Addr} {vs : List Value} {n : Nat} {u : Tok} {ps : List (Int × Int)} {Q : Value → Shared → Prop} (N : News h₀ L s.heap news) (hm : (l, listOf vs.toArray n) ∈ news) (hE : Each (PairIn base) vs ps) (hz : vs.length ≤ 16000)
    (hk : 0 < vs.length) (h : ∀ a p, PairIn base (.ref a) p → Q (.ref a) s)
    (hs : subscripted slice false (.ref l) (.int (-1) u) = operate [.ref l, .int (-1) u] (getItem (.ref l) (.int (-1) u)) := by with_unfolding_all rfl) :
    wpAny (model prog w) A (subscriptTail value slice (.ref l) (.int (-1) u)) Q E s := by
  obtain ⟨v, hv⟩ : ∃ v, vs[vs.length - 1]? = some v := ⟨vs[vs.length - 1]'(by omega), List.getElem?_eq_getElem _⟩
  obtain ⟨p, hp, hP⟩ := hE.get hv
  obtain ⟨a, t, u', rfl, hm'⟩ := id hP
  refine tail_any (News.isList N hm).typeIs slot_list_getitem.lookup (wpAny_getItem_list_neg (News.isList N hm) (by decide) (by rw [List.size_toArray]; omega) (by decide) ?_ (h a p hP)) hs
  rw [List.size_toArray, show ((-1 : Int) + (vs.length : Int)).toNat = vs.length - 1 by omega]
  simpa using hv
end
theorem off_base {l cell SN : Addr} {o oc : Obj} {B : Addr × Obj} {Y tl rest : List (Addr × Obj)} (h : @LT.lt Nat _ cell l ∧ @LT.lt Nat _ SN l ∧ AllLt l rest) (hA : Apart ((l, o) :: Y) (B :: tl)) (os' : Obj) : OwnOff ((cell, oc) :: (SN, os') :: (tl ++ rest)) [l] := by
  intro p hp b hb e
  rw [List.mem_singleton.mp hb] at e
  rcases List.mem_cons.mp hp with rfl | hp
  · exact Nat.ne_of_lt h.1 e
  · rcases List.mem_cons.mp hp with rfl | hp
    · exact Nat.ne_of_lt h.2.1 e
    · rcases List.mem_append.mp hp with hp | hp
      · exact hA (l, o) (.head _) p (.tail _ hp) e.symm
      · exact Nat.ne_of_lt (allLt_mem h.2.2 p hp) e
theorem cover_pass {lo x : Int} {u : Tr} {c : Bool} {k : Nat} {bs ps : List (Int × Int)} (hc : Cover (u.occs c) k bs) (hC : Covers lo x.toNat bs ps) (hl : (bs.length : Int) = u.width) (h : c = true → lo ≤ 0 ∧ u.width ≤ lo + x) : Cover (u.occs c) k ps := by
  intro j r n hj b h0 h1
  have hct : c = true := by
    cases c with
    | true => rfl
    | false => exact absurd (u.occs_false _ (List.mem_of_getElem? hj)) (by simp)
  obtain ⟨h2, h3⟩ := h hct
  obtain ⟨i, hi, hp⟩ := List.getElem_of_mem (hc j r n hj b h0 h1)
  refine hC ((i : Int) - lo).toNat (by omega) _ (by omega) ?_
  rw [show (lo + ((((i : Int) - lo).toNat : Nat) : Int)).toNat = i by omega, List.getElem?_eq_getElem hi, hp]
theorem same_one {x : Str} {v : Option Value} {u m₀ : Str → Option Value} : ∀ z, [x].contains z = false → (fun y => if y = x then v else if [x].contains y then u y else m₀ y) z = m₀ z := by
  intro z hz
  have hne : z ≠ x := by rintro rfl; simp at hz
  show (if z = x then v else if [x].contains z then u z else m₀ z) = m₀ z
  rw [if_neg hne, hz]; rfl
theorem same_none {x : Str} {u m₀ : Str → Option Value} : ∀ z, [x].contains z = false → (fun y => if [x].contains y then u y else m₀ y) z = m₀ z := by
  intro z hz
  show (if [x].contains z then u z else m₀ z) = m₀ z
  rw [hz]; rfl
section
variable {SN l b cell : Addr} {oS oS' oc oc' o1 o2 o3 o4 ol : Obj} {tl tl2 rest : List (Addr × Obj)}
theorem fin_apart (hl : @LT.lt Nat _ cell l ∧ @LT.lt Nat _ SN l ∧ AllLt l rest) (hA : Apart ((l, o1) :: (cell, oc) :: (SN, oS) :: rest) ((b, o2) :: tl)) (hAp : Apart ((l, o3) :: (b, o4) :: (cell, oc') :: (SN, oS') :: (tl ++ rest)) tl2) : Apart ((SN, oS) :: rest) ((l, ol) :: (tl2 ++ tl)) := by
  intro q hq p hp
  rcases List.mem_cons.mp hp with rfl | hp
  · rcases List.mem_cons.mp hq with rfl | hq
    · exact Nat.ne_of_lt hl.2.1
    · exact Nat.ne_of_lt (allLt_mem hl.2.2 q hq)
  · rcases List.mem_append.mp hp with hp | hp
    · rcases List.mem_cons.mp hq with rfl | hq
      · exact hAp (SN, oS') (.tail _ (.tail _ (.tail _ (.head _)))) p hp
      · exact hAp q (.tail _ (.tail _ (.tail _ (.tail _ (List.mem_append_right _ hq))))) p hp
    · rcases List.mem_cons.mp hq with rfl | hq
      · exact hA (SN, oS) (.tail _ (.tail _ (.head _))) p (.tail _ hp)
      · exact hA q (.tail _ (.tail _ (.tail _ hq))) p (.tail _ hp)
theorem fin_off (hA : Apart ((l, o1) :: (cell, oc) :: (SN, oS) :: rest) ((b, o2) :: tl)) (hAp : Apart ((l, o3) :: (b, o4) :: (cell, oc') :: (SN, oS') :: (tl ++ rest)) tl2) : OwnOff (tl2 ++ tl) [l] := by
  intro p hp c hc e
  rw [List.mem_singleton.mp hc] at e
  rcases List.mem_append.mp hp with hp | hp
  · exact hAp _ (.head _) p hp e.symm
  · exact hA _ (.head _) p (.tail _ hp) e.symm
theorem fin_sub {p : Addr × Obj} (hp : p ∈ (l, ol) :: (SN, oS') :: ((tl2 ++ tl) ++ rest)) : p ∈ (l, ol) :: (b, o2) :: (tl2 ++ (cell, oc) :: (SN, oS') :: (tl ++ rest)) := by
  simp only [List.mem_cons, List.mem_append] at hp ⊢
  rcases hp with h | h | (h | h) | h <;> simp only [h, true_or, or_true]
end
end Mine
end

section
open PySem PySem.W PyProof.Rows PySem.Spec
set_option Elab.async false
namespace Mine
theorem fill3 : PySem.Challenge.rw_sj0034_01 = PySem.Challenge.rw_sj0034_01 ∧ Mine.hd.heap_39 = Mine.hd.heap_39 := by
  k_fill
  exact ⟨rfl, rfl⟩

def TraceSpec (w : World) (mean : ExcName → Option Value) (mg mb : Str → Option Value) (t : Tr) : Prop :=
  ∀ (dp un : Nat) (gd : Option (List Code)) (cn : Str) (cs : Scope) (L a : Addr) (ccd : Value) (cl : List (Str × Addr)) (outer : List Env)
   (A₀ : Around) (base h₀ : Heap) (m : Str → Option Value) (s : Shared) (Q E : Value → Shared → Prop)
   (rest : List (Addr × Obj)) (SN : Addr) (v : Value) (svs : List Value) (sk : Nat) (c : Bool)
   (_B : Below A₀ base outer h₀) (_F : Fr h₀ L s.heap m) (_X : (Mine.hd.heap_39 w.params).In h₀) (_N : News h₀ L s.heap ((SN, listOf svs.toArray sk) :: rest))
   (_T : Top Mine.hd.view_39 (looseW Mine.hd.view_39 []) mean mg mb h₀) (_hk : cs.kind = .function)
   (_hoff : OwnOff rest [SN]) (_hT : TrIn rest v t) (_hf : t.Fit) (_hlen : svs.length + t.leaves ≤ 60)
   (_hdp : (dp : Int) ≤ 600 - 10 * t.deep) (_hun : (un : Int) ≤ 2000 - 100 * t.deep)
   (_ret : ∀ b bvs bk svs' sk' tl bs h' tk', Fr h₀ L h' m → News h₀ L h' ((b, listOf bvs.toArray bk) :: (SN, listOf (svs ++ svs').toArray sk') :: (tl ++ rest)) →
      Apart ((SN, listOf svs.toArray sk) :: rest) ((b, listOf bvs.toArray bk) :: tl) → OwnOff tl [b] →
      Each (PairIn tl) bvs bs → Each (OccIn tl) svs' (t.occs c) → (bs.length : Int) = t.width → Cover (t.occs c) svs.length bs → Q (.ref b) { s with heap := h', toks := tk' }),
   wpAny (model PySem.Challenge.rw_sj0034_01.row.prog w) (ktrTop dp un gd cn cs L a ccd cl outer) (call (.ref (ktn_at% "_law_trace")) [v, .bool c, .ref SN]) Q E s


set_option maxRecDepth 100000 in
set_option maxHeartbeats 8000000 in
theorem trace_sig (w : World) (mean : ExcName → Option Value) (mg mb : Str → Option Value) (n r : Int) : TraceSpec w mean mg mb (.sig n r) := by
  intro dp un gd cn cs L a ccd cl outer A₀ base h₀ m s Q E rest SN v svs sk c B F X N T hk hoff hT hf hlen hdp hun ret
  cases hT with
  | @sig e t0 t1 t2 _ _ he =>
  refine wpAny_call ?_
  have hroom : dp < recursionLimit := by simp only [recursionLimit]; omega
  have hn1 : 1 ≤ n := hf.1
  have hn2 : n ≤ 4 := hf.2
  have hln : svs.length + 1 ≤ 60 := hlen
  w_top off
  k_with_none
  k_with "subscriptTail Name Constant ref int" => ((k_here; (refine' item_tupN ?kN ?km ?k0 ?k1 ?kx ?_; (case kN => k_asm); (case km => k_mem); (case k0 => decide); (case k1 => decide); (case kx => first | exact rfl | assumption); k_whole)))
  k_with "eval ListComp" => ((k_here; lcf_look; k_dflt (refine LCg.ListComp_U (F₀ := by k_asm) (by with_unfolding_all rfl) (by decide) (by rfl) (by decide) (by rfl) ?_); k_dflt lcg_toSrc))
  k_with "call builtin:len" => ((k_here; (with_reducible show wpAny _ _ (call (Value.builtin "len") [Value.ref _]) _ _ _); (refine' len_arrN ?kN ?km ?kz ?_; (case kN => k_asm); (case km => k_mem); (case kz => ((try simp only [List.size_toArray, Array.size_push, List.length_append, List.length_cons, List.length_nil]); omega)); k_whole); (try simp only [List.size_toArray, Array.size_push, List.length_append, List.length_cons, List.length_nil])))
  k_with "execs cons" => ((rename Fr _ _ _ _ => zF); k_dflt (refine st_to (s := s) zF (by with_reducible rfl) (fun tk => ?_)); (try k_made); (refine wpAny_execs_cons ?_); (try dsimp only))
  k_with "k_ne" => (refine neN ?_; (try dsimp only); first | with_reducible assumption | (refine Ne.symm ?_; with_reducible assumption) | (refine Nat.ne_of_lt ?_; with_reducible assumption) | (refine Nat.ne_of_gt ?_; with_reducible assumption) | k_extra "k_nf")
  k_with "k_nf" => ((rename _ ∧ _ => lX); first | exact Nat.ne_of_gt lX.1 | exact Nat.ne_of_lt lX.1 | exact Nat.ne_of_gt lX.2.1 | exact Nat.ne_of_lt lX.2.1 | exact Nat.ne_of_gt lX.2.2.1 | exact Nat.ne_of_lt lX.2.2.1 | exact Nat.ne_of_gt lX.2.2.2.1 | exact Nat.ne_of_lt lX.2.2.2.1 | exact Nat.ne_of_gt lX.2.2.2.2.1 | exact Nat.ne_of_lt lX.2.2.2.2.1 | exact Nat.ne_of_gt lX.2.2.2.2.2.1 | exact Nat.ne_of_lt lX.2.2.2.2.2.1 | exact Nat.ne_of_gt lX.2.2.2.2.2.2.1 | exact Nat.ne_of_lt lX.2.2.2.2.2.2.1 | exact Nat.ne_of_gt lX.2.2.2.2.2.2.2.1 | exact Nat.ne_of_lt lX.2.2.2.2.2.2.2.1 | exact Nat.ne_of_gt lX.2.2.2.2.2.2.2.2.1 | exact Nat.ne_of_lt lX.2.2.2.2.2.2.2.2.1 | exact Nat.ne_of_gt lX.2.2.2.2.2.2.2.2.2.1 | exact Nat.ne_of_lt lX.2.2.2.2.2.2.2.2.2.1 | exact Nat.ne_of_gt lX.2.2.2.2.2.2.2.2.2.2.1 | exact Nat.ne_of_lt lX.2.2.2.2.2.2.2.2.2.2.1 | exact Nat.ne_of_gt lX.2.2.2.2.2.2.2.2.2.2.2.1 | exact Nat.ne_of_lt lX.2.2.2.2.2.2.2.2.2.2.2.1 | exact Nat.ne_of_gt lX.2 | exact Nat.ne_of_lt lX.2 | exact Nat.ne_of_gt lX.2.2 | exact Nat.ne_of_lt lX.2.2 | exact Nat.ne_of_gt lX.2.2.2 | exact Nat.ne_of_lt lX.2.2.2 | exact Nat.ne_of_gt lX.2.2.2.2 | exact Nat.ne_of_lt lX.2.2.2.2 | exact Nat.ne_of_gt lX.2.2.2.2.2 | exact Nat.ne_of_lt lX.2.2.2.2.2 | exact Nat.ne_of_gt lX.2.2.2.2.2.2 | exact Nat.ne_of_lt lX.2.2.2.2.2.2 | exact Nat.ne_of_gt lX.2.2.2.2.2.2.2 | exact Nat.ne_of_lt lX.2.2.2.2.2.2.2 | exact Nat.ne_of_gt lX.2.2.2.2.2.2.2.2 | exact Nat.ne_of_lt lX.2.2.2.2.2.2.2.2 | exact Nat.ne_of_gt lX.2.2.2.2.2.2.2.2.2 | exact Nat.ne_of_lt lX.2.2.2.2.2.2.2.2.2 | exact Nat.ne_of_gt lX.2.2.2.2.2.2.2.2.2.2 | exact Nat.ne_of_lt lX.2.2.2.2.2.2.2.2.2.2 | exact Nat.ne_of_gt lX.2.2.2.2.2.2.2.2.2.2.2 | exact Nat.ne_of_lt lX.2.2.2.2.2.2.2.2.2.2.2 | exact Ne.symm lX.1 | exact lX.1 | exact Ne.symm lX.2.1 | exact lX.2.1 | exact Ne.symm lX.2.2.1 | exact lX.2.2.1 | exact Ne.symm lX.2.2.2.1 | exact lX.2.2.2.1 | exact Ne.symm lX.2.2.2.2.1 | exact lX.2.2.2.2.1 | exact Ne.symm lX.2.2.2.2.2.1 | exact lX.2.2.2.2.2.1 | exact Ne.symm lX.2.2.2.2.2.2.1 | exact lX.2.2.2.2.2.2.1 | exact Ne.symm lX.2.2.2.2.2.2.2.1 | exact lX.2.2.2.2.2.2.2.1 | exact Ne.symm lX.2.2.2.2.2.2.2.2.1 | exact lX.2.2.2.2.2.2.2.2.1 | exact Ne.symm lX.2.2.2.2.2.2.2.2.2.1 | exact lX.2.2.2.2.2.2.2.2.2.1 | exact Ne.symm lX.2.2.2.2.2.2.2.2.2.2.1 | exact lX.2.2.2.2.2.2.2.2.2.2.1 | exact Ne.symm lX.2.2.2.2.2.2.2.2.2.2.2.1 | exact lX.2.2.2.2.2.2.2.2.2.2.2.1 | (clear lX; k_extra "k_nf"))
  k_with "CompSrc" => (k_dflt (refine comp_rangeT n.toNat (fun i ys tl => Each (PairIn tl) ys ((List.range i).map fun (j : Nat) => (((svs.length + 1 : Nat) : Int) - 1, 0 + (j : Int)))) (by rfl) (by k_asm) (by k_asm) (by k_asm) (rangeSmall_of (by omega) (by omega) (by omega) (by omega)) (rangeSize_of (by omega)) (by rw [sizeLine_eq]; omega) trivial (fun g i tt ys tl I oI C oC D m₂ h tk E' hi hR hb hC hx F N off ne => ?_) (fun g ys tl hR hb => ?_)))
  k_dflt k_enter
  refine gen_L (fun QL EL hQL hEL => ?_)
  k_steps
  all_goals first | (with_reducible refine hQT _ _ ?_) | ((with_reducible refine hQL _ _ ?_); (try dsimp only); k_steps) | skip
  · refine elt_one (R := fun y tl' => Each (PairIn tl') (ys ++ [y]) ((List.range (i + 1)).map fun (j : Nat) => (((svs.length + 1 : Nat) : Int) - 1, 0 + (j : Int)))) (by assumption) (by assumption) (by assumption) (by assumption) hb ?_
    rw [range_snoc]
    exact (hR.mono (PairIn.mono fun _ h => .tail _ h)).snoc ⟨_, _, _, rfl, .head _⟩
  · (rename LCg.Off1 _ _ => o1)
    (rename _ ∧ _ ∧ AllLt _ _ => hA)
    (rename News _ _ _ _ => kN)
    simp only [List.push_toArray] at kN hb o1
    exact ret _ ys _ [_] _ (tl ++ [_]) _ _ _ (by assumption) (news_sub kN fun p hp => sigS hp) (sigA hb o1 hA) (sigB o1) (hR.mono (PairIn.mono fun _ h => List.mem_append_left _ h)) (Each.one ⟨_, _, _, rfl, List.mem_append_right _ (.head _)⟩) (sigL hn1) sigC
end Mine
end

section
open PySem PySem.W PyProof.Rows PySem.Spec
set_option Elab.async false
namespace Mine
theorem fill4 : PySem.Challenge.rw_sj0034_01 = PySem.Challenge.rw_sj0034_01 ∧ Mine.hd.heap_39 = Mine.hd.heap_39 := by
  k_fill
  exact ⟨rfl, rfl⟩




theorem trace_use2 {w : World} {mean : ExcName → Option Value} {mg mb : Str → Option Value} {dp un : Nat} {gd : Option (List Code)} {cn : Str} {cs : Scope} {L a : Addr} {ccd : Value} {cl : List (Str × Addr)} {outer : List Env}
   {A₀ : Around} {base h₀ : Heap} {m : Str → Option Value} {s : Shared} {Q E : Value → Shared → Prop} {t : Tr}
   {q1 q2 : Addr × Obj} {rest : List (Addr × Obj)} {SN : Addr} {v : Value} {svs : List Value} {sk : Nat} {c : Bool} (H : TraceSpec w mean mg mb t)
   (B : Below A₀ base outer h₀) (F : Fr h₀ L s.heap m) (X : (Mine.hd.heap_39 w.params).In h₀) (N : News h₀ L s.heap (q1 :: q2 :: (SN, listOf svs.toArray sk) :: rest))
   (T : Top Mine.hd.view_39 (looseW Mine.hd.view_39 []) mean mg mb h₀) (hk : cs.kind = .function)
   (hq1 : @Ne Nat q1.1 SN) (hq2 : @Ne Nat q2.1 SN) (hoff : OwnOff rest [SN]) (hT : TrIn rest v t) (hf : t.Fit) (hlen : svs.length + t.leaves ≤ 60)
   (hdp : (dp : Int) ≤ 600 - 10 * t.deep) (hun : (un : Int) ≤ 2000 - 100 * t.deep)
   (ret : ∀ b bvs bk svs' sk' tl bs h' tk', Fr h₀ L h' m → News h₀ L h' ((b, listOf bvs.toArray bk) :: q1 :: (q2 :: (SN, listOf (svs ++ svs').toArray sk') :: (tl ++ rest))) →
      Apart (q1 :: q2 :: (SN, listOf svs.toArray sk) :: rest) ((b, listOf bvs.toArray bk) :: tl) → OwnOff tl [b] →
      Each (PairIn tl) bvs bs → Each (OccIn tl) svs' (t.occs c) → (bs.length : Int) = t.width → Cover (t.occs c) svs.length bs → Q (.ref b) { s with heap := h', toks := tk' }) :
   wpAny (model PySem.Challenge.rw_sj0034_01.row.prog w) (ktrTop dp un gd cn cs L a ccd cl outer) (call (.ref (ktn_at% "_law_trace")) [v, .bool c, .ref SN]) Q E s := by
  refine H _ _ _ _ _ _ _ _ _ _ _ _ _ _ _ _ _ (q1 :: q2 :: rest) SN v svs sk c B F X (news_sub N fun p hp => ?_) T hk ?_ (hT.mono fun _ h => .tail _ (.tail _ h)) hf hlen hdp hun ?_
  · simp only [List.mem_cons] at hp ⊢
    rcases hp with h | h | h | h <;> simp only [h, true_or, or_true]
  · intro p hp b hb
    rw [List.mem_singleton.mp hb]
    rcases List.mem_cons.mp hp with rfl | hp
    · exact hq1
    · rcases List.mem_cons.mp hp with rfl | hp
      · exact hq2
      · exact hoff p hp SN (.head _)
  · intro b bvs bk svs' sk' tl bs h' tk' F' N' hA hB hP hO hl hc
    refine ret b bvs bk svs' sk' tl bs h' tk' F' (news_sub N' fun p hp => ?_) (fun q hq p hp => hA q ?_ p hp) hB hP hO hl hc
    · simp only [List.mem_cons, List.mem_append] at hp ⊢
      rcases hp with h | h | h | h | h | h <;> simp only [h, true_or, or_true]
    · simp only [List.mem_cons] at hq ⊢
      rcases hq with h | h | h | h <;> simp only [h, true_or, or_true]

set_option maxRecDepth 100000 in
set_option maxHeartbeats 8000000 in
theorem trace_ext (w : World) (mean : ExcName → Option Value) (mg mb : Str → Option Value) (x : Int) (u : Tr) (bo : Bool) (IH : TraceSpec w mean mg mb u) : TraceSpec w mean mg mb (.ext x u bo) := by
  intro dp un gd cn cs L a ccd cl outer A₀ base h₀ m s Q E rest SN v svs sk c B F X N T hk hoff hT hf hlen hdp hun ret
  cases hT with
  | @ext e t0 t1 _ v' _ _ he hu =>
  obtain ⟨ea, its, wt, rfl, hm, hw1⟩ := hu.head
  refine wpAny_call ?_
  have hroom : dp < recursionLimit := by simp only [recursionLimit]; omega
  have hx1 : 1 ≤ x := hf.1
  have hx2 : x ≤ 6 := hf.2.1
  have hlu : svs.length + u.leaves ≤ 60 := hlen
  have hdu : (dp : Int) ≤ 590 - 10 * u.deep := by simp only [Tr.deep] at hdp; omega
  have huu : (un : Int) ≤ 1900 - 100 * u.deep := by simp only [Tr.deep] at hun; omega
  w_top off
  k_with_none
  k_with "subscriptTail Name Constant ref int" => ((k_here; (refine' item_tupN ?kN ?km ?k0 ?k1 ?kx ?_; (case kN => k_asm); (case km => k_mem); (case k0 => decide); (case k1 => decide); (case kx => first | exact rfl | assumption); k_whole)))
  k_with "eval ListComp" => ((k_here; lcf_look; k_dflt (refine LCg.ListComp_U (F₀ := by k_asm) (by with_unfolding_all rfl) (by decide) (by rfl) (by decide) (by rfl) ?_); k_dflt lcg_toSrc))
  k_with "call builtin:len" => ((k_here; (with_reducible show wpAny _ _ (call (Value.builtin "len") [Value.ref _]) _ _ _); (refine' len_arrN ?kN ?km ?kz ?_; (case kN => k_asm); (case km => k_mem); (case kz => ((try simp only [List.size_toArray, Array.size_push, List.length_append, List.length_cons, List.length_nil]); omega)); k_whole); (try simp only [List.size_toArray, Array.size_push, List.length_append, List.length_cons, List.length_nil])))
  k_with "subscriptTail Subscript" => ((k_here; (with_reducible show wpAny _ _ (subscriptTail _ _ (Value.ref _) (Value.int _ _)) _ _ _); (refine' item_tupN ?kN ?km ?k0 ?k1 ?kx ?_; (case kN => k_asm); (case km => k_mem); (case k0 => decide); (case k1 => decide); (case kx => first | exact rfl | assumption); k_whole)))
  k_with "subscriptTail Name Name ref int" => ((k_here; (refine' item_pairs ?kN ?km ?kE ?kz ?k0 ?k1 ?_; (case kN => k_asm); (case km => k_mem); (case kE => assumption); (case kz => omega); (case k0 => omega); (case k1 => omega)); intro a' p' hp' hP'))
  k_with "subscriptTail Name UnaryOp" => ((k_here; (with_reducible show wpAny _ _ (subscriptTail _ _ (Value.ref _) (Value.int (-1) _)) _ _ _); (refine' item_pairs_last ?kN ?km ?kE ?kz ?k1 ?_; (case kN => k_asm); (case km => k_mem); (case kE => assumption); (case kz => omega); (case k1 => omega)); intro a' p' hP'))
  k_with "call builtin:list.append" => ((k_here; (refine' append_K ?kF ?kN ?kU ?_ ?kz; (case kF => k_asm); (case kN => k_asm); (case kU => k_upd); (case kz => ((try simp only [List.size_toArray, Array.size_push]); rw [sizeLine_eq]; omega)); intro h' F' N'; (try simp only [List.push_toArray] at N'); (try k_sweep))))
  k_with "k_all" => (exact ownOff_ne (by assumption))
  k_with "execs cons" => ((rename Fr _ _ _ _ => zF); k_dflt (refine st_to (s := s) zF (by with_reducible rfl) (fun tk => ?_)); (try k_made); (refine wpAny_execs_cons ?_); (try dsimp only))
  k_with "k_ne" => (refine neN ?_; (try dsimp only); first | with_reducible assumption | (refine Ne.symm ?_; with_reducible assumption) | (refine Nat.ne_of_lt ?_; with_reducible assumption) | (refine Nat.ne_of_gt ?_; with_reducible assumption) | k_extra "k_nf")
  k_with "k_nf" => ((rename _ ∧ _ => lX); first | exact Nat.ne_of_gt lX.1 | exact Nat.ne_of_lt lX.1 | exact Nat.ne_of_gt lX.2.1 | exact Nat.ne_of_lt lX.2.1 | exact Nat.ne_of_gt lX.2.2.1 | exact Nat.ne_of_lt lX.2.2.1 | exact Nat.ne_of_gt lX.2.2.2.1 | exact Nat.ne_of_lt lX.2.2.2.1 | exact Nat.ne_of_gt lX.2.2.2.2.1 | exact Nat.ne_of_lt lX.2.2.2.2.1 | exact Nat.ne_of_gt lX.2.2.2.2.2.1 | exact Nat.ne_of_lt lX.2.2.2.2.2.1 | exact Nat.ne_of_gt lX.2.2.2.2.2.2.1 | exact Nat.ne_of_lt lX.2.2.2.2.2.2.1 | exact Nat.ne_of_gt lX.2.2.2.2.2.2.2.1 | exact Nat.ne_of_lt lX.2.2.2.2.2.2.2.1 | exact Nat.ne_of_gt lX.2.2.2.2.2.2.2.2.1 | exact Nat.ne_of_lt lX.2.2.2.2.2.2.2.2.1 | exact Nat.ne_of_gt lX.2.2.2.2.2.2.2.2.2.1 | exact Nat.ne_of_lt lX.2.2.2.2.2.2.2.2.2.1 | exact Nat.ne_of_gt lX.2.2.2.2.2.2.2.2.2.2.1 | exact Nat.ne_of_lt lX.2.2.2.2.2.2.2.2.2.2.1 | exact Nat.ne_of_gt lX.2.2.2.2.2.2.2.2.2.2.2.1 | exact Nat.ne_of_lt lX.2.2.2.2.2.2.2.2.2.2.2.1 | exact Nat.ne_of_gt lX.2 | exact Nat.ne_of_lt lX.2 | exact Nat.ne_of_gt lX.2.2 | exact Nat.ne_of_lt lX.2.2 | exact Nat.ne_of_gt lX.2.2.2 | exact Nat.ne_of_lt lX.2.2.2 | exact Nat.ne_of_gt lX.2.2.2.2 | exact Nat.ne_of_lt lX.2.2.2.2 | exact Nat.ne_of_gt lX.2.2.2.2.2 | exact Nat.ne_of_lt lX.2.2.2.2.2 | exact Nat.ne_of_gt lX.2.2.2.2.2.2 | exact Nat.ne_of_lt lX.2.2.2.2.2.2 | exact Nat.ne_of_gt lX.2.2.2.2.2.2.2 | exact Nat.ne_of_lt lX.2.2.2.2.2.2.2 | exact Nat.ne_of_gt lX.2.2.2.2.2.2.2.2 | exact Nat.ne_of_lt lX.2.2.2.2.2.2.2.2 | exact Nat.ne_of_gt lX.2.2.2.2.2.2.2.2.2 | exact Nat.ne_of_lt lX.2.2.2.2.2.2.2.2.2 | exact Nat.ne_of_gt lX.2.2.2.2.2.2.2.2.2.2 | exact Nat.ne_of_lt lX.2.2.2.2.2.2.2.2.2.2 | exact Nat.ne_of_gt lX.2.2.2.2.2.2.2.2.2.2.2 | exact Nat.ne_of_lt lX.2.2.2.2.2.2.2.2.2.2.2 | exact Ne.symm lX.1 | exact lX.1 | exact Ne.symm lX.2.1 | exact lX.2.1 | exact Ne.symm lX.2.2.1 | exact lX.2.2.1 | exact Ne.symm lX.2.2.2.1 | exact lX.2.2.2.1 | exact Ne.symm lX.2.2.2.2.1 | exact lX.2.2.2.2.1 | exact Ne.symm lX.2.2.2.2.2.1 | exact lX.2.2.2.2.2.1 | exact Ne.symm lX.2.2.2.2.2.2.1 | exact lX.2.2.2.2.2.2.1 | exact Ne.symm lX.2.2.2.2.2.2.2.1 | exact lX.2.2.2.2.2.2.2.1 | exact Ne.symm lX.2.2.2.2.2.2.2.2.1 | exact lX.2.2.2.2.2.2.2.2.1 | exact Ne.symm lX.2.2.2.2.2.2.2.2.2.1 | exact lX.2.2.2.2.2.2.2.2.2.1 | exact Ne.symm lX.2.2.2.2.2.2.2.2.2.2.1 | exact lX.2.2.2.2.2.2.2.2.2.2.1 | exact Ne.symm lX.2.2.2.2.2.2.2.2.2.2.2.1 | exact lX.2.2.2.2.2.2.2.2.2.2.2.1 | (clear lX; k_extra "k_nf"))
  k_with "eval BoolOp" => (goal_lacks BoolIs; (k_dflt (refine bool_cut (c && decide (u.width ≤ x)) ?_ (fun tkb => ?_))))
  k_with "call ref" => ((k_dflt (refine trace_use2 IH (by k_asm) (by k_asm) (by k_asm) (by k_asm) (by k_asm) (by first | exact rfl | assumption) (by k_ne) (by k_ne) hoff hu hf.2.2 hlu (by first | exact dpA (k := 1) hdp | (simp only [depth_deeper]; omega)) (by first | exact dpA (k := 3) hun | (simp only [units_deeper]; omega)) (fun b bvs bk svs' sk' tl bs h' tk' F N hA hB hP hO hl hc => ?_)); have hbl := Each.length hP))
  k_with "exec For Name Call cons nil" => (((rename Fr _ _ _ _ => lF); k_dflt (refine For_IF lF ?_)))
  k_with "pyIter ref" => (((rename _ ∧ _ ∧ AllLt _ _ => hl1); k_dflt (refine trace_loop (n := x.toNat) (bs := bs) tl [Str.ofString "spot"] (by rfl) (by k_asm) (rangeSmall_of (by omega) (by omega) (by omega) (by omega)) (rangeSize_of (by omega)) (by k_asm) (by k_asm) (by exact (hA _ (.head _) _ (.head _)).symm) (by exact off_base hl1 hA _) (fun i tt u' vs k ps tl2 h tk I oI hi hvl hpl hE hC hAp hol2 hlb hIl hIb hoI F N => gen_T (fun QT hQT => ?_)) (fun u' vs k ps tl2 h tk hvl hpl hE hC hAp F N => ?_))))
  have hle := hf.2.2.le
  have hps := hf.2.2.pos
  k_dflt k_enter
  refine gen_L (fun QL EL hQL hEL => ?_)
  k_steps
  all_goals first | (with_reducible refine hQT _ _ ?_) | ((with_reducible refine hQL _ _ ?_); (try dsimp only); k_steps) | skip
  · exact BoolIs.mk (by simp_all)
  · exact BoolIs.mk (by simp_all)
  · exact trace_old (by assumption) (by assumption) hvl hpl hE hAp hIl hIb hoI (PairIn.mono (fun _ h => List.mem_append_right _ h) _ _ (by assumption)) (hC.hit (by assumption)) same_one
  · exact trace_old (by assumption) (by assumption) hvl hpl hE hAp hIl hIb hoI (PairIn.mono (fun _ h => List.mem_append_right _ h) _ _ (by assumption)) (hC.miss (by omega)) same_one
  · exact trace_new (by assumption) (by assumption) hvl hpl hE (by assumption) hAp hIl hIb hoI (hC.miss (by omega)) same_one
  · (rename _ ∧ _ ∧ AllLt _ _ => hl1)
    (rename News _ _ _ _ => kN)
    exact ret _ vs k svs' _ (tl2 ++ tl) ps _ _ (by assumption) (news_sub kN fun p hp => fin_sub hp) (fin_apart hl1 hA hAp) (fin_off hA hAp) hE (hO.mono (OccIn.mono fun _ h => List.mem_append_right _ h)) (by rw [hpl]; simp only [Tr.width]; omega) (cover_pass (u := u) (c := c && decide (u.width ≤ x)) hc hC hl (fun h => ⟨by decide, by simp at h; omega⟩))
end Mine
end

section
open PySem PySem.W PyProof.Rows PySem.Spec
set_option Elab.async false
namespace Mine
theorem fill5 : PySem.Challenge.rw_sj0034_01 = PySem.Challenge.rw_sj0034_01 ∧ Mine.hd.heap_39 = Mine.hd.heap_39 := by
  k_fill
  exact ⟨rfl, rfl⟩




set_option maxRecDepth 100000 in
set_option maxHeartbeats 8000000 in
theorem trace_slice (w : World) (mean : ExcName → Option Value) (mg mb : Str → Option Value) (x : Int) (u : Tr) (lo : Int) (IH : TraceSpec w mean mg mb u) : TraceSpec w mean mg mb (.slice x u lo) := by
  intro dp un gd cn cs L a ccd cl outer A₀ base h₀ m s Q E rest SN v svs sk c B F X N T hk hoff hT hf hlen hdp hun ret
  cases hT with
  | @slice e t0 t1 t2 _ _ v' _ he hu =>
  obtain ⟨ea, its, wt, rfl, hm, hw1⟩ := hu.head
  refine wpAny_call ?_
  have hroom : dp < recursionLimit := by simp only [recursionLimit]; omega
  have hx1 : 1 ≤ x := hf.1
  have hx2 : x ≤ 6 := hf.2.1
  have hlo1 : -1 ≤ lo := hf.2.2.1
  have hlo2 : lo ≤ 2 := hf.2.2.2.1
  have hlu : svs.length + u.leaves ≤ 60 := hlen
  have hdu : (dp : Int) ≤ 590 - 10 * u.deep := by simp only [Tr.deep] at hdp; omega
  have huu : (un : Int) ≤ 1900 - 100 * u.deep := by simp only [Tr.deep] at hun; omega
  w_top off
  k_with_none
  k_with "subscriptTail Name Constant ref int" => ((k_here; (refine' item_tupN ?kN ?km ?k0 ?k1 ?kx ?_; (case kN => k_asm); (case km => k_mem); (case k0 => decide); (case k1 => decide); (case kx => first | exact rfl | assumption); k_whole)))
  k_with "eval ListComp" => ((k_here; lcf_look; k_dflt (refine LCg.ListComp_U (F₀ := by k_asm) (by with_unfolding_all rfl) (by decide) (by rfl) (by decide) (by rfl) ?_); k_dflt lcg_toSrc))
  k_with "call builtin:len" => ((k_here; (with_reducible show wpAny _ _ (call (Value.builtin "len") [Value.ref _]) _ _ _); (refine' len_arrN ?kN ?km ?kz ?_; (case kN => k_asm); (case km => k_mem); (case kz => ((try simp only [List.size_toArray, Array.size_push, List.length_append, List.length_cons, List.length_nil]); omega)); k_whole); (try simp only [List.size_toArray, Array.size_push, List.length_append, List.length_cons, List.length_nil])))
  k_with "subscriptTail Subscript" => ((k_here; (with_reducible show wpAny _ _ (subscriptTail _ _ (Value.ref _) (Value.int _ _)) _ _ _); (refine' item_tupN ?kN ?km ?k0 ?k1 ?kx ?_; (case kN => k_asm); (case km => k_mem); (case k0 => decide); (case k1 => decide); (case kx => first | exact rfl | assumption); k_whole)))
  k_with "subscriptTail Name Name ref int" => ((k_here; (refine' item_pairs ?kN ?km ?kE ?kz ?k0 ?k1 ?_; (case kN => k_asm); (case km => k_mem); (case kE => assumption); (case kz => omega); (case k0 => omega); (case k1 => omega)); intro a' p' hp' hP'))
  k_with "subscriptTail Name UnaryOp" => ((k_here; (with_reducible show wpAny _ _ (subscriptTail _ _ (Value.ref _) (Value.int (-1) _)) _ _ _); (refine' item_pairs_last ?kN ?km ?kE ?kz ?k1 ?_; (case kN => k_asm); (case km => k_mem); (case kE => assumption); (case kz => omega); (case k1 => omega)); intro a' p' hP'))
  k_with "call builtin:list.append" => ((k_here; (refine' append_K ?kF ?kN ?kU ?_ ?kz; (case kF => k_asm); (case kN => k_asm); (case kU => k_upd); (case kz => ((try simp only [List.size_toArray, Array.size_push]); rw [sizeLine_eq]; omega)); intro h' F' N'; (try simp only [List.push_toArray] at N'); (try k_sweep))))
  k_with "k_all" => (exact ownOff_ne (by assumption))
  k_with "execs cons" => ((rename Fr _ _ _ _ => zF); k_dflt (refine st_to (s := s) zF (by with_reducible rfl) (fun tk => ?_)); (try k_made); (refine wpAny_execs_cons ?_); (try dsimp only))
  k_with "k_ne" => (refine neN ?_; (try dsimp only); first | with_reducible assumption | (refine Ne.symm ?_; with_reducible assumption) | (refine Nat.ne_of_lt ?_; with_reducible assumption) | (refine Nat.ne_of_gt ?_; with_reducible assumption) | k_extra "k_nf")
  k_with "k_nf" => ((rename _ ∧ _ => lX); first | exact Nat.ne_of_gt lX.1 | exact Nat.ne_of_lt lX.1 | exact Nat.ne_of_gt lX.2.1 | exact Nat.ne_of_lt lX.2.1 | exact Nat.ne_of_gt lX.2.2.1 | exact Nat.ne_of_lt lX.2.2.1 | exact Nat.ne_of_gt lX.2.2.2.1 | exact Nat.ne_of_lt lX.2.2.2.1 | exact Nat.ne_of_gt lX.2.2.2.2.1 | exact Nat.ne_of_lt lX.2.2.2.2.1 | exact Nat.ne_of_gt lX.2.2.2.2.2.1 | exact Nat.ne_of_lt lX.2.2.2.2.2.1 | exact Nat.ne_of_gt lX.2.2.2.2.2.2.1 | exact Nat.ne_of_lt lX.2.2.2.2.2.2.1 | exact Nat.ne_of_gt lX.2.2.2.2.2.2.2.1 | exact Nat.ne_of_lt lX.2.2.2.2.2.2.2.1 | exact Nat.ne_of_gt lX.2.2.2.2.2.2.2.2.1 | exact Nat.ne_of_lt lX.2.2.2.2.2.2.2.2.1 | exact Nat.ne_of_gt lX.2.2.2.2.2.2.2.2.2.1 | exact Nat.ne_of_lt lX.2.2.2.2.2.2.2.2.2.1 | exact Nat.ne_of_gt lX.2.2.2.2.2.2.2.2.2.2.1 | exact Nat.ne_of_lt lX.2.2.2.2.2.2.2.2.2.2.1 | exact Nat.ne_of_gt lX.2.2.2.2.2.2.2.2.2.2.2.1 | exact Nat.ne_of_lt lX.2.2.2.2.2.2.2.2.2.2.2.1 | exact Nat.ne_of_gt lX.2 | exact Nat.ne_of_lt lX.2 | exact Nat.ne_of_gt lX.2.2 | exact Nat.ne_of_lt lX.2.2 | exact Nat.ne_of_gt lX.2.2.2 | exact Nat.ne_of_lt lX.2.2.2 | exact Nat.ne_of_gt lX.2.2.2.2 | exact Nat.ne_of_lt lX.2.2.2.2 | exact Nat.ne_of_gt lX.2.2.2.2.2 | exact Nat.ne_of_lt lX.2.2.2.2.2 | exact Nat.ne_of_gt lX.2.2.2.2.2.2 | exact Nat.ne_of_lt lX.2.2.2.2.2.2 | exact Nat.ne_of_gt lX.2.2.2.2.2.2.2 | exact Nat.ne_of_lt lX.2.2.2.2.2.2.2 | exact Nat.ne_of_gt lX.2.2.2.2.2.2.2.2 | exact Nat.ne_of_lt lX.2.2.2.2.2.2.2.2 | exact Nat.ne_of_gt lX.2.2.2.2.2.2.2.2.2 | exact Nat.ne_of_lt lX.2.2.2.2.2.2.2.2.2 | exact Nat.ne_of_gt lX.2.2.2.2.2.2.2.2.2.2 | exact Nat.ne_of_lt lX.2.2.2.2.2.2.2.2.2.2 | exact Nat.ne_of_gt lX.2.2.2.2.2.2.2.2.2.2.2 | exact Nat.ne_of_lt lX.2.2.2.2.2.2.2.2.2.2.2 | exact Ne.symm lX.1 | exact lX.1 | exact Ne.symm lX.2.1 | exact lX.2.1 | exact Ne.symm lX.2.2.1 | exact lX.2.2.1 | exact Ne.symm lX.2.2.2.1 | exact lX.2.2.2.1 | exact Ne.symm lX.2.2.2.2.1 | exact lX.2.2.2.2.1 | exact Ne.symm lX.2.2.2.2.2.1 | exact lX.2.2.2.2.2.1 | exact Ne.symm lX.2.2.2.2.2.2.1 | exact lX.2.2.2.2.2.2.1 | exact Ne.symm lX.2.2.2.2.2.2.2.1 | exact lX.2.2.2.2.2.2.2.1 | exact Ne.symm lX.2.2.2.2.2.2.2.2.1 | exact lX.2.2.2.2.2.2.2.2.1 | exact Ne.symm lX.2.2.2.2.2.2.2.2.2.1 | exact lX.2.2.2.2.2.2.2.2.2.1 | exact Ne.symm lX.2.2.2.2.2.2.2.2.2.2.1 | exact lX.2.2.2.2.2.2.2.2.2.2.1 | exact Ne.symm lX.2.2.2.2.2.2.2.2.2.2.2.1 | exact lX.2.2.2.2.2.2.2.2.2.2.2.1 | (clear lX; k_extra "k_nf"))
  k_with "eval BoolOp" => (goal_lacks BoolIs; (k_dflt (refine bool_cut (c && decide (lo ≤ 0) && decide (u.width ≤ lo + x)) ?_ (fun tkb => ?_))))
  k_with "call ref" => ((k_dflt (refine trace_use2 IH (by k_asm) (by k_asm) (by k_asm) (by k_asm) (by k_asm) (by first | exact rfl | assumption) (by k_ne) (by k_ne) hoff hu hf.2.2.2.2 hlu (by first | exact dpA (k := 1) hdp | (simp only [depth_deeper]; omega)) (by first | exact dpA (k := 3) hun | (simp only [units_deeper]; omega)) (fun b bvs bk svs' sk' tl bs h' tk' F N hA hB hP hO hl hc => ?_)); have hbl := Each.length hP))
  k_with "exec For Name Call cons nil" => (((rename Fr _ _ _ _ => lF); k_dflt (refine For_IF lF ?_)))
  k_with "pyIter ref" => (((rename _ ∧ _ ∧ AllLt _ _ => hl1); k_dflt (refine trace_loop (n := x.toNat) (bs := bs) tl [Str.ofString "spot"] (by rfl) (by k_asm) (rangeSmall_of (by omega) (by omega) (by omega) (by omega)) (rangeSize_of (by omega)) (by k_asm) (by k_asm) (by exact (hA _ (.head _) _ (.head _)).symm) (by exact off_base hl1 hA _) (fun i tt u' vs k ps tl2 h tk I oI hi hvl hpl hE hC hAp hol2 hlb hIl hIb hoI F N => gen_T (fun QT hQT => ?_)) (fun u' vs k ps tl2 h tk hvl hpl hE hC hAp F N => ?_))))
  have hle := hf.2.2.2.2.le
  have hps := hf.2.2.2.2.pos
  k_dflt k_enter
  refine gen_L (fun QL EL hQL hEL => ?_)
  k_steps
  all_goals first | (with_reducible refine hQT _ _ ?_) | ((with_reducible refine hQL _ _ ?_); (try dsimp only); k_steps) | skip
  · exact BoolIs.mk (by simp_all <;> omega)
  · exact BoolIs.mk (by simp_all <;> omega)
  · exact BoolIs.mk (by simp_all <;> omega)
  · exact trace_old (by assumption) (by assumption) hvl hpl hE hAp hIl hIb hoI (PairIn.mono (fun _ h => List.mem_append_right _ h) _ _ (by assumption)) (hC.hit (by assumption)) same_one
  · exact trace_new (by assumption) (by assumption) hvl hpl hE (by assumption) hAp hIl hIb hoI (hC.miss (by omega)) same_one
  · exact trace_new (by assumption) (by assumption) hvl hpl hE (by assumption) hAp hIl hIb hoI (hC.miss (by omega)) same_one
  · (rename _ ∧ _ ∧ AllLt _ _ => hl1)
    (rename News _ _ _ _ => kN)
    exact ret _ vs k svs' _ (tl2 ++ tl) ps _ _ (by assumption) (news_sub kN fun p hp => fin_sub hp) (fin_apart hl1 hA hAp) (fin_off hA hAp) hE (hO.mono (OccIn.mono fun _ h => List.mem_append_right _ h)) (by rw [hpl]; simp only [Tr.width]; omega) (cover_pass (u := u) (c := c && decide (lo ≤ 0) && decide (u.width ≤ lo + x)) hc hC hl (fun h => by simp at h; exact ⟨h.1.2, h.2⟩))
end Mine
end

section
open PySem PySem.W PyProof.Rows PySem.Spec PySem.Calls
set_option maxRecDepth 100000
namespace Mine
/-! reversed over a tuple -/
theorem slot_rev_next : Slot "reversed" "__next__" "reversed.__next__" :=
  .of (owner := "reversed") (n := "__next__") (by rw [typeLookup_type, builtinLookup_eq_fast]; kernel_rfl) (by decide +kernel) (by decide +kernel) (by decide +kernel)
    (by first | exact .inl (by decide +kernel) | exact .inr (by decide +kernel)) (by rw [isSubtype_type]; kernel_rfl)
theorem entry_rev_next : entryFor table "reversed.__next__" = some Builtin.«reversed.__next__» := entryFor_of_tree (by kernel_rfl)
theorem owner_rev : Manifest.owners.lookup (String.ofList ['d', 'e', 's', 'r', 'e', 'v', 'e', 'r'].reverse) = some Manifest.sig_reversed := by kernel_rfl
theorem args_rev_next (a : Value) : argsOk "reversed.__next__" ⟨[a], []⟩ := by
  unfold argsOk; rw [signature?_of (id := "reversed.__next__") (n := ['_', '_', 't', 'x', 'e', 'n', '_', '_']) (o := ['d', 'e', 's', 'r', 'e', 'v', 'e', 'r']) (by kernel_rfl) owner_rev]; kernel_rfl
theorem slot_rev_iter : Slot "reversed" "__iter__" "reversed.__iter__" :=
  .of (owner := "reversed") (n := "__iter__") (by rw [typeLookup_type, builtinLookup_eq_fast]; kernel_rfl) (by decide +kernel) (by decide +kernel) (by decide +kernel)
    (by first | exact .inl (by decide +kernel) | exact .inr (by decide +kernel)) (by rw [isSubtype_type]; kernel_rfl)
theorem args_rev_iter (a : Value) : argsOk "reversed.__iter__" ⟨[a], []⟩ := by
  unfold argsOk; rw [signature?_of (id := "reversed.__iter__") (n := ['_', '_', 'r', 'e', 't', 'i', '_', '_']) (o := ['d', 'e', 's', 'r', 'e', 'v', 'e', 'r']) (by kernel_rfl) owner_rev]; kernel_rfl
theorem entry_rev_iter : entryFor table "reversed.__iter__" = some Builtin.«dict_keyiterator.__iter__» :=
  entryFor_alias (id' := "dict_keyiterator.__iter__") (by kernel_rfl) (by first | rfl | decide +kernel | (unfold String.splitOn; simp +decide [String.splitOnAux])) (by decide +kernel) (by kernel_rfl)
theorem slot_rev_init : Slot "reversed" "__init__" "object.__init__" :=
  .of (owner := "object") (n := "__init__") (by rw [typeLookup_type, builtinLookup_eq_fast]; kernel_rfl) (by decide +kernel) (by decide +kernel) (by decide +kernel)
    (by first | exact .inl (by decide +kernel) | exact .inr (by decide +kernel)) (by rw [isSubtype_type]; kernel_rfl)
theorem called_rev : TypeCalled "reversed" "reversed.__new__" "object.__init__" :=
  ⟨by decide +kernel, F.create_reversed, ⟨_, _, F.mro_reversed⟩, F.made_reversed, F.plain_reversed_new, F.sub_reversed_self, slot_rev_init⟩
theorem look_tuple_reversed : typeLookup (.type "tuple") "__reversed__" = pure none := by rw [typeLookup_type, builtinLookup_eq_fast]; kernel_rfl

section
variable {prog : Program} {w : World} {A : Around} {E : Value → Shared → Prop} {s : Shared}
def rvObj (l : Addr) (i : Int) : Obj := { cls := .type "reversed", data := .fields #[.ref l, rawInt i] }
def IsRv (h : Heap) (a l : Addr) (i : Int) : Prop := ∃ o, h.get? a = some o ∧ o.cls = .type "reversed" ∧ o.data = .fields #[.ref l, rawInt i]
theorem IsRv.typeIs {a l : Addr} {i : Int} (x : IsRv s.heap a l i) : s.TypeIs (.ref a) "reversed" := let ⟨o, ho, hc, _⟩ := x; ⟨o, ho, hc⟩
theorem IsRv.at {h h' : Heap} {a l : Addr} {i : Int} (x : IsRv h a l i) (e : ∀ o, h.get? a = some o → h'.get? a = some o) : IsRv h' a l i := let ⟨o, ho, r⟩ := x; ⟨o, e _ ho, r⟩

theorem rv_new {t : Addr} {items : Array Value} {Q₁ : Value → Shared → Prop} (ht : IsTup s.heap t items) (hn : items.size ≤ 1000)
    (h : Q₁ (.ref s.heap.objs.size) { s with heap := s.heap.push (rvObj t ((items.size : Int) - 1)), toks := s.toks + 1 + 1 }) :
    wpAny (model prog w) A.in1 (Builtin.«reversed.__new__» ⟨[.type "reversed", .ref t], []⟩) (fun fin s' => ∃ v, fin = .done (.ret v) ∧ Q₁ v s') E s := by
  unfold Builtin.«reversed.__new__»
  refine wpAny_bind (wpAny_of_eq (newClass_reversed _) ?_)
  try dsimp only
  refine wpAny_bind (wpAny_of_eq (a := ()) (by first | rfl | kernel_rfl) ?_)
  refine wpAny_bind (wpAny_of_eq (a := ()) (by first | rfl | kernel_rfl) ?_)
  try dsimp only
  refine wpAny_bind (wpAny_specialOf ht.typeIs look_tuple_reversed ?_)
  try dsimp only
  refine wpAny_bind (m := isInstance (.ref t) (.type "dict") >>= _) ?_
  refine wpAny_bind (wpAny_isInstance ht.typeIs F.sub_tuple_dict ?_)
  rw [if_neg (by decide)]
  refine wpAny_bind (wpAny_specialOf ht.typeIs F.slot_tuple_getitem.lookup ?_)
  dsimp only
  rw [if_pos (by decide)]
  refine wpAny_pure ?_
  rw [if_neg (by decide)]
  refine wpAny_bind (len_tuple ht (by omega) ?_)
  refine wpAny_bind (wpAny_of_eq (a := some (items.size : Int)) rfl ?_)
  dsimp only
  exact wpAny_bind (m := newObj (.type "reversed") (.fields #[.ref t, rawInt ((items.size : Int) - 1)])) (wpAny_newObj_type (wpAny_pure ⟨_, rfl, h⟩))

theorem call_rv {t : Addr} {items : Array Value} {Q : Value → Shared → Prop} (ht : IsTup s.heap t items) (hn : items.size ≤ 1000)
    (h : Q (.ref s.heap.objs.size) { s with heap := s.heap.push (rvObj t ((items.size : Int) - 1)), toks := s.toks + 1 + 1 }) : wpAny (model prog w) A (call (.type "reversed") [.ref t]) Q E s :=
  callType_newIn (S := fun _ R s' => (IsTup s'.heap t items) ∧ R (.ok (.ret (.ref s'.heap.objs.size))) { s' with heap := s'.heap.push (rvObj t ((items.size : Int) - 1)), toks := s'.toks + 1 + 1 }) called_rev (by decide) (F.typeCall_reversed_1 _) (F.newCall_reversed_1 _) (fun obj => F.args_object_init_2 obj _) F.entry_reversed_new
    (.of_wp fun A R s' hS => rv_new (Q₁ := fun v s'' => R (.ok (.ret v)) s'') hS.1 hn hS.2) ⟨ht, ⟨_, Heap.get?_push_size _ rfl, rfl⟩, h⟩

theorem seqIdx {i n : Nat} (h : i < n) : seqIndex? (i : Int) n = some i := by
  unfold seqIndex?
  have h1 : ¬ (i : Int) < 0 := by omega
  have h2 : (i : Int) < (n : Int) := by omega
  have h3 : (0 : Int) ≤ (i : Int) := by omega
  simp only [h1, if_false, h2, h3, decide_true, Bool.and_self, if_true, Int.toNat_natCast]
theorem rv_item {it l : Addr} {i : Nat} {items : Array Value} {x : Value} {Q : Option Value → Shared → Prop} (hit : IsRv s.heap it l (i : Int)) (hl : IsTup s.heap l items) (hn : items.size ≤ 1000) (hx : items[i]? = some x)
    (hQ : ∀ h', IsRv h' it l ((i : Int) - 1) → Heap.SameBut it s.heap h' → Q (some x) { s with heap := h', toks := s.toks + 1 }) : wpAny (model prog w) A (pyNext (.ref it)) Q E s := by
  obtain ⟨o, ho, hc, hd⟩ := id hit
  have hi : i < items.size := (Array.getElem?_eq_some_iff.mp hx).1
  unfold pyNext
  refine wpAny_bind (wpAny_attempt (wpAny_callSpecial?_slot (name := Str.ofString "__next__") hit.typeIs slot_rev_next
    (wpAny_call_entry slot_rev_next hit.typeIs entry_rev_next ?_ (args_rev_next _))))
  unfold Builtin.«reversed.__next__»
  refine wpAny_bind (wpAny_of_eq (a := (Value.ref it, [])) rfl ?_)
  try dsimp only
  refine wpAny_bind (wpAny_field ho hd (x := .ref l) rfl ?_)
  refine wpAny_bind (wpAny_field ho hd (x := rawInt (i : Int)) rfl ?_)
  show wpAny _ _ (if (i : Int) < 0 then _ else _) _ _ s
  rw [if_neg (by omega)]
  refine wpAny_bind (wpAny_specialOf hl.typeIs F.slot_tuple_getitem.lookup ?_)
  rw [if_neg (by simp)]
  refine wpAny_bind (wpAny_mkInt ?_)
  refine wpAny_bind (wpAny_attempt (getItem_tuple hl (by omega) (by omega) (j := i) (seqIdx hi) hx ?_))
  dsimp only
  refine wpAny_bind (wpAny_field ho hd (x := rawInt (i : Int)) rfl ?_)
  show wpAny _ _ (setField (.ref it) 1 (rawInt ((i : Int) - 1)) >>= _) _ _ _
  refine wpAny_bind (wpAny_setField (s := { s with toks := s.toks + 1 }) ho hd (by simp) ?_)
  refine wpAny_pure ⟨x, rfl, wpAny_pure (hQ _ ?_ (Heap.SameBut.update ..))⟩
  exact ⟨_, Heap.get?_update_self _ ho (Obj.isFreed_of_fields (Obj.data_mapFields hd _)), (Obj.cls_mapFields ..).trans hc, by
    rw [Obj.data_mapFields hd]; simp⟩

theorem rv_end {it l : Addr} {Q : Option Value → Shared → Prop} (hh : A.handled = none) (hit : IsRv s.heap it l (-1))
    (hQ : ∀ h', Heap.ExtBut it s.heap h' → Q none { s with heap := h' }) : wpAny (model prog w) A (pyNext (.ref it)) Q E s := by
  obtain ⟨o, ho, hc, hd⟩ := id hit
  unfold pyNext
  refine wpAny_bind (wpAny_attempt (wpAny_callSpecial?_slot (name := Str.ofString "__next__") hit.typeIs slot_rev_next
    (wpAny_call_entry slot_rev_next hit.typeIs entry_rev_next ?_ (args_rev_next _))))
  unfold Builtin.«reversed.__next__»
  refine wpAny_bind (wpAny_of_eq (a := (Value.ref it, [])) rfl ?_)
  try dsimp only
  refine wpAny_bind (wpAny_field ho hd (x := .ref l) rfl ?_)
  refine wpAny_bind (wpAny_field ho hd (x := rawInt (-1)) rfl ?_)
  show wpAny _ _ (if (-1 : Int) < 0 then _ else _) _ _ s
  rw [if_pos (by decide)]
  refine wpAny_bind (wpAny_rule ?_)
  refine wpAny_bind (m := setField (.ref it) 1 (rawInt (-1)) >>= fun _ => setField (.ref it) 0 .none) ?_
  refine wpAny_bind (wpAny_setField ho hd (by simp) ?_)
  have ho2 := Heap.get?_update_self (Obj.mapFields fun vs => vs.setIfInBounds 1 (rawInt (-1))) ho (Obj.isFreed_of_fields (Obj.data_mapFields hd _))
  refine wpAny_setField ho2 (Obj.data_mapFields hd _) (by simp) ?_
  generalize hH : (s.heap.update it (Obj.mapFields fun vs => vs.setIfInBounds 1 (rawInt (-1)))).update it (Obj.mapFields fun vs => vs.setIfInBounds 0 Value.none) = H
  have hE : Heap.ExtBut it s.heap H := by
    intro b o' hb e
    rw [← hH]
    exact (Heap.SameBut.update ..).extBut b o' hb ((Heap.SameBut.update ..).extBut b o' hb e)
  refine wpAny_bind (m := Builtin.SmallTypes.stopIteration) ?_
  show wpAny _ _ (newExc (.type "StopIteration") [] >>= _) _ _ _
  refine wpAny_bind ?_
  simp only [newExc, newTuple]
  refine wpAny_bind (wpAny_newObj_type ?_ (by size_fits))
  refine wpAny_bind (m := firstArgMember _ _) (wpAny_of_eq (a := Value.none) (by first | rfl | (simp only [firstArgMember]; rfl)) ?_)
  refine wpAny_newObj_type ?_ (by size_fits)
  simp only [raiseNew]
  refine wpAny_bind (wpAny_handled ?_)
  first | rw [show A.in1.handled = none from hh] | rw [hh]
  refine wpAny_bind (wpAny_pure (wpAny_throw ?_))
  refine wpAny_bind (wpAny_isInstance (T := "StopIteration") (b := true) ⟨_, Heap.get?_push_size _ rfl, rfl⟩ isSubtype_stop ?_)
  exact wpAny_pure (hQ _ fun b o' hb e => Heap.get?_push_of_some _ (Heap.get?_push_of_some _ (hE b o' hb e)))

theorem rv_self {it l : Addr} {i : Int} {Q : Value → Shared → Prop} (hit : IsRv s.heap it l i) (h : Q (.ref it) s) : wpAny (model prog w) A (pyIter (.ref it)) Q E s := by
  refine wpAny_pyIter_slot hit.typeIs slot_rev_iter (wpAny_call_entry slot_rev_iter hit.typeIs entry_rev_iter ?_ (args_rev_iter _))
  show wpAny _ _ (ret (.ref it)) _ _ s
  exact wpAny_pure ⟨_, rfl, "reversed", _, hit.typeIs, slot_rev_next.lookup, h⟩
theorem isTup_at {h h' : Heap} {a : Addr} {items : Array Value} (x : IsTup h a items) (e : ∀ o, h.get? a = some o → h'.get? a = some o) : IsTup h' a items := let ⟨o, ho, r⟩ := x; ⟨o, e _ ho, r⟩

theorem walks_rev (hh : A.handled = none) (I l : Addr) (hne : l ≠ I) (items : Array Value) (hn : items.size ≤ 1000) :
    Walks prog w A I [I, l] [I] items.size (fun i v => items[items.size - 1 - i]? = some v) (fun i h => i ≤ items.size ∧ IsRv h I l ((items.size : Int) - 1 - (i : Int)) ∧ IsTup h l items) where
  sub := fun b hb => by simp at hb; simp [hb]
  frame := fun _ _ _ x hk => ⟨x.1, x.2.1.at fun o e => hk I (by simp) o e, isTup_at x.2.2 fun o e => hk l (by simp) o e⟩
  item := fun i s Q E hi x hQ => by
    have e : (items.size : Int) - 1 - (i : Int) = ((items.size - 1 - i : Nat) : Int) := by omega
    have hit := x.2.1
    rw [e] at hit
    have hx : items[items.size - 1 - i]? = some (items[items.size - 1 - i]'(by omega)) := Array.getElem?_eq_getElem (by omega)
    refine rv_item hit x.2.2 hn hx fun h' hit' hs' => ?_
    have e2 : ((items.size - 1 - i : Nat) : Int) - 1 = (items.size : Int) - 1 - ((i + 1 : Nat) : Int) := by omega
    rw [e2] at hit'
    exact hQ _ h' _ hx ⟨hi, hit', isTup_at x.2.2 fun o eo => (hs'.2 l hne).trans eo⟩ fun b o hb eo => hs'.extBut b o (fun h => hb (by simp [h])) eo
  done := fun s Q E x hQ => by
    have e : (items.size : Int) - 1 - (items.size : Int) = -1 := by omega
    have hit := x.2.1
    rw [e] at hit
    exact rv_end hh hit fun h' he' => hQ h' s.toks fun b o hb eo => he' b o (fun h => hb (by simp [h])) eo
  self := fun _ _ _ _ x hQ => rv_self x.2.1 hQ
theorem letGo_rev {target : Expr} {I l : Addr} {i : Int} {v : Value} {Q' : Unit → Shared → Prop} (hit : IsRv s.heap I l i) (h : Q' () s) : wpAny (model prog w) A (letOwnedTupleGo target (.ref I) v) Q' E s := by
  obtain ⟨o, ho, hc, hd⟩ := hit
  unfold letOwnedTupleGo
  cases target <;> first
    | exact wpAny_pure h
    | (cases v <;> first
        | exact wpAny_pure h
        | (refine wpAny_bind (wpAny_load ho ?_)
           rw [hc, hd]
           exact wpAny_pure h))
theorem call_rvN {t : Addr} {items : Array Value} {k : Nat} {h₀ : Heap} {L : Addr} {m : Str → Option Value} {news : List (Addr × Obj)} {Q : Value → Shared → Prop} (F : Fr h₀ L s.heap m) (N : News h₀ L s.heap news) (hm : (t, ({ cls := .type "tuple", data := .seq items k } : Obj)) ∈ news) (hn : items.size ≤ 1000)
    (h : ∀ D h' tk, Fr h₀ L h' m → News h₀ L h' ((D, rvObj t ((items.size : Int) - 1)) :: news) → (∀ p ∈ news, p.1 < D) → Q (.ref D) { s with heap := h', toks := tk }) : wpAny (model prog w) A (call (.type "reversed") [.ref t]) Q E s :=
  call_rv (News.isTup N hm) hn (h _ _ _ (F.push _) (News.push F N _) fun p hp => Heap.lt_size (N p hp).1)
end
end Mine
end

section
open PySem PySem.W PyProof.Rows PySem.Spec PySem.Calls
namespace Mine
theorem Cover.append {os os' : List (Int × Int × Bool)} {k k' : Nat} {ps ps' : List (Int × Int)} (h : Cover os k ps) (hk : k' = k + os.length) (h' : Cover os' k' ps') : Cover (os ++ os') k (ps ++ ps') := by
  intro j r n hj b h0 h1
  by_cases hl : j < os.length
  · rw [List.getElem?_append_left hl] at hj
    exact List.mem_append_left _ (h j r n hj b h0 h1)
  · rw [List.getElem?_append_right (by omega)] at hj
    have := h' (j - os.length) r n hj b h0 h1
    rw [show k' + (j - os.length) = k + j by omega] at this
    exact List.mem_append_right _ this
theorem Cover.nil {k : Nat} {ps : List (Int × Int)} : Cover [] k ps := fun j r n hj => by simp at hj

theorem add_listN {prog : Program} {w : World} {A : Around} {E : Value → Shared → Prop} {s : Shared} {h₀ : Heap} {L a b : Addr} {m : Str → Option Value} {news : List (Addr × Obj)} {vs ws : List Value} {k j : Nat} {Q : Value → Shared → Prop}
    (F : Fr h₀ L s.heap m) (N : News h₀ L s.heap news) (ha : (a, listOf vs.toArray k) ∈ news) (hb : (b, listOf ws.toArray j) ∈ news) (hz : vs.length + ws.length ≤ sizeLine)
    (h : ∀ D h', Fr h₀ L h' m → News h₀ L h' ((D, listOf (vs ++ ws).toArray 0) :: news) → (∀ p ∈ news, p.1 < D) → Q (.ref D) { s with heap := h' }) : wpAny (model prog w) A (binaryOp .Add (.ref a) (.ref b)) Q E s :=
  kmk_add_lit F N (News.isList N ha) (News.isList N hb) rfl (by simpa using h) (by simpa using hz)

section
variable {prog : Program} {w : World} {A : Around} {s : Shared} {env : Env} {h₀ : Heap} {E : Value → Shared → Prop} {Q : Flow → Shared → Prop} {body : List Stmt} {m₀ : Str → Option Value}
/-- the word of the loop over a join's parts -/
def CatInv (pn bn : Str) (m₀ : Str → Option Value) (q rest : List (Addr × Obj)) (SN : Addr) (svs : List Value) (c : Bool) (parts : List Tr) (i : Nat) (m : Str → Option Value) (nx : List (Addr × Obj)) : Prop :=
  ∃ B vs k ps svs' sk tl, m bn = some (.ref B) ∧ (∀ z, z ≠ pn → z ≠ bn → m z = m₀ z) ∧ nx = (B, listOf vs.toArray k) :: (q ++ (SN, listOf (svs ++ svs').toArray sk) :: (tl ++ rest)) ∧
    Each (PairIn tl) vs ps ∧ Each (OccIn tl) svs' ((parts.take i).flatMap fun t => t.occs c) ∧ (ps.length : Int) = ((parts.take i).map Tr.width).sum ∧ Cover ((parts.take i).flatMap fun t => t.occs c) svs.length ps ∧
    Apart (q ++ (SN, listOf #[] 0) :: rest) ((B, listOf #[] 0) :: tl) ∧ OwnOff tl [B]

theorem flatMap_snoc {α β : Type} {l : List α} {i : Nat} {a : α} (f : α → List β) (h : l[i]? = some a) : (l.take (i + 1)).flatMap f = (l.take i).flatMap f ++ f a := by
  rw [List.take_add_one, h, List.flatMap_append]; simp
theorem sum_snoc {α : Type} {l : List α} {i : Nat} {a : α} (f : α → Int) (h : l[i]? = some a) : ((l.take (i + 1)).map f).sum = ((l.take i).map f).sum + f a := by
  rw [List.take_add_one, h, List.map_append, List.sum_append]; simp

theorem cat_loop {I t : Addr} {pn bn : Str} {q rest : List (Addr × Obj)} {SN B₀ : Addr} {svs vals : List Value} {c : Bool} (parts : List Tr) {sk₀ k₀ : Nat} {px : Pos}
    (hh : A.handled = none) (hpn : env.kindOf pn = some .local) (hsc : (env.scope.kind == .class || (env.scope.kind == .module && env.locals != env.globals)) = false) (hne : pn ≠ bn)
    (F : Fr h₀ env.locals s.heap m₀) (N : News h₀ env.locals s.heap ((I, rvObj t ((vals.length : Int) - 1)) :: (B₀, listOf #[] 0) :: (q ++ (SN, listOf svs.toArray sk₀) :: rest)))
    (hb₀ : m₀ bn = some (.ref B₀)) (hoI : OwnOff ((B₀, listOf #[] 0) :: (q ++ (SN, listOf svs.toArray sk₀) :: rest)) [I]) (hA₀ : Apart (q ++ (SN, listOf #[] 0) :: rest) [(B₀, listOf #[] 0)])
    (ht : (t, ({ cls := .type "tuple", data := .seq vals.toArray k₀ } : Obj)) ∈ rest) (hn : vals.length ≤ 1000) (hp : Each (fun v t => TrIn rest v t) vals.reverse parts)
    (turn : ∀ i t v B vs k ps svs' sk tl h tk I oI, parts[i]? = some t → TrIn rest v t → Each (PairIn tl) vs ps → Each (OccIn tl) svs' ((parts.take i).flatMap fun t => t.occs c) → (ps.length : Int) = ((parts.take i).map Tr.width).sum →
      Cover ((parts.take i).flatMap fun t => t.occs c) svs.length ps → Apart (q ++ (SN, listOf #[] 0) :: rest) ((B, listOf #[] 0) :: tl) → OwnOff tl [B] → OwnOff ((B, listOf vs.toArray k) :: (q ++ (SN, listOf (svs ++ svs').toArray sk) :: (tl ++ rest))) [I] →
      Fr h₀ env.locals h (fun y => if y = pn then some v else if y = bn then some (.ref B) else m₀ y) → News h₀ env.locals h ((I, oI) :: (B, listOf vs.toArray k) :: (q ++ (SN, listOf (svs ++ svs').toArray sk) :: (tl ++ rest))) →
      wpAny (model prog w) A (execs body env) (TurnAt h₀ env.locals I oI (CatInv pn bn m₀ q rest SN svs c parts (i + 1)) { s with heap := h, toks := tk } Q) E { s with heap := h, toks := tk })
    (done : ∀ B vs k ps svs' sk tl h tk (u : Option Value), Each (PairIn tl) vs ps → Each (OccIn tl) svs' (parts.flatMap fun t => t.occs c) → (ps.length : Int) = (parts.map Tr.width).sum → Cover (parts.flatMap fun t => t.occs c) svs.length ps →
      Apart (q ++ (SN, listOf #[] 0) :: rest) ((B, listOf #[] 0) :: tl) → OwnOff tl [B] →
      Fr h₀ env.locals h (fun y => if y = pn then u else if y = bn then some (.ref B) else m₀ y) → News h₀ env.locals h ((B, listOf vs.toArray k) :: (q ++ (SN, listOf (svs ++ svs').toArray sk) :: (tl ++ rest))) → Q .next { s with heap := h, toks := tk }) :
    wpAny (model prog w) A (pyIter (.ref I)) (fun it s₂ => LoopI prog w A h₀ env (.Name pn px) body Q E it s₂) E s := by
  have NI := N _ (.head _)
  have hrv : IsRv s.heap I t ((vals.length : Int) - 1) := ⟨_, NI.1, rfl, rfl⟩
  have htm : (t, ({ cls := .type "tuple", data := .seq vals.toArray k₀ } : Obj)) ∈ (B₀, listOf #[] 0) :: (q ++ (SN, listOf svs.toArray sk₀) :: rest) := .tail _ (List.mem_append_right _ (.tail _ ht))
  have htI : t ≠ I := hoI _ htm I (.head _)
  refine rv_self hrv ?_
  have hlen : parts.length = vals.length := by rw [← hp.length, List.length_reverse]
  have W := walks_rev (prog := prog) (w := w) hh I t htI vals.toArray (by rw [List.size_toArray]; exact hn)
  refine ⟨I, [I, t], vals.toArray.size, _, _, m₀, _, CatInv pn bn m₀ q rest SN svs c parts, rfl, W, NI.2.1, NI.2.2, ?_, ?_, ⟨Nat.zero_le _, by rw [List.size_toArray]; simpa using hrv, News.isTup N (.tail _ htm)⟩, F, (fun p hp => N p (.tail _ hp)), (fun p hp => hoI p hp I (.head _)),
    ⟨B₀, [], 0, [], [], sk₀, [], hb₀, fun _ _ _ => rfl, by simp, trivial, trivial, rfl, Cover.nil, hA₀, fun _ h => nomatch h⟩, fun i s' v Q' st hQ' => letGo_rev st.2.1 hQ', ?_, ?_⟩
  · rintro i h ⟨_, ⟨o, e, _⟩, _⟩; exact ⟨o, e⟩
  · rintro i h h' o nw m' ⟨h1, h2, h3⟩ e e' _ N' ⟨B, vs, k, ps, svs', sk, tl, _, _, rfl, _⟩
    refine ⟨h1, ?_, News.isTup N' (.tail _ (List.mem_append_right _ (.tail _ (List.mem_append_right _ ht))))⟩
    obtain ⟨o', q', r⟩ := h2
    rw [e] at q'; cases q'; exact ⟨o, e', r⟩
  · rintro i v m₁ nx h tk oI hi hP ⟨B, vs, k, ps, svs', sk, tl, hb, hm, rfl, hE, hO, hl, hC, hA, hoB⟩ ho F₁ N₁
    have hP' : vals.reverse[i]? = some v := by
      rw [List.size_toArray] at hi hP
      rw [List.getElem?_reverse hi]
      simpa using hP
    obtain ⟨t', ht', hT⟩ := hp.get hP'
    refine wpAny_assign_Name (wpAny_storeName_local hpn F₁.ns (fun h₂ hn₂ hs₂ => ?_) hsc)
    have F₂ := F₁.set hn₂ hs₂
    have N₂ := N₁.set hs₂
    have e : (fun y => if y = pn then some v else m₁ y) = fun y => if y = pn then some v else if y = bn then some (.ref B) else m₀ y := by
      funext y
      by_cases h1 : y = pn
      · simp [h1]
      · simp only [if_neg h1]
        by_cases h2 : y = bn
        · subst h2; simp [hb]
        · simp only [if_neg h2]; exact hm y h1 h2
    rw [e] at F₂
    exact wpAny_mono (turn i t' v B vs k ps svs' sk tl h₂ _ I oI ht' hT hE hO hl hC hA hoB ho F₂ N₂) (fun f s₃ h₃ => by cases f <;> exact h₃) fun _ _ x => x
  · rintro h tk m₁ nx F₁ N₁ ⟨B, vs, k, ps, svs', sk, tl, hb, hm, rfl, hE, hO, hl, hC, hA, hoB⟩
    rw [List.size_toArray, ← hlen, List.take_length] at hO hl hC
    have e : m₁ = fun y => if y = pn then m₁ pn else if y = bn then some (.ref B) else m₀ y := by
      funext y
      by_cases h1 : y = pn
      · simp [h1]
      · simp only [if_neg h1]
        by_cases h2 : y = bn
        · subst h2; simp [hb]
        · simp only [if_neg h2]; exact hm y h1 h2
    rw [e] at F₁
    exact done B vs k ps svs' sk tl h tk _ hE hO hl hC hA hoB F₁ N₁
/-- the end of a turn: the parts' bits joined -/
theorem cat_end {pn bn : Str} {q rest : List (Addr × Obj)} {SN B D I : Addr} {svs : List Value} {c : Bool} {parts : List Tr} {i : Nat} {t : Tr} {vs : List Value} {ps bs : List (Int × Int)} {svs' : List Value} {tl tl' : List (Addr × Obj)} {bvs sws : List Value} {sk : Nat} {oI : Obj} {s₁ : Shared} {h' : Heap} {tk : Nat} {m' : Str → Option Value} {all : List (Addr × Obj)}
    (hi : parts[i]? = some t) (hE : Each (PairIn tl) vs ps) (hO : Each (OccIn tl) svs' ((parts.take i).flatMap fun t => t.occs c)) (hl : (ps.length : Int) = ((parts.take i).map Tr.width).sum) (hC : Cover ((parts.take i).flatMap fun t => t.occs c) svs.length ps)
    (hA : Apart (q ++ (SN, listOf #[] 0) :: rest) ((B, listOf #[] 0) :: tl))
    (F : Fr h₀ env.locals h' m') (N : News h₀ env.locals h' all) (hs : ∀ p ∈ (I, oI) :: (D, listOf (vs ++ bvs).toArray 0) :: (q ++ (SN, listOf (svs ++ (svs' ++ sws)).toArray sk) :: (tl' ++ (tl ++ rest))), p ∈ all)
    (hm1 : m' bn = some (.ref D)) (hm2 : ∀ z, z ≠ pn → z ≠ bn → m' z = m₀ z)
    (hP : Each (PairIn tl') bvs bs) (hO' : Each (OccIn tl') sws (t.occs c)) (hw : (bs.length : Int) = t.width) (hC' : Cover (t.occs c) (svs ++ svs').length bs)
    (hA' : ∀ x ∈ q ++ (SN, listOf #[] 0) :: (tl ++ rest), ∀ p ∈ tl', @Ne Nat x.1 p.1) (hD : ∀ p ∈ q ++ (SN, listOf #[] 0) :: (tl' ++ (tl ++ rest)), @LT.lt Nat _ p.1 D) (hDI : @Ne Nat I D) (hqI : OwnOff (q ++ (SN, listOf #[] 0) :: (tl ++ rest)) [I]) (hIt : ∀ p ∈ tl', @Ne Nat I p.1) :
    TurnAt h₀ env.locals I oI (CatInv pn bn m₀ q rest SN svs c parts (i + 1)) s₁ Q .next { s₁ with heap := h', toks := tk } := by
  refine TurnAt.mk ((D, listOf (vs ++ bvs).toArray 0) :: (q ++ (SN, listOf (svs ++ (svs' ++ sws)).toArray sk) :: ((tl' ++ tl) ++ rest))) F N (hs _ (.head _)) (fun p hp => hs p (.tail _ (by rw [List.append_assoc] at hp; exact hp))) ?_
    ⟨D, vs ++ bvs, 0, ps ++ bs, svs' ++ sws, sk, tl' ++ tl, hm1, hm2, rfl, (hE.mono (PairIn.mono fun _ h => List.mem_append_right _ h)).append (hP.mono (PairIn.mono fun _ h => List.mem_append_left _ h)), ?_, ?_, ?_, ?_, ?_⟩
  · intro p hp b hb e
    rw [List.mem_singleton.mp hb] at e
    rcases List.mem_cons.mp hp with rfl | hp
    · exact hDI e.symm
    · rcases List.mem_append.mp hp with hp | hp
      · exact hqI p (List.mem_append_left _ hp) I (.head _) e
      · rcases List.mem_cons.mp hp with rfl | hp
        · exact hqI (SN, _) (List.mem_append_right _ (.head _)) I (.head _) e
        · rcases List.mem_append.mp hp with hp | hp
          · rcases List.mem_append.mp hp with hp | hp
            · exact hIt p hp e.symm
            · exact hqI p (List.mem_append_right _ (.tail _ (List.mem_append_left _ hp))) I (.head _) e
          · exact hqI p (List.mem_append_right _ (.tail _ (List.mem_append_right _ hp))) I (.head _) e
  · rw [flatMap_snoc _ hi]
    exact (hO.mono (OccIn.mono fun _ h => List.mem_append_right _ h)).append (hO'.mono (OccIn.mono fun _ h => List.mem_append_left _ h))
  · rw [sum_snoc _ hi, List.length_append]; omega
  · rw [flatMap_snoc _ hi]
    refine hC.append ?_ hC'
    rw [List.length_append, hO.length]
  · intro x hx p hp
    have hx' : x ∈ q ++ (SN, listOf #[] 0) :: (tl ++ rest) := by
      rcases List.mem_append.mp hx with hx | hx
      · exact List.mem_append_left _ hx
      · rcases List.mem_cons.mp hx with hx | hx
        · exact List.mem_append_right _ (hx ▸ .head _)
        · exact List.mem_append_right _ (.tail _ (List.mem_append_right _ hx))
    rcases List.mem_cons.mp hp with rfl | hp
    · refine Nat.ne_of_lt (hD x ?_)
      rcases List.mem_append.mp hx' with hx | hx
      · exact List.mem_append_left _ hx
      · rcases List.mem_cons.mp hx with hx | hx
        · exact List.mem_append_right _ (hx ▸ .head _)
        · exact List.mem_append_right _ (.tail _ (List.mem_append_right _ hx))
    · rcases List.mem_append.mp hp with hp | hp
      · exact hA' x hx' p hp
      · exact hA x hx p (.tail _ hp)
  · intro p hp b hb e
    rw [List.mem_singleton.mp hb] at e
    refine Nat.ne_of_lt (hD p ?_) e
    rcases List.mem_append.mp hp with hp | hp
    · exact List.mem_append_right _ (.tail _ (List.mem_append_left _ hp))
    · exact List.mem_append_right _ (.tail _ (List.mem_append_right _ (List.mem_append_left _ hp)))
end
theorem allLt_off {D : Addr} {l : List (Addr × Obj)} (h : AllLt D l) : OwnOff l [D] := fun p hp b hb e => Nat.ne_of_lt (allLt_mem h p hp) (by rw [e]; exact List.mem_singleton.mp hb)
theorem allLt_apart {D : Addr} {o : Obj} {l : List (Addr × Obj)} (h : AllLt D l) : Apart l [(D, o)] := fun q hq p hp => by rw [List.mem_singleton.mp hp]; exact Nat.ne_of_lt (allLt_mem h q hq)
theorem catPre {cell SN B I : Addr} {oc o1 o2 oB oB' oB2 oI : Obj} {tl rest : List (Addr × Obj)} (hA : Apart ([(cell, oc)] ++ (SN, o1) :: rest) ((B, oB) :: tl)) (ho : OwnOff ((B, oB2) :: ([(cell, oc)] ++ (SN, o2) :: (tl ++ rest))) [I]) (hcs : @Ne Nat cell SN) :
    OwnOff [(I, oI), (B, oB'), (cell, oc)] [SN] ∧ OwnOff tl [SN] := by
  have hS : (SN, o1) ∈ [(cell, oc)] ++ (SN, o1) :: rest := .tail _ (.head _)
  refine ⟨?_, fun p hp b hb e => ?_⟩
  · intro p hp b hb e
    rw [List.mem_singleton.mp hb] at e
    rcases List.mem_cons.mp hp with rfl | hp
    · exact ho (SN, o2) (.tail _ (.tail _ (.head _))) I (.head _) e.symm
    · rcases List.mem_cons.mp hp with rfl | hp
      · exact hA _ hS _ (.head _) e.symm
      · rw [List.mem_singleton.mp hp] at e; exact hcs e
  · rw [List.mem_singleton.mp hb] at e
    exact hA _ hS p (.tail _ hp) e.symm
section
variable {env : Env} {h₀ : Heap} {Q : Flow → Shared → Prop} {m₀ : Str → Option Value}
theorem cat_end2 {pn bn : Str} {rest : List (Addr × Obj)} {cell SN B D b I : Addr} {oc : Obj} {svs : List Value} {c : Bool} {parts : List Tr} {i : Nat} {t : Tr} {vs : List Value} {k bk sk₁ : Nat} {ps bs : List (Int × Int)} {svs' : List Value} {tl tl' : List (Addr × Obj)} {bvs sws : List Value} {sk : Nat} {oI : Obj} {s₁ : Shared} {h' : Heap} {tk : Nat} {m' : Str → Option Value}
    (hi : parts[i]? = some t) (hE : Each (PairIn tl) vs ps) (hO : Each (OccIn tl) svs' ((parts.take i).flatMap fun t => t.occs c)) (hl : (ps.length : Int) = ((parts.take i).map Tr.width).sum) (hC : Cover ((parts.take i).flatMap fun t => t.occs c) svs.length ps)
    (hA : Apart ([(cell, oc)] ++ (SN, listOf #[] 0) :: rest) ((B, listOf #[] 0) :: tl))
    (F : Fr h₀ env.locals h' m') (N : News h₀ env.locals h' ((D, listOf (vs ++ bvs).toArray 0) :: (b, listOf bvs.toArray bk) :: ([(I, oI), (B, listOf vs.toArray k), (cell, oc)] ++ (SN, listOf (svs ++ svs' ++ sws).toArray sk) :: (tl' ++ (tl ++ rest)))))
    (hm1 : m' bn = some (.ref D)) (hm2 : ∀ z, z ≠ pn → z ≠ bn → m' z = m₀ z)
    (hP : Each (PairIn tl') bvs bs) (hO' : Each (OccIn tl') sws (t.occs c)) (hw : (bs.length : Int) = t.width) (hC' : Cover (t.occs c) (svs ++ svs').length bs)
    (hA' : Apart ([(I, oI), (B, listOf vs.toArray k), (cell, oc)] ++ (SN, listOf (svs ++ svs').toArray sk₁) :: (tl ++ rest)) ((b, listOf bvs.toArray bk) :: tl'))
    (l1 : AllLt D ([(I, oI), (B, listOf vs.toArray k), (cell, oc)] ++ (SN, listOf (svs ++ svs' ++ sws).toArray sk) :: (tl' ++ (tl ++ rest))))
    (ho : OwnOff ((B, listOf vs.toArray k) :: ([(cell, oc)] ++ (SN, listOf (svs ++ svs').toArray sk₁) :: (tl ++ rest))) [I]) :
    TurnAt h₀ env.locals I oI (CatInv pn bn m₀ [(cell, oc)] rest SN svs c parts (i + 1)) s₁ Q .next { s₁ with heap := h', toks := tk } := by
  have lt := allLt_mem l1
  refine cat_end (sk := sk) hi hE hO hl hC hA F N ?_ hm1 hm2 hP hO' hw hC' ?_ ?_ ?_ ?_ ?_
  · intro p hp
    rw [← List.append_assoc svs] at hp
    simp only [List.mem_cons, List.mem_append, List.cons_append, List.nil_append] at hp ⊢
    rcases hp with h | h | h | h | h | h | h <;> simp only [h, true_or, or_true]
  · intro x hx p hp
    rcases List.mem_cons.mp hx with rfl | hx
    · exact hA' (cell, oc) (.tail _ (.tail _ (.head _))) p (.tail _ hp)
    · rcases List.mem_cons.mp hx with rfl | hx
      · exact hA' (SN, listOf (svs ++ svs').toArray sk₁) (.tail _ (.tail _ (.tail _ (.head _)))) p (.tail _ hp)
      · exact hA' x (.tail _ (.tail _ (.tail _ (.tail _ hx)))) p (.tail _ hp)
  · intro p hp
    rcases List.mem_cons.mp hp with rfl | hp
    · exact lt (cell, oc) (.tail _ (.tail _ (.head _)))
    · rcases List.mem_cons.mp hp with rfl | hp
      · exact lt (SN, listOf (svs ++ svs' ++ sws).toArray sk) (.tail _ (.tail _ (.tail _ (.head _))))
      · exact lt p (.tail _ (.tail _ (.tail _ (.tail _ hp))))
  · exact Nat.ne_of_lt (lt (I, oI) (.head _))
  · intro p hp
    rcases List.mem_cons.mp hp with rfl | hp
    · exact ho (cell, oc) (.tail _ (.head _))
    · rcases List.mem_cons.mp hp with rfl | hp
      · exact ho (SN, listOf (svs ++ svs').toArray sk₁) (.tail _ (.tail _ (.head _)))
      · exact ho p (.tail _ (.tail _ (.tail _ hp)))
  · exact fun p hp => hA' (I, oI) (.head _) p (.tail _ hp)
theorem cat_apart {cell SN B : Addr} {oc oS oB : Obj} {tl rest : List (Addr × Obj)} (hA : Apart ([(cell, oc)] ++ (SN, listOf #[] 0) :: rest) ((B, listOf #[] 0) :: tl)) : Apart ((SN, oS) :: rest) ((B, oB) :: tl) := by
  intro q hq p hp
  have h : ∀ x : Addr × Obj, x ∈ (cell, oc) :: (SN, listOf #[] 0) :: rest → x.1 = q.1 → @Ne Nat q.1 p.1 := fun x hx e => by
    rcases List.mem_cons.mp hp with rfl | hp
    · rw [← e]; exact hA x hx (B, listOf #[] 0) (.head _)
    · rw [← e]; exact hA x hx p (.tail _ hp)
  rcases List.mem_cons.mp hq with rfl | hq
  · exact h (SN, listOf #[] 0) (.tail _ (.head _)) rfl
  · exact h q (.tail _ (.tail _ hq)) rfl
end
end Mine
end

section
open PySem PySem.W PyProof.Rows PySem.Spec
set_option Elab.async false
namespace Mine
theorem fill6 : PySem.Challenge.rw_sj0034_01 = PySem.Challenge.rw_sj0034_01 ∧ Mine.hd.heap_39 = Mine.hd.heap_39 := by
  k_fill
  exact ⟨rfl, rfl⟩





theorem trace_useP {w : World} {mean : ExcName → Option Value} {mg mb : Str → Option Value} {dp un : Nat} {gd : Option (List Code)} {cn : Str} {cs : Scope} {L a : Addr} {ccd : Value} {cl : List (Str × Addr)} {outer : List Env}
   {A₀ : Around} {base h₀ : Heap} {m : Str → Option Value} {s : Shared} {Q E : Value → Shared → Prop} {t : Tr} (pre : List (Addr × Obj))
   {rest : List (Addr × Obj)} {SN : Addr} {v : Value} {svs : List Value} {sk : Nat} {c : Bool} (H : TraceSpec w mean mg mb t)
   (B : Below A₀ base outer h₀) (F : Fr h₀ L s.heap m) (X : (Mine.hd.heap_39 w.params).In h₀) (N : News h₀ L s.heap (pre ++ (SN, listOf svs.toArray sk) :: rest))
   (T : Top Mine.hd.view_39 (looseW Mine.hd.view_39 []) mean mg mb h₀) (hk : cs.kind = .function)
   (hpre : OwnOff pre [SN]) (hoff : OwnOff rest [SN]) (hT : TrIn rest v t) (hf : t.Fit) (hlen : svs.length + t.leaves ≤ 60)
   (hdp : (dp : Int) ≤ 600 - 10 * t.deep) (hun : (un : Int) ≤ 2000 - 100 * t.deep)
   (ret : ∀ b bvs bk svs' sk' tl bs h' tk', Fr h₀ L h' m → News h₀ L h' ((b, listOf bvs.toArray bk) :: (pre ++ (SN, listOf (svs ++ svs').toArray sk') :: (tl ++ rest))) →
      Apart (pre ++ (SN, listOf svs.toArray sk) :: rest) ((b, listOf bvs.toArray bk) :: tl) → OwnOff tl [b] →
      Each (PairIn tl) bvs bs → Each (OccIn tl) svs' (t.occs c) → (bs.length : Int) = t.width → Cover (t.occs c) svs.length bs → Q (.ref b) { s with heap := h', toks := tk' }) :
   wpAny (model PySem.Challenge.rw_sj0034_01.row.prog w) (ktrTop dp un gd cn cs L a ccd cl outer) (call (.ref (ktn_at% "_law_trace")) [v, .bool c, .ref SN]) Q E s := by
  refine H _ _ _ _ _ _ _ _ _ _ _ _ _ _ _ _ _ (pre ++ rest) SN v svs sk c B F X (news_sub N fun p hp => ?_) T hk (ownOff_app hpre hoff) (hT.mono fun _ h => List.mem_append_right _ h) hf hlen hdp hun ?_
  · simp only [List.mem_cons, List.mem_append] at hp ⊢
    rcases hp with h | h | h <;> simp only [h, true_or, or_true]
  · intro b bvs bk svs' sk' tl bs h' tk' F' N' hA hB hP hO hl hc
    refine ret b bvs bk svs' sk' tl bs h' tk' F' (news_sub N' fun p hp => ?_) (fun q hq p hp => hA q ?_ p hp) hB hP hO hl hc
    · simp only [List.mem_cons, List.mem_append] at hp ⊢
      rcases hp with h | h | h | h | h <;> simp only [h, true_or, or_true]
    · simp only [List.mem_cons, List.mem_append] at hq ⊢
      rcases hq with h | h | h <;> simp only [h, true_or, or_true]

set_option maxRecDepth 100000 in
set_option maxHeartbeats 8000000 in
theorem trace_cat (w : World) (mean : ExcName → Option Value) (mg mb : Str → Option Value) (x : Int) (u z : Tr) (IH1 : TraceSpec w mean mg mb u) (IH2 : TraceSpec w mean mg mb z) : TraceSpec w mean mg mb (.cat x u z) := by
  intro dp un gd cn cs L a ccd cl outer A₀ base h₀ m s Q E rest SN v svs sk c B F X N T hk hoff hT hf hlen hdp hun ret
  cases hT with
  | @cat e p t0 t1 _ v1 v2 _ _ he hp hu hz =>
  refine wpAny_call ?_
  have hroom : dp < recursionLimit := by simp only [recursionLimit]; omega
  have hlu : svs.length + (u.leaves + z.leaves) ≤ 60 := hlen
  have hdu : (dp : Int) ≤ 590 - 10 * u.deep := by simp only [Tr.deep] at hdp; omega
  have huu : (un : Int) ≤ 1900 - 100 * u.deep := by simp only [Tr.deep] at hun; omega
  have hdz : (dp : Int) ≤ 590 - 10 * z.deep := by simp only [Tr.deep] at hdp; omega
  have huz : (un : Int) ≤ 1900 - 100 * z.deep := by simp only [Tr.deep] at hun; omega
  have hwu := hf.2.1.le
  have hwz := hf.2.2.le
  have hpu := hf.2.1.pos
  have hpz := hf.2.2.pos
  have IHp : ∀ (i : Nat) (t : Tr), [z, u][i]? = some t → TraceSpec w mean mg mb t ∧ t.Fit ∧ (dp : Int) ≤ 590 - 10 * t.deep ∧ (un : Int) ≤ 1900 - 100 * t.deep ∧ ((([z, u].take i).flatMap fun t => t.occs c).length + t.leaves ≤ u.leaves + z.leaves) ∧ (([z, u].take i).map Tr.width).sum ≤ 400 ∧ t.width ≤ 400 := by
    intro i t ht
    match i, ht with
    | 0, ht => cases ht; exact ⟨IH2, hf.2.2, hdz, huz, by simp, by simp, by omega⟩
    | 1, ht => cases ht; exact ⟨IH1, hf.2.1, hdu, huu, by simp [Tr.occs_len]; omega, by simp; omega, by omega⟩
    | _ + 2, ht => cases ht
  w_top off
  k_with_none
  k_with "subscriptTail Name Constant ref int" => ((k_here; (refine' item_tupN ?kN ?km ?k0 ?k1 ?kx ?_; (case kN => k_asm); (case km => k_mem); (case k0 => decide); (case k1 => decide); (case kx => first | exact rfl | assumption); k_whole)))
  k_with "eval ListComp" => ((k_here; lcf_look; k_dflt (refine LCg.ListComp_U (F₀ := by k_asm) (by with_unfolding_all rfl) (by decide) (by rfl) (by decide) (by rfl) ?_); k_dflt lcg_toSrc))
  k_with "call builtin:len" => ((k_here; (with_reducible show wpAny _ _ (call (Value.builtin "len") [Value.ref _]) _ _ _); (refine' len_arrN ?kN ?km ?kz ?_; (case kN => k_asm); (case km => k_mem); (case kz => ((try simp only [List.size_toArray, Array.size_push, List.length_append, List.length_cons, List.length_nil]); omega)); k_whole); (try simp only [List.size_toArray, Array.size_push, List.length_append, List.length_cons, List.length_nil])))
  k_with "subscriptTail Subscript" => ((k_here; (with_reducible show wpAny _ _ (subscriptTail _ _ (Value.ref _) (Value.int _ _)) _ _ _); (refine' item_tupN ?kN ?km ?k0 ?k1 ?kx ?_; (case kN => k_asm); (case km => k_mem); (case k0 => decide); (case k1 => decide); (case kx => first | exact rfl | assumption); k_whole)))
  k_with "subscriptTail Name Name ref int" => ((k_here; (refine' item_pairs ?kN ?km ?kE ?kz ?k0 ?k1 ?_; (case kN => k_asm); (case km => k_mem); (case kE => assumption); (case kz => omega); (case k0 => omega); (case k1 => omega)); intro a' p' hp' hP'))
  k_with "subscriptTail Name UnaryOp" => ((k_here; (with_reducible show wpAny _ _ (subscriptTail _ _ (Value.ref _) (Value.int (-1) _)) _ _ _); (refine' item_pairs_last ?kN ?km ?kE ?kz ?k1 ?_; (case kN => k_asm); (case km => k_mem); (case kE => assumption); (case kz => omega); (case k1 => omega)); intro a' p' hP'))
  k_with "call builtin:list.append" => ((k_here; (refine' append_K ?kF ?kN ?kU ?_ ?kz; (case kF => k_asm); (case kN => k_asm); (case kU => k_upd); (case kz => ((try simp only [List.size_toArray, Array.size_push]); rw [sizeLine_eq]; omega)); intro h' F' N'; (try simp only [List.push_toArray] at N'); (try k_sweep))))
  k_with "k_all" => (exact ownOff_ne (by assumption))
  k_with "call type:reversed" => ((k_here; (refine' call_rvN ?kF ?kN ?km ?kn ?_; (case kF => k_asm); (case kN => k_asm); (case km => k_mem); (case kn => exact Nat.le_of_ble_eq_true rfl)); intro D' h' tk' F' N' l1; (try k_lt l1); (try k_sweep)))
  k_with "binaryOp Add ref ref" => ((k_here; (refine' add_listN ?kF ?kN ?ka ?kb ?kz ?_; (case kF => k_asm); (case kN => k_asm); (case ka => k_mem); (case kb => k_mem); (case kz => (rw [sizeLine_eq]; omega))); intro D' h' F' N' l1; (try k_lt l1); (try k_sweep)))
  k_with "execs cons" => ((rename Fr _ _ _ _ => zF); k_dflt (refine st_to (s := s) zF (by with_reducible rfl) (fun tk => ?_)); (try k_made); (refine wpAny_execs_cons ?_); (try dsimp only))
  k_with "k_ne" => (refine neN ?_; (try dsimp only); first | with_reducible assumption | (refine Ne.symm ?_; with_reducible assumption) | (refine Nat.ne_of_lt ?_; with_reducible assumption) | (refine Nat.ne_of_gt ?_; with_reducible assumption) | k_extra "k_nf")
  k_with "k_nf" => ((rename _ ∧ _ => lX); first | exact Nat.ne_of_gt lX.1 | exact Nat.ne_of_lt lX.1 | exact Nat.ne_of_gt lX.2.1 | exact Nat.ne_of_lt lX.2.1 | exact Nat.ne_of_gt lX.2.2.1 | exact Nat.ne_of_lt lX.2.2.1 | exact Nat.ne_of_gt lX.2.2.2.1 | exact Nat.ne_of_lt lX.2.2.2.1 | exact Nat.ne_of_gt lX.2.2.2.2.1 | exact Nat.ne_of_lt lX.2.2.2.2.1 | exact Nat.ne_of_gt lX.2.2.2.2.2.1 | exact Nat.ne_of_lt lX.2.2.2.2.2.1 | exact Nat.ne_of_gt lX.2.2.2.2.2.2.1 | exact Nat.ne_of_lt lX.2.2.2.2.2.2.1 | exact Nat.ne_of_gt lX.2.2.2.2.2.2.2.1 | exact Nat.ne_of_lt lX.2.2.2.2.2.2.2.1 | exact Nat.ne_of_gt lX.2.2.2.2.2.2.2.2.1 | exact Nat.ne_of_lt lX.2.2.2.2.2.2.2.2.1 | exact Nat.ne_of_gt lX.2.2.2.2.2.2.2.2.2.1 | exact Nat.ne_of_lt lX.2.2.2.2.2.2.2.2.2.1 | exact Nat.ne_of_gt lX.2.2.2.2.2.2.2.2.2.2.1 | exact Nat.ne_of_lt lX.2.2.2.2.2.2.2.2.2.2.1 | exact Nat.ne_of_gt lX.2.2.2.2.2.2.2.2.2.2.2.1 | exact Nat.ne_of_lt lX.2.2.2.2.2.2.2.2.2.2.2.1 | exact Nat.ne_of_gt lX.2 | exact Nat.ne_of_lt lX.2 | exact Nat.ne_of_gt lX.2.2 | exact Nat.ne_of_lt lX.2.2 | exact Nat.ne_of_gt lX.2.2.2 | exact Nat.ne_of_lt lX.2.2.2 | exact Nat.ne_of_gt lX.2.2.2.2 | exact Nat.ne_of_lt lX.2.2.2.2 | exact Nat.ne_of_gt lX.2.2.2.2.2 | exact Nat.ne_of_lt lX.2.2.2.2.2 | exact Nat.ne_of_gt lX.2.2.2.2.2.2 | exact Nat.ne_of_lt lX.2.2.2.2.2.2 | exact Nat.ne_of_gt lX.2.2.2.2.2.2.2 | exact Nat.ne_of_lt lX.2.2.2.2.2.2.2 | exact Nat.ne_of_gt lX.2.2.2.2.2.2.2.2 | exact Nat.ne_of_lt lX.2.2.2.2.2.2.2.2 | exact Nat.ne_of_gt lX.2.2.2.2.2.2.2.2.2 | exact Nat.ne_of_lt lX.2.2.2.2.2.2.2.2.2 | exact Nat.ne_of_gt lX.2.2.2.2.2.2.2.2.2.2 | exact Nat.ne_of_lt lX.2.2.2.2.2.2.2.2.2.2 | exact Nat.ne_of_gt lX.2.2.2.2.2.2.2.2.2.2.2 | exact Nat.ne_of_lt lX.2.2.2.2.2.2.2.2.2.2.2 | exact Ne.symm lX.1 | exact lX.1 | exact Ne.symm lX.2.1 | exact lX.2.1 | exact Ne.symm lX.2.2.1 | exact lX.2.2.1 | exact Ne.symm lX.2.2.2.1 | exact lX.2.2.2.1 | exact Ne.symm lX.2.2.2.2.1 | exact lX.2.2.2.2.1 | exact Ne.symm lX.2.2.2.2.2.1 | exact lX.2.2.2.2.2.1 | exact Ne.symm lX.2.2.2.2.2.2.1 | exact lX.2.2.2.2.2.2.1 | exact Ne.symm lX.2.2.2.2.2.2.2.1 | exact lX.2.2.2.2.2.2.2.1 | exact Ne.symm lX.2.2.2.2.2.2.2.2.1 | exact lX.2.2.2.2.2.2.2.2.1 | exact Ne.symm lX.2.2.2.2.2.2.2.2.2.1 | exact lX.2.2.2.2.2.2.2.2.2.1 | exact Ne.symm lX.2.2.2.2.2.2.2.2.2.2.1 | exact lX.2.2.2.2.2.2.2.2.2.2.1 | exact Ne.symm lX.2.2.2.2.2.2.2.2.2.2.2.1 | exact lX.2.2.2.2.2.2.2.2.2.2.2.1 | (clear lX; k_extra "k_nf"))
  k_with "call ref" => ((have hpr := catPre (oI := oI) (oB' := listOf vs.toArray k) hA ho (by omega)); ((k_dflt (refine trace_useP [(_, _), (_, _), (_, _)] (IHp _ _ ht).1 (by k_asm) (by k_asm) (by k_asm) (by k_asm) (by k_asm) (by first | exact rfl | assumption) hpr.1 (ownOff_app hpr.2 hoff) (hT.mono fun _ h => List.mem_append_right _ h) (IHp _ _ ht).2.1 (by have := (IHp _ _ ht).2.2.2.2.1; have := hO.length; rw [List.length_append]; omega) (by have := (IHp _ _ ht).2.2.1; simp only [depth_deeper]; omega) (by have := (IHp _ _ ht).2.2.2.1; simp only [units_deeper]; omega) (fun b bvs bk sws sk' tl' bs h' tk' F N hA' hB' hP' hO' hw' hC' => ?_))); have hbl := Each.length hP'; have hvl := Each.length hE; have hq1 := (IHp _ _ ht).2.2.2.2.2))
  k_with "exec For Name Call cons nil" => (((rename Fr _ _ _ _ => lF); k_dflt (refine For_IF lF ?_)))
  k_with "pyIter ref" => ((k_dflt (refine cat_loop (q := [(_, _)]) (bn := Str.ofString "bits") (svs := svs) (c := c) [z, u] (by rfl) (by rfl) (by rfl) (by decide) (by k_asm) (by k_asm) (by rfl) ?hoI ?hA0 hp (Nat.le_of_ble_eq_true rfl) ⟨hz, hu, trivial⟩ (fun i t v B vs k ps svs' sk tl h tk I oI ht hT hE hO hl hC hA hoB ho F N => gen_T2 (fun QT hQT => ?_)) (fun B vs k ps svs' sk tl h tk u' hE hO hl hC hA hoB F N => ?_))))
  k_dflt k_enter
  refine gen_L (fun QL EL hQL hEL => ?_)
  k_steps
  all_goals first | (with_reducible refine hQT _ _ ?_) | ((with_reducible refine hQL _ _ ?_); (try dsimp only); k_steps) | skip
  · (rename _ ∧ _ ∧ _ ∧ AllLt _ _ => hl1)
    exact allLt_off hl1
  · (rename _ ∧ _ ∧ _ ∧ AllLt _ _ => hl0)
    clear hl0
    (rename _ ∧ _ ∧ AllLt _ _ => hl1)
    exact allLt_apart hl1
  · (rename _ ∧ AllLt _ _ => hl1)
    exact cat_end2 ht hE hO hl hC hA (by assumption) (by assumption) (if_pos rfl) (fun z h1 h2 => by show (if _ then _ else if _ then _ else if _ then _ else _) = _; rw [if_neg h2, if_neg h1, if_neg h2]) hP' hO' hw' hC' hA' hl1.2 ho
  · (rename News _ _ _ _ => kN)
    exact ret B vs k svs' sk tl ps _ _ (by assumption) (news_sub kN fun p hp => by
      simp only [List.mem_cons, List.mem_append, List.cons_append, List.nil_append] at hp ⊢
      rcases hp with h | h | h | h <;> simp only [h, true_or, or_true]) (cat_apart hA) hoB hE (by simpa [Tr.occs] using hO) (by have := hf.1; simp at hl; simp only [Tr.width]; omega) (by simpa [Tr.occs] using hC)

theorem trace_all (w : World) (mean : ExcName → Option Value) (mg mb : Str → Option Value) : ∀ t : Tr, TraceSpec w mean mg mb t
  | .sig n r => trace_sig w mean mg mb n r
  | .ext x u bo => trace_ext w mean mg mb x u bo (trace_all w mean mg mb u)
  | .slice x u lo => trace_slice w mean mg mb x u lo (trace_all w mean mg mb u)
  | .cat x u z => trace_cat w mean mg mb x u z (trace_all w mean mg mb u) (trace_all w mean mg mb z)
end Mine
end

section
open PySem PySem.W PyProof.Rows PySem.Spec PySem.Calls
set_option maxRecDepth 100000
namespace Mine
open LCg
section
variable {prog : Program} {w : World} {A : Around} {R : Result → Shared → Prop} {s : Shared}

theorem compTurn_nest0 (elt t1 i1 t2 i2 : Expr) (scope : Scope) (pos : Pos) (it acc : Value) (env : Env) :
    compTurn (.ListComp elt [⟨t1, i1, [], 0⟩, ⟨t2, i2, [], 0⟩] scope pos) 0 it acc env = (do
      standAt i1.pos
      match ← pyNext it with
      | none => pure (.done .next)
      | some v =>
        letOwnedTupleGo t1 it v
        assign t1 env v
        let x ← eval i2 env
        standAt i2.pos
        let x ← foldedSetIterable i2 env x
        let _ ← runOwn (.compStart (.ListComp elt [⟨t1, i1, [], 0⟩, ⟨t2, i2, [], 0⟩] scope pos) 1 (← holding [x] (pyIter x)) acc env) env
        again (.compLoop (.ListComp elt [⟨t1, i1, [], 0⟩, ⟨t2, i2, [], 0⟩] scope pos) 0 it acc env)) := by rfl
theorem compTurn_nest1 (elt t1 i1 t2 i2 : Expr) (scope : Scope) (pos : Pos) (it acc : Value) (env : Env) :
    compTurn (.ListComp elt [⟨t1, i1, [], 0⟩, ⟨t2, i2, [], 0⟩] scope pos) 1 it acc env = (do
      standAt i2.pos
      match ← pyNext it with
      | none => pure (.done .next)
      | some v =>
        letOwnedTupleGo t2 it v
        assign t2 env v
        (do let _ ← call (.builtin "list.append") [acc, ← eval elt env])
        again (.compLoop (.ListComp elt [⟨t1, i1, [], 0⟩, ⟨t2, i2, [], 0⟩] scope pos) 1 it acc env)) := by rfl

theorem codeAny_nest0 {elt i1 t2 i2 : Expr} {x : Str} {px : Pos} {scope : Scope} {pos : Pos} {it acc : Value} {env : Env} (I : Nat → Shared → Prop)
    (turn : ∀ n s, I n s → wpAny (model prog w) A (pyNext it) (fun r s₁ => match r with
      | none => R (.ok .next) s₁
      | some v => wpAny (model prog w) A (assign (.Name x px) env v) (fun _ s₂ => wpAny (model prog w) A (eval i2 env) (fun xv s₃ => wpAny (model prog w) A (pyIter xv) (fun it2 s₄ =>
          codeAny (model prog w) A (.compStart (.ListComp elt [⟨.Name x px, i1, [], 0⟩, ⟨t2, i2, [], 0⟩] scope pos) 1 it2 acc env) (fun r s' => match r with | .ok _ => ∃ m, m < n ∧ I m s' | .error e => cameBackBy (model prog w) A env (notedBy (model prog w) A env fun e s' => R (.error e) s') e s') s₄)
          (notedBy (model prog w) A env fun e s' => R (.error e) s') s₃)
          (notedBy (model prog w) A env fun e s' => R (.error e) s') s₂) (notedBy (model prog w) A env fun e s' => R (.error e) s') s₁) (notedBy (model prog w) A env fun e s' => R (.error e) s') s)
    (n : Nat) (h : I n s) (hs : ∀ x, foldedSetIterable i2 env x = pure x) :
    codeAny (model prog w) A (.compLoop (.ListComp elt [⟨.Name x px, i1, [], 0⟩, ⟨t2, i2, [], 0⟩] scope pos) 0 it acc env) R s := by
  refine codeAny_loop rfl I (fun n s hI => ?_) n h
  show wpAny _ A ((compTurn (.ListComp elt [⟨.Name x px, i1, [], 0⟩, ⟨t2, i2, [], 0⟩] scope pos) 0 it acc env).onRaise (fun x => do noteFrame x env; theTreesLotGoes x)) _ _ s
  refine wpAny_noted ?_
  rw [compTurn_nest0]
  refine wpAny_bind (wpAny_standAt (wpAny_bind (wpAny_mono (turn n s hI) (fun r s₁ h₁ => ?_) fun _ _ h' => h')))
  cases r with
  | none => exact wpAny_pure h₁
  | some v =>
    refine wpAny_bind (wpAny_of_eq (a := ()) rfl ?_)
    refine wpAny_bind (wpAny_mono h₁ (fun _ s₂ h₂ => wpAny_bind (wpAny_mono h₂ (fun xv s₃ h₃ => ?_) fun _ _ h' => h')) fun _ _ h' => h')
    refine wpAny_bind (wpAny_standAt (wpAny_bind (wpAny_of_eq (hs xv) (wpAny_bind (wpAny_holding (wpAny_mono h₃ (fun it2 s₄ h₄ => ?_) fun _ _ h' => h'))))))
    refine wpAny_bind (wpAny_runOwn (codeAny_mono h₄ fun r s' hr => ?_))
    cases r with
    | ok f => exact wpAny_pure ⟨rfl, hr⟩
    | error e => exact hr

theorem codeAny_nest1 {elt t1 i1 i2 : Expr} {y : Str} {py : Pos} {scope : Scope} {pos : Pos} {it acc : Value} {env : Env} (I : Nat → Shared → Prop)
    (turn : ∀ n s, I n s → wpAny (model prog w) A (pyNext it) (fun r s₁ => match r with
      | none => R (.ok .next) s₁
      | some v => wpAny (model prog w) A (assign (.Name y py) env v) (fun _ s₂ => wpAny (model prog w) A (eval elt env) (fun x s₃ =>
          wpAny (model prog w) A (call (.builtin "list.append") [acc, x]) (fun _ s₄ => ∃ m, m < n ∧ I m s₄) (notedBy (model prog w) A env fun e s' => R (.error e) s') s₃)
          (notedBy (model prog w) A env fun e s' => R (.error e) s') s₂) (notedBy (model prog w) A env fun e s' => R (.error e) s') s₁) (notedBy (model prog w) A env fun e s' => R (.error e) s') s)
    (n : Nat) (h : I n s) :
    codeAny (model prog w) A (.compLoop (.ListComp elt [⟨t1, i1, [], 0⟩, ⟨.Name y py, i2, [], 0⟩] scope pos) 1 it acc env) R s := by
  refine codeAny_loop rfl I (fun n s hI => ?_) n h
  show wpAny _ A ((compTurn (.ListComp elt [⟨t1, i1, [], 0⟩, ⟨.Name y py, i2, [], 0⟩] scope pos) 1 it acc env).onRaise (fun x => do noteFrame x env; theTreesLotGoes x)) _ _ s
  refine wpAny_noted ?_
  rw [compTurn_nest1]
  refine wpAny_bind (wpAny_standAt (wpAny_bind (wpAny_mono (turn n s hI) (fun r s₁ h₁ => ?_) fun _ _ h' => h')))
  cases r with
  | none => exact wpAny_pure h₁
  | some v =>
    refine wpAny_bind (wpAny_of_eq (a := ()) rfl ?_)
    exact wpAny_bind (wpAny_mono h₁ (fun _ s₂ h₂ => wpAny_bind (wpAny_bind (wpAny_mono h₂ (fun x s₃ h₃ => wpAny_bind (wpAny_mono h₃
      (fun _ s₄ h₄ => wpAny_pure (wpAny_pure ⟨rfl, h₄⟩)) fun _ _ h' => h')) fun _ _ h' => h'))) fun _ _ h' => h')

theorem codeAny_start1 {elt t1 i1 t2 i2 : Expr} {scope : Scope} {pos : Pos} {it acc : Value} {env : Env}
    (h0 : codeAny (model prog w) A (.compLoop (.ListComp elt [⟨t1, i1, [], 0⟩, ⟨t2, i2, [], 0⟩] scope pos) 1 it acc env) R s)
    (h : wpAny (model prog w) A (pyIter it) (fun it' s' => codeAny (model prog w) A (.compLoop (.ListComp elt [⟨t1, i1, [], 0⟩, ⟨t2, i2, [], 0⟩] scope pos) 1 it' acc env) R s')
      (notedBy (model prog w) A env fun x s' => R (.error x) s') s) :
    codeAny (model prog w) A (.compStart (.ListComp elt [⟨t1, i1, [], 0⟩, ⟨t2, i2, [], 0⟩] scope pos) 1 it acc env) R s := by
  refine codeAny_of_tree ?_
  show wpAny _ _ ((compStart (.ListComp elt [⟨t1, i1, [], 0⟩, ⟨t2, i2, [], 0⟩] scope pos) 1 it acc env).onRaise (fun x => do noteFrame x env; standAt theWindowsPlace)) _ _ s
  refine wpAny_notedAt ?_
  unfold compStart
  show wpAny _ _ (ask >>= _) _ _ s
  refine wpAny_bind (wpAny_askSetting (wpAny_ite ?_))
  split
  · first
      | exact wpAny_bind (wpAny_pure (wpAny_pure (And.intro rfl h0)))
      | exact wpAny_pure (And.intro rfl h0)
  · first
      | exact wpAny_bind (wpAny_rule (wpAny_bind (wpAny_standAt (wpAny_bind (wpAny_mono h (fun it' s' h' => wpAny_pure (And.intro rfl h')) fun _ _ x => x)))))
      | (refine wpAny_bind (wpAny_rule ?_); show wpAny _ _ (standAt i2.pos >>= _) _ _ s; exact wpAny_bind (wpAny_standAt (wpAny_bind (wpAny_mono h (fun it' s' h' => wpAny_pure (And.intro rfl h')) fun _ _ x => x))))
end
end Mine
namespace Mine
open LCg
section
variable {prog : Program} {w : World} {A : Around} {E : Value → Shared → Prop} {s : Shared} {h₀ : Heap} {L : Addr} {m : Str → Option Value} {env : Env}

theorem IntsAre.append' : ∀ {vs us : List Value} {ns ms : List Int}, IntsAre vs ns → IntsAre us ms → IntsAre (vs ++ us) (ns ++ ms)
  | _, _, _, _, .nil, h => h
  | _, _, _, _, .cons n t r, h => .cons n t (IntsAre.append' r h)

/-- the inner loop of a nested comprehension: the list's ints go to the end of the made list -/
theorem nest_inner {t1 i1 i2 : Expr} {y : Str} {py py' : Pos} {scope : Scope} {cl : List (Str × Addr)} {pos : Pos} {R : Result → Shared → Prop} {C D l : Addr} {m₂ : Str → Option Value} {us ys : List Value} {ku kd : Nat} {ks : List Int} {news : List (Addr × Obj)}
    (hh : A.handled = none) (hkind : scope.kind = .function) (hy : scope.names.lookup y = some .local) (hyd : (y == ("__debug__" : Str)) = false)
    (hns : s.heap.Ns C m₂) (hC₀ : h₀.get? C = none) (hCL : C ≠ L) (F : Fr h₀ L s.heap m) (N : News h₀ L s.heap ((l, listOf us.toArray ku) :: (D, listOf ys.toArray kd) :: news)) (hi : IntsAre us ks) (hsz : ys.length + us.length ≤ sizeLine)
    (hlC : l ≠ C) (hlD : l ≠ D) (hDC : D ≠ C) (hoC : ∀ p ∈ news, p.1 ≠ C) (hoD : ∀ p ∈ news, p.1 ≠ D)
    (hR : ∀ h tk m₃ ws kw, Fr h₀ L h m → News h₀ L h ((D, listOf (ys ++ ws).toArray kw) :: news) → h.Ns C m₃ → IntsAre ws ks → R (.ok .next) { s with heap := h, toks := tk }) :
    wpAny (model prog w) A (pyIter (.ref l)) (fun it2 s₄ => codeAny (model prog w) A (.compStart (.ListComp (.Name y py') [⟨t1, i1, [], 0⟩, ⟨.Name y py, i2, [], 0⟩] scope pos) 1 it2 (.ref D) (compEnvC scope cl C env)) R s₄) E s := by
  have hl : s.heap.IsList l us.toArray := News.isList N (.head _)
  have hlt : l < s.heap.objs.size := Heap.lt_size (N _ (.head _)).1
  refine wpAny_pyIter_list hl ?_
  have hu : ∀ b o, s.heap.get? b = some o → (s.heap.push { cls := .type "list_iterator", data := .fields #[.ref l, .int 0 0] }).get? b = some o := fun b o e => Heap.get?_push_of_some _ e
  have W := Walks.list (prog := prog) (w := w) hh s.heap.objs.size l (Nat.ne_of_lt hlt) us.toArray
  have hIne : ∀ b o, s.heap.get? b = some o → b ≠ s.heap.objs.size := fun b o e => Nat.ne_of_lt (Heap.lt_size e)
  have hI₀ : h₀.get? s.heap.objs.size = none := next_is_new F
  have hIL : s.heap.objs.size ≠ L := Ne.symm (Nat.ne_of_lt F.ns.lt)
  have hCs : C ≠ s.heap.objs.size := by obtain ⟨o, es, ep, ho, _⟩ := hns; exact hIne _ _ ho
  have hDs : D ≠ s.heap.objs.size := hIne _ _ (N _ (.tail _ (.head _))).1
  have hDf := N (D, listOf ys.toArray kd) (.tail _ (.head _))
  have hst : (s.heap.push { cls := .type "list_iterator", data := .fields #[.ref l, .int 0 0] }).IsListIter s.heap.objs.size l 0 ∧ (s.heap.push { cls := .type "list_iterator", data := .fields #[.ref l, .int 0 0] }).IsList l us.toArray :=
    ⟨⟨_, Heap.get?_push_size _ rfl, rfl, rfl⟩, hl.push _⟩
  have loop : ∀ s₃ : Shared, s₃ = { s with heap := s.heap.push { cls := .type "list_iterator", data := .fields #[.ref l, .int 0 0] } } →
      codeAny (model prog w) A (.compLoop (.ListComp (.Name y py') [⟨t1, i1, [], 0⟩, ⟨.Name y py, i2, [], 0⟩] scope pos) 1 (.ref s.heap.objs.size) (.ref D) (compEnvC scope cl C env)) R s₃ := by
    rintro s₃ rfl
    refine codeAny_nest1
      (fun k s' => ∃ h' tk i ws kw m₃, s' = { s with heap := h', toks := tk } ∧ i ≤ us.length ∧ k = us.length + 1 - i ∧ (h'.IsListIter s.heap.objs.size l i ∧ h'.IsList l us.toArray) ∧ Fr h₀ L h' m ∧ h'.Ns C m₃ ∧
        News h₀ L h' ((D, listOf (ys ++ ws).toArray kw) :: news) ∧ IntsAre ws (ks.take i)) ?_ (us.length + 1)
      ⟨_, s.toks, 0, [], kd, m₂, rfl, Nat.zero_le _, rfl, hst, F.keeps hu, hns.at' fun o e => hu _ o e, fun p hp => by rw [List.append_nil] at hp; exact N.grown hu p (.tail _ hp), by simpa using IntsAre.nil⟩
    rintro k s' ⟨h', tk, i, ws, kw, m₃, rfl, hle, rfl, hst', F', hn', N', hws⟩
    by_cases hlt' : i < us.length
    · refine W.item i _ _ _ (by simpa using hlt') hst' fun v h₂ tk₂ hPv hst₂ hk₂ => ?_
      have hv : us[i]? = some v := by simpa using hPv
      have hk₂' : ∀ b o, b ≠ s.heap.objs.size → h'.get? b = some o → h₂.get? b = some o := fun b o hb e => hk₂ b o (by simpa using hb) e
      have F₂ : Fr h₀ L h₂ m := fr_but F' hk₂ (Ne.symm hIL) hI₀
      have N₂ : News h₀ L h₂ ((D, listOf (ys ++ ws).toArray kw) :: news) := fun p hp => by
        refine ⟨hk₂' _ _ ?_ (N' p hp).1, (N' p hp).2⟩
        rcases List.mem_cons.mp hp with rfl | hp
        · exact hDs
        · exact hIne _ _ (N p (.tail _ (.tail _ hp))).1
      refine wpAny_assign_Name (wpAny_storeName_local (lookup_relabel_local hy) (hn'.at' fun o e => hk₂' _ o hCs e) (fun h₃ hn₃ hs₃ => ?_) (by simp [compEnvC, relabel, hkind]))
      have hst₃ : h₃.IsListIter s.heap.objs.size l (i + 1) ∧ h₃.IsList l us.toArray := W.frame _ _ _ hst₂ fun b hb o e => hs₃.extBut b o (fun q => by
        have q' : b = C := q
        rcases List.mem_cons.mp hb with hb | hb
        · exact hCs (q' ▸ hb)
        · exact hlC ((List.mem_singleton.mp hb).symm.trans q')) e
      have F₃ : Fr h₀ L h₃ m := F₂.change hs₃ hCL hC₀
      have N₃ : News h₀ L h₃ ((D, listOf (ys ++ ws).toArray kw) :: news) := fun p hp => by
        refine ⟨hs₃.extBut _ _ ?_ (N₂ p hp).1, (N₂ p hp).2⟩
        rcases List.mem_cons.mp hp with rfl | hp
        · exact hDC
        · exact hoC p hp
      refine wpAny_Name (wpAny_loadName_local (by simp [compEnvC, relabel, hkind]) (lookup_relabel_local hy) hn₃ (v := v) (by simp) ?_) hyd
      have zD := (N₃ (D, listOf (ys ++ ws).toArray kw) (.head _)).1
      have hwl : ws.length ≤ i := by rw [hws.length, List.length_take]; omega
      refine append_at (hsz := by rw [List.size_toArray, List.length_append]; omega) zD fun h₄ hs₄ hD₄ => ?_
      obtain ⟨n, tk', rfl, hks⟩ : ∃ n t, v = .int n t ∧ ks[i]? = some n := by
        obtain ⟨n, t, e1, e2⟩ := hi.at i v hv
        exact ⟨n, t, e1, e2⟩
      refine ⟨us.length + 1 - (i + 1), by omega, h₄, _, i + 1, ws ++ [.int n tk'], kw + 1, _, rfl, hlt', rfl, W.frame _ _ _ hst₃ fun b hb o e => hs₄.extBut b o (fun q => ?_) e, F₃.change hs₄ hDf.2.1 hDf.2.2, hn₃.sameBut hs₄ hDC.symm, fun p hp => ?_, ?_⟩
      · rcases List.mem_cons.mp hb with hb | hb
        · exact hDs (q.symm.trans hb)
        · exact hlD ((List.mem_singleton.mp hb).symm.trans q)
      · rcases List.mem_cons.mp hp with rfl | hp
        · refine ⟨hD₄.trans ?_, hDf.2⟩
          rw [List.push_toArray, List.append_assoc]
        · exact ⟨hs₄.extBut _ _ (hoD p hp) (N₃ p (.tail _ hp)).1, (N₃ p (.tail _ hp)).2⟩
      · rw [List.take_add_one, hks]
        exact IntsAre.append' hws (.cons n tk' .nil)
    · obtain rfl : i = us.length := Nat.le_antisymm hle (Nat.not_lt.mp hlt')
      rw [show us.length = us.toArray.size by simp] at hst'
      refine W.done _ _ _ hst' fun h₂ tk₂ hk₂ => ?_
      have hk₂' : ∀ b o, b ≠ s.heap.objs.size → h'.get? b = some o → h₂.get? b = some o := fun b o hb e => hk₂ b o (by simpa using hb) e
      have F₂ : Fr h₀ L h₂ m := fr_but F' hk₂ (Ne.symm hIL) hI₀
      rw [hi.length, List.take_length] at hws
      refine hR h₂ tk₂ m₃ ws kw F₂ (fun p hp => ?_) (hn'.at' fun o e => hk₂' _ o hCs e) hws
      refine ⟨hk₂' _ _ ?_ (N' p hp).1, (N' p hp).2⟩
      rcases List.mem_cons.mp hp with rfl | hp
      · exact hDs
      · exact hIne _ _ (N p (.tail _ (.tail _ hp))).1
  exact codeAny_start1 (loop _ rfl) (W.self 0 _ _ _ hst (loop _ rfl))
end
end Mine

namespace Mine
open LCg
section
variable {prog : Program} {w : World} {A : Around} {E : Value → Shared → Prop} {s : Shared} {h₀ : Heap} {L : Addr} {m : Str → Option Value} {env : Env}
/-- what stands behind the source of a comprehension with two loops -/
def NestSrc (prog : Program) (w : World) (A : Around) (h₀ : Heap) (L : Addr) (m : Str → Option Value) (env : Env) (i2 : Expr) (x : Str) (scope : Scope) (cl : List (Str × Addr)) (Q : Value → Shared → Prop) (xv : Value) (s₁ : Shared) : Prop :=
  ∃ (t : Addr) (vals : List Value) (k : Nat) (news : List (Addr × Obj)) (outs : List (List Int)), xv = .ref t ∧ A.handled = none ∧ Fr h₀ L s₁.heap m ∧ News h₀ L s₁.heap news ∧ (t, ({ cls := .type "tuple", data := .seq (List.toArray vals) k } : Obj)) ∈ news ∧ outs.length = vals.length ∧ outs.flatten.length ≤ 1000 ∧
    (∀ (i : Nat) (v : Value) (ks : List Int) I oI C oC D oD m₂ h tk (E' : Value → Shared → Prop), vals[i]? = some v → outs[i]? = some ks → NsObj oC m₂ → m₂ x = some v → Fr h₀ L h m → News h₀ L h ((I, oI) :: (C, oC) :: (D, oD) :: news) → Off3 I C D news → ((@Ne Nat I C) ∧ (@Ne Nat I D) ∧ (@Ne Nat C D)) →
      wpAny (model prog w) A (eval i2 (compEnvC scope cl C env)) (fun xv s' => ∃ (h' : Heap) (tk' : Nat) (l : Addr) (us : List Value) (ku : Nat), xv = .ref l ∧ s' = { s₁ with heap := h', toks := tk' } ∧ Fr h₀ L h' m ∧ News h₀ L h' ((l, listOf (List.toArray us) ku) :: (I, oI) :: (C, oC) :: (D, oD) :: news) ∧ @Ne Nat l I ∧ @Ne Nat l C ∧ @Ne Nat l D ∧ IntsAre us ks) E' { s₁ with heap := h, toks := tk }) ∧
    (∀ (D : Addr) (ys : List Value) (kd : Nat) (h : Heap) (tk : Nat), IntsAre ys outs.flatten → Fr h₀ L h m → News h₀ L h ((D, listOf (List.toArray ys) kd) :: news) → (∀ p ∈ news, @LT.lt Nat _ p.1 D) → Q (.ref D) { s₁ with heap := h, toks := tk })

theorem flatten_snoc {α : Type} {l : List (List α)} {i : Nat} {a : List α} (h : l[i]? = some a) : (l.take (i + 1)).flatten = (l.take i).flatten ++ a := by
  rw [List.take_add_one, h, List.flatten_append]; simp
theorem flatten_le {α : Type} : ∀ (l : List (List α)) (i : Nat), (l.take i).flatten.length ≤ l.flatten.length
  | [], i => by simp
  | a :: r, 0 => by simp
  | a :: r, i + 1 => by have := flatten_le r i; simp only [List.take_succ_cons, List.flatten_cons, List.length_append]; omega

theorem nest_comp {x y : Str} {px py py' : Pos} {i1 i2 : Expr} {scope : Scope} {cl : List (Str × Addr)} {pos : Pos} {Q : Value → Shared → Prop} (_F₀ : Fr h₀ L s.heap m)
    (hclos : closureFor scope env = pure cl) (hcell : ∀ y ∈ scope.names, y.2 ≠ .cell) (hkind : scope.kind = .function)
    (hnames : ∀ y ∈ scope.names, y.2 = .local → scope.names.lookup y.1 = some .local) (hx : scope.names.lookup x = some .local) (hy : scope.names.lookup y = some .local) (hyd : (y == ("__debug__" : Str)) = false)
    (h : wpAny (model prog w) A (eval i1 env) (NestSrc prog w A h₀ L m env i2 x scope cl Q) E s)
    (hs : ∀ x, foldedSetIterable i1 env x = pure x) (hs2 : ∀ cenv x, foldedSetIterable i2 cenv x = pure x) :
    wpAny (model prog w) A (eval (.ListComp (.Name y py') [⟨.Name x px, i1, [], 0⟩, ⟨.Name y py, i2, [], 0⟩] scope pos) env) Q E s := by
  rw [eval_ListComp]
  refine wpAny_comprehension_free (use := none) rfl hs hclos hkind hnames (wpAny_mono h (fun xv s₁ h₁ => ?_) fun _ _ e => e)
  obtain ⟨t, vals, kt, news, outs, rfl, hh, F, N, ht, hol, hof, step, fin⟩ := h₁
  have hT : s₁.heap.IsTuple t vals.toArray := ⟨_, (N _ ht).1, rfl, kt, rfl⟩
  have htl : t < s₁.heap.objs.size := Heap.lt_size (N _ ht).1
  refine wpAny_pyIter_tuple hT ?_
  have up : ∀ b o, s₁.heap.get? b = some o → (s₁.heap.push { cls := .type "tuple_iterator", data := .fields #[.ref t, .int 0 0] }).get? b = some o := fun b o e => Heap.get?_push_of_some _ e
  have W := Walks.tuple (prog := prog) (w := w) hh s₁.heap.objs.size t (Nat.ne_of_lt htl) vals.toArray
  have hst0 : (s₁.heap.push { cls := .type "tuple_iterator", data := .fields #[.ref t, .int 0 0] }).IsTupleIter s₁.heap.objs.size t 0 ∧ (s₁.heap.push { cls := .type "tuple_iterator", data := .fields #[.ref t, .int 0 0] }).IsTuple t vals.toArray :=
    ⟨⟨_, Heap.get?_push_size _ rfl, rfl, rfl⟩, hT.at fun o e => up _ o e⟩
  have F2 : Fr h₀ L (s₁.heap.push { cls := .type "tuple_iterator", data := .fields #[.ref t, .int 0 0] }) m := F.keeps up
  have N2 : News h₀ L (s₁.heap.push { cls := .type "tuple_iterator", data := .fields #[.ref t, .int 0 0] }) news := N.grown up
  have hsize : (s₁.heap.push { cls := .type "tuple_iterator", data := .fields #[.ref t, .int 0 0] }).objs.size = s₁.heap.objs.size + 1 := by rw [Heap.size_push]
  have hI0 : h₀.get? s₁.heap.objs.size = none := next_is_new F
  have hIL : s₁.heap.objs.size ≠ L := Ne.symm (Nat.ne_of_lt F.ns.lt)
  generalize s₁.heap.push { cls := .type "tuple_iterator", data := .fields #[.ref t, .int 0 0] } = H1 at hst0 F2 N2 hsize ⊢
  generalize hIa : s₁.heap.objs.size = I at *
  refine wpAny_newObj_type (wpAny_newFunctionEnv hcell (by intro y hy; simp at hy) (fun h₁ hns₁ hsb₁ => ?_) hkind)
  dsimp only at hns₁ hsb₁ ⊢
  generalize hH2 : H1.push { cls := .type "list", dict := none, data := .seq ([] : List Value).toArray } = H2 at hns₁ hsb₁ ⊢
  have hC : H2.objs.size = H1.objs.size + 1 := by rw [← hH2, Heap.size_push]
  have old : ∀ b o, H1.get? b = some o → h₁.get? b = some o := fun b o e => hsb₁.extBut b o (by have := Heap.lt_size e; rw [hC]; exact Nat.ne_of_lt (Nat.lt_succ_of_lt this)) (Heap.get?_push_of_some _ (hH2 ▸ Heap.get?_push_of_some _ e))
  have hDC : H1.objs.size ≠ H2.objs.size := by rw [hC]; exact Nat.ne_of_lt (Nat.lt_succ_self _)
  have hacc : h₁.get? H1.objs.size = some (listOf ([] : List Value).toArray 0) := hsb₁.extBut _ _ hDC (Heap.get?_push_of_some _ (hH2 ▸ Heap.get?_push_size _ rfl))
  have below : ∀ p ∈ news, @LT.lt Nat _ p.1 I := fun p hp => hIa ▸ Heap.lt_size (N p hp).1
  have fresh₀ : ∀ a, H1.objs.size ≤ a → h₀.get? a = none := fun a ha => by
    cases e : h₀.get? a with
    | none => rfl
    | some o' => exact absurd (Heap.lt_size (F2.keep a o' e)) (Nat.not_lt.mpr ha)
  have hD₀ : h₀.get? H1.objs.size = none := fresh₀ _ (Nat.le_refl _)
  have hC₀ : h₀.get? H2.objs.size = none := fresh₀ _ (by rw [hC]; exact Nat.le_succ _)
  have hLlt : L < H1.objs.size := F2.ns.lt
  have hDL : H1.objs.size ≠ L := Ne.symm (Nat.ne_of_lt hLlt)
  have hCL : H2.objs.size ≠ L := Ne.symm (Nat.ne_of_lt (by rw [hC]; exact Nat.lt_succ_of_lt hLlt))
  have hID : I ≠ H1.objs.size := by rw [hsize]; exact Nat.ne_of_lt (Nat.lt_succ_self _)
  have hIC : I ≠ H2.objs.size := by rw [hC, hsize]; exact Nat.ne_of_lt (Nat.lt_succ_of_lt (Nat.lt_succ_self _))
  have hoD : ∀ p ∈ news, @LT.lt Nat _ p.1 H1.objs.size := fun p hp => by have := below p hp; rw [hsize]; exact Nat.lt_succ_of_lt this
  have hoC : ∀ p ∈ news, @LT.lt Nat _ p.1 H2.objs.size := fun p hp => by have := hoD p hp; rw [hC]; exact Nat.lt_succ_of_lt this
  have offN : Off3 I H2.objs.size H1.objs.size news := Off3.of fun p hp => ⟨Nat.ne_of_lt (below p hp), Nat.ne_of_lt (hoC p hp), Nat.ne_of_lt (hoD p hp)⟩
  generalize hDa : H1.objs.size = D at *
  generalize hCa : H2.objs.size = C at *
  have htI : t ≠ I := Nat.ne_of_lt (below _ ht)
  have htC : t ≠ C := Nat.ne_of_lt (hoC _ ht)
  have htD : t ≠ D := Nat.ne_of_lt (hoD _ ht)
  have hst₁ : h₁.IsTupleIter I t 0 ∧ h₁.IsTuple t vals.toArray := ⟨hst0.1.at fun o e => old _ o e, hst0.2.at fun o e => old _ o e⟩
  have loop : ∀ s₃ : Shared, (∃ tk, s₃ = { s₁ with heap := h₁, toks := tk }) →
      codeAny (model prog w) A (.compLoop (.ListComp (.Name y py') [⟨.Name x px, i1, [], 0⟩, ⟨.Name y py, i2, [], 0⟩] scope pos) 0 (.ref I) (.ref D) (compEnvC scope cl C env)) (compPost (model prog w) A E none Q (.ref D) C) s₃ := by
    rintro s₃ ⟨tk₃, rfl⟩
    refine codeAny_nest0
      (fun k s' => ∃ h' tk i ys kd m₃, s' = { s₁ with heap := h', toks := tk } ∧ i ≤ vals.length ∧ k = vals.length + 1 - i ∧ (h'.IsTupleIter I t i ∧ h'.IsTuple t vals.toArray) ∧ Fr h₀ L h' m ∧ h'.Ns C m₃ ∧
        News h₀ L h' ((D, listOf (List.toArray ys) kd) :: news) ∧ IntsAre ys (outs.take i).flatten) ?_ (vals.length + 1)
      ⟨_, tk₃, 0, [], 0, _, rfl, Nat.zero_le _, rfl, hst₁, F2.keeps old, hns₁, fun p hp => ?_, by simpa using IntsAre.nil⟩ (fun x => hs2 _ x)
    · rintro k s' ⟨h', tk, i, ys, kd, m₃, rfl, hle, rfl, hst', F', hn', N', hys⟩
      by_cases hlt : i < vals.length
      · refine W.item i _ _ _ (by simpa using hlt) hst' fun v h₂ tk₂ hPv hst₂ hk₂ => ?_
        have hv : vals[i]? = some v := by simpa using hPv
        obtain ⟨ks, hks⟩ : ∃ ks, outs[i]? = some ks := ⟨outs[i]'(by omega), List.getElem?_eq_getElem _⟩
        have hk₂' : ∀ b o, b ≠ I → h'.get? b = some o → h₂.get? b = some o := fun b o hb e => hk₂ b o (by simpa using hb) e
        have F₂ : Fr h₀ L h₂ m := fr_but F' hk₂ (Ne.symm hIL) hI0
        have N₂ : News h₀ L h₂ ((D, listOf (List.toArray ys) kd) :: news) := fun p hp => by
          refine ⟨hk₂' _ _ ?_ (N' p hp).1, (N' p hp).2⟩
          rcases List.mem_cons.mp hp with rfl | hp
          · exact Ne.symm hID
          · exact Nat.ne_of_lt (below p hp)
        refine wpAny_assign_Name (wpAny_storeName_local (lookup_relabel_local hx) (hn'.at' fun o e => hk₂' _ o (Ne.symm hIC) e) (fun h₃ hn₃ hs₃ => ?_) (by simp [compEnvC, relabel, hkind]))
        have hst₃ : h₃.IsTupleIter I t (i + 1) ∧ h₃.IsTuple t vals.toArray := ⟨hst₂.1.at fun o e => hs₃.extBut _ _ hIC e, hst₂.2.at fun o e => hs₃.extBut _ _ htC e⟩
        have F₃ : Fr h₀ L h₃ m := F₂.change hs₃ hCL hC₀
        have N₃ : News h₀ L h₃ ((D, listOf (List.toArray ys) kd) :: news) := fun p hp => by
          refine ⟨hs₃.extBut _ _ ?_ (N₂ p hp).1, (N₂ p hp).2⟩
          rcases List.mem_cons.mp hp with rfl | hp
          · exact hDC
          · exact Nat.ne_of_lt (hoC p hp)
        obtain ⟨oI, heI, hoI⟩ := hst₃.1
        obtain ⟨oC, heC, hoCo⟩ := ns_obj hn₃
        have N₄ : News h₀ L h₃ ((I, oI) :: (C, oC) :: (D, listOf (List.toArray ys) kd) :: news) := fun p hp => by
          rcases List.mem_cons.mp hp with rfl | hp
          · exact ⟨heI, hIL, hI0⟩
          · rcases List.mem_cons.mp hp with rfl | hp
            · exact ⟨heC, hCL, hC₀⟩
            · exact N₃ p hp
        refine wpAny_mono (step i v ks I oI C oC D _ _ h₃ _ _ hv hks hoCo (by simp) F₃ N₄ offN ⟨hIC, hID, Ne.symm hDC⟩) (fun xv s₄ h₄ => ?_) fun _ _ e => e
        obtain ⟨h₄, tk₄, l, us, ku, rfl, rfl, F₄, N₅, hlI, hlC, hlD, hus⟩ := h₄
        have zI := (N₅ (I, oI) (.tail _ (.head _))).1
        have zC := (N₅ (C, oC) (.tail _ (.tail _ (.head _)))).1
        have hbnd : ys.length + us.length ≤ sizeLine := by
          have h1 := hys.length
          have h2 := hus.length
          have h3 := flatten_le outs (i + 1)
          rw [flatten_snoc hks, List.length_append] at h3
          rw [sizeLine_eq]; omega
        refine nest_inner (y := y) (ku := ku) (kd := kd) (news := (I, oI) :: news) hh hkind hy hyd (hoCo.ns zC) hC₀ hCL F₄ (fun p hp => N₅ p ?_) hus hbnd hlC hlD hDC ?_ ?_ ?_
        · simp only [List.mem_cons] at hp ⊢
          rcases hp with h | h | h | h <;> simp only [h, true_or, or_true]
        · intro p hp
          rcases List.mem_cons.mp hp with rfl | hp
          · exact hIC
          · exact Nat.ne_of_lt (hoC p hp)
        · intro p hp
          rcases List.mem_cons.mp hp with rfl | hp
          · exact hID
          · exact Nat.ne_of_lt (hoD p hp)
        · intro h₅ tk₅ m₅ ws kw F₅ N₆ hn₅ hws
          refine ⟨vals.length + 1 - (i + 1), by omega, h₅, tk₅, i + 1, ys ++ ws, kw, m₅, rfl, hlt, rfl, ⟨⟨oI, (N₆ _ (.tail _ (.head _))).1, hoI⟩, ⟨_, (N₆ _ (.tail _ (.tail _ ht))).1, rfl, kt, rfl⟩⟩, F₅, hn₅, fun p hp => N₆ p ?_, ?_⟩
          · rcases List.mem_cons.mp hp with rfl | hp
            · exact .head _
            · exact .tail _ (.tail _ hp)
          · rw [flatten_snoc hks]
            exact IntsAre.append' hys hws
      · obtain rfl : i = vals.length := Nat.le_antisymm hle (Nat.not_lt.mp hlt)
        rw [show vals.length = vals.toArray.size by simp] at hst'
        refine W.done _ _ _ hst' fun h₂ tk₂ hk₂ => ?_
        have hk₂' : ∀ b o, b ≠ I → h'.get? b = some o → h₂.get? b = some o := fun b o hb e => hk₂ b o (by simpa using hb) e
        have F₂ : Fr h₀ L h₂ m := fr_but F' hk₂ (Ne.symm hIL) hI0
        rw [← hol, List.take_length] at hys
        refine ⟨_, hn'.at' fun o e => hk₂' _ o (Ne.symm hIC) e, fun h'' hs'' => fin D ys kd h'' tk₂ hys (F₂.change hs'' hCL hC₀) (fun p hp => ?_) hoD⟩
        have z : h₂.get? p.1 = some p.2 := by
          refine hk₂' _ _ ?_ (N' p hp).1
          rcases List.mem_cons.mp hp with rfl | hp
          · exact Ne.symm hID
          · exact Nat.ne_of_lt (below p hp)
        refine ⟨hs''.extBut _ _ ?_ z, (N' p hp).2⟩
        rcases List.mem_cons.mp hp with rfl | hp
        · exact hDC
        · exact Nat.ne_of_lt (hoC p hp)
    · rcases List.mem_cons.mp hp with rfl | hp
      · exact ⟨hacc, hDL, hD₀⟩
      · exact ⟨old _ _ (N2 p hp).1, (N2 p hp).2⟩
  exact codeAny_compStart_list (loop _ ⟨_, rfl⟩) (W.self 0 _ _ _ hst₁ (loop _ ⟨_, rfl⟩))
end
end Mine
end

section
open PySem PySem.W PyProof.Rows PySem.Spec
set_option Elab.async false
namespace Mine
theorem Tr.keys_len : ∀ t : Tr, t.keys.length ≤ t.leaves
  | .sig _ _ => Nat.le_refl _
  | .ext w e _ => by simp only [Tr.keys, Tr.leaves]; split; exact e.keys_len; exact Nat.zero_le _
  | .slice w e lo => by simp only [Tr.keys, Tr.leaves]; split; exact e.keys_len; exact Nat.zero_le _
  | .cat _ x y => by have := x.keys_len; have := y.keys_len; simp only [Tr.keys, Tr.leaves, List.length_append]; omega
theorem fill7 : PySem.Challenge.rw_sj0034_01 = PySem.Challenge.rw_sj0034_01 ∧ Mine.hd.heap_39 = Mine.hd.heap_39 := by
  k_fill
  exact ⟨rfl, rfl⟩

theorem allLt_of {d : Addr} : ∀ {l : List (Addr × Obj)}, (∀ p ∈ l, @LT.lt Nat _ p.1 d) → AllLt d l
  | [], _ => trivial
  | p :: r, h => ⟨h p (.head _), allLt_of fun q hq => h q (.tail _ hq)⟩

def KeysSpec (w : World) (mean : ExcName → Option Value) (mg mb : Str → Option Value) (t : Tr) : Prop :=
  ∀ (dp un : Nat) (gd : Option (List Code)) (cn : Str) (cs : Scope) (L a : Addr) (ccd : Value) (cl : List (Str × Addr)) (outer : List Env)
   (A₀ : Around) (base h₀ : Heap) (m : Str → Option Value) (s : Shared) (Q E : Value → Shared → Prop)
   (news : List (Addr × Obj)) (v : Value)
   (_B : Below A₀ base outer h₀) (_F : Fr h₀ L s.heap m) (_X : (Mine.hd.heap_39 w.params).In h₀) (_N : News h₀ L s.heap news)
   (_T : Top Mine.hd.view_39 (looseW Mine.hd.view_39 []) mean mg mb h₀) (_hk : cs.kind = .function)
   (_hT : TrIn news v t) (_hf : t.leaves ≤ 60)
   (_hdp : (dp : Int) ≤ 600 - 10 * t.deep) (_hun : (un : Int) ≤ 2000 - 100 * t.deep)
   (_ret : ∀ b bvs bk h' tk', Fr h₀ L h' m → News h₀ L h' ((b, listOf (List.toArray bvs) bk) :: news) → AllLt b news → IntsAre bvs t.keys → Q (.ref b) { s with heap := h', toks := tk' }),
   wpAny (model PySem.Challenge.rw_sj0034_01.row.prog w) (ktrTop dp un gd cn cs L a ccd cl outer) (call (.ref (ktn_at% "whole_keys")) [v]) Q E s


set_option maxRecDepth 100000 in
set_option maxHeartbeats 8000000 in
theorem keys_sig (w : World) (mean : ExcName → Option Value) (mg mb : Str → Option Value) (n r : Int) : KeysSpec w mean mg mb (.sig n r) := by
  intro dp un gd cn cs L a ccd cl outer A₀ base h₀ m s Q E news v B F X N T hk hT hf hdp hun ret
  cases hT with
  | @sig e t0 t1 t2 _ _ he =>
  refine wpAny_call ?_
  have hroom : dp < recursionLimit := by simp only [recursionLimit]; omega
  w_top off
  k_with_none
  k_with "subscriptTail Name Constant ref int" => ((k_here; (refine' item_tupN ?kN ?km ?k0 ?k1 ?kx ?_; (case kN => k_asm); (case km => k_mem); (case k0 => decide); (case k1 => decide); (case kx => first | exact rfl | assumption); k_whole)))
  k_with "subscriptTail Subscript" => ((k_here; (with_reducible show wpAny _ _ (subscriptTail _ _ (Value.ref _) (Value.int _ _)) _ _ _); (refine' item_tupN ?kN ?km ?k0 ?k1 ?kx ?_; (case kN => k_asm); (case km => k_mem); (case k0 => decide); (case k1 => decide); (case kx => first | exact rfl | assumption); k_whole)))
  k_with "execs cons" => ((rename Fr _ _ _ _ => zF); k_dflt (refine st_to (s := s) zF (by with_reducible rfl) (fun tk => ?_)); (try k_made); (refine wpAny_execs_cons ?_); (try dsimp only))
  k_with "k_ne" => (refine neN ?_; (try dsimp only); first | with_reducible assumption | (refine Ne.symm ?_; with_reducible assumption) | (refine Nat.ne_of_lt ?_; with_reducible assumption) | (refine Nat.ne_of_gt ?_; with_reducible assumption) | k_extra "k_nf")
  k_with "k_nf" => ((rename _ ∧ _ => lX); first | exact Nat.ne_of_gt lX.1 | exact Nat.ne_of_lt lX.1 | exact Nat.ne_of_gt lX.2.1 | exact Nat.ne_of_lt lX.2.1 | exact Nat.ne_of_gt lX.2.2.1 | exact Nat.ne_of_lt lX.2.2.1 | exact Nat.ne_of_gt lX.2.2.2.1 | exact Nat.ne_of_lt lX.2.2.2.1 | exact Nat.ne_of_gt lX.2.2.2.2.1 | exact Nat.ne_of_lt lX.2.2.2.2.1 | exact Nat.ne_of_gt lX.2.2.2.2.2.1 | exact Nat.ne_of_lt lX.2.2.2.2.2.1 | exact Nat.ne_of_gt lX.2.2.2.2.2.2.1 | exact Nat.ne_of_lt lX.2.2.2.2.2.2.1 | exact Nat.ne_of_gt lX.2.2.2.2.2.2.2.1 | exact Nat.ne_of_lt lX.2.2.2.2.2.2.2.1 | exact Nat.ne_of_gt lX.2.2.2.2.2.2.2.2.1 | exact Nat.ne_of_lt lX.2.2.2.2.2.2.2.2.1 | exact Nat.ne_of_gt lX.2.2.2.2.2.2.2.2.2.1 | exact Nat.ne_of_lt lX.2.2.2.2.2.2.2.2.2.1 | exact Nat.ne_of_gt lX.2.2.2.2.2.2.2.2.2.2.1 | exact Nat.ne_of_lt lX.2.2.2.2.2.2.2.2.2.2.1 | exact Nat.ne_of_gt lX.2.2.2.2.2.2.2.2.2.2.2.1 | exact Nat.ne_of_lt lX.2.2.2.2.2.2.2.2.2.2.2.1 | exact Nat.ne_of_gt lX.2 | exact Nat.ne_of_lt lX.2 | exact Nat.ne_of_gt lX.2.2 | exact Nat.ne_of_lt lX.2.2 | exact Nat.ne_of_gt lX.2.2.2 | exact Nat.ne_of_lt lX.2.2.2 | exact Nat.ne_of_gt lX.2.2.2.2 | exact Nat.ne_of_lt lX.2.2.2.2 | exact Nat.ne_of_gt lX.2.2.2.2.2 | exact Nat.ne_of_lt lX.2.2.2.2.2 | exact Nat.ne_of_gt lX.2.2.2.2.2.2 | exact Nat.ne_of_lt lX.2.2.2.2.2.2 | exact Nat.ne_of_gt lX.2.2.2.2.2.2.2 | exact Nat.ne_of_lt lX.2.2.2.2.2.2.2 | exact Nat.ne_of_gt lX.2.2.2.2.2.2.2.2 | exact Nat.ne_of_lt lX.2.2.2.2.2.2.2.2 | exact Nat.ne_of_gt lX.2.2.2.2.2.2.2.2.2 | exact Nat.ne_of_lt lX.2.2.2.2.2.2.2.2.2 | exact Nat.ne_of_gt lX.2.2.2.2.2.2.2.2.2.2 | exact Nat.ne_of_lt lX.2.2.2.2.2.2.2.2.2.2 | exact Nat.ne_of_gt lX.2.2.2.2.2.2.2.2.2.2.2 | exact Nat.ne_of_lt lX.2.2.2.2.2.2.2.2.2.2.2 | exact Ne.symm lX.1 | exact lX.1 | exact Ne.symm lX.2.1 | exact lX.2.1 | exact Ne.symm lX.2.2.1 | exact lX.2.2.1 | exact Ne.symm lX.2.2.2.1 | exact lX.2.2.2.1 | exact Ne.symm lX.2.2.2.2.1 | exact lX.2.2.2.2.1 | exact Ne.symm lX.2.2.2.2.2.1 | exact lX.2.2.2.2.2.1 | exact Ne.symm lX.2.2.2.2.2.2.1 | exact lX.2.2.2.2.2.2.1 | exact Ne.symm lX.2.2.2.2.2.2.2.1 | exact lX.2.2.2.2.2.2.2.1 | exact Ne.symm lX.2.2.2.2.2.2.2.2.1 | exact lX.2.2.2.2.2.2.2.2.1 | exact Ne.symm lX.2.2.2.2.2.2.2.2.2.1 | exact lX.2.2.2.2.2.2.2.2.2.1 | exact Ne.symm lX.2.2.2.2.2.2.2.2.2.2.1 | exact lX.2.2.2.2.2.2.2.2.2.2.1 | exact Ne.symm lX.2.2.2.2.2.2.2.2.2.2.2.1 | exact lX.2.2.2.2.2.2.2.2.2.2.2.1 | (clear lX; k_extra "k_nf"))
  k_dflt ktr_enter
  k_steps
  exact ret _ [_] 0 _ _ (by assumption) (by assumption) (allLt_of (by assumption)) (.cons _ _ .nil)

set_option maxRecDepth 100000 in
set_option maxHeartbeats 8000000 in
theorem keys_ext (w : World) (mean : ExcName → Option Value) (mg mb : Str → Option Value) (x : Int) (u : Tr) (bo : Bool) (IH : KeysSpec w mean mg mb u) : KeysSpec w mean mg mb (.ext x u bo) := by
  intro dp un gd cn cs L a ccd cl outer A₀ base h₀ m s Q E news v B F X N T hk hT hf hdp hun ret
  cases hT with
  | @ext e t0 t1 _ v' _ _ he hu =>
  obtain ⟨ea, its, wt, rfl, hm, hw1⟩ := hu.head
  refine wpAny_call ?_
  have hroom : dp < recursionLimit := by simp only [recursionLimit]; omega
  have hdu : (dp : Int) ≤ 590 - 10 * u.deep := by simp only [Tr.deep] at hdp; omega
  have huu : (un : Int) ≤ 1900 - 100 * u.deep := by simp only [Tr.deep] at hun; omega
  w_top off
  k_with_none
  k_with "subscriptTail Name Constant ref int" => ((k_here; (refine' item_tupN ?kN ?km ?k0 ?k1 ?kx ?_; (case kN => k_asm); (case km => k_mem); (case k0 => decide); (case k1 => decide); (case kx => first | exact rfl | assumption); k_whole)))
  k_with "subscriptTail Subscript" => ((k_here; (with_reducible show wpAny _ _ (subscriptTail _ _ (Value.ref _) (Value.int _ _)) _ _ _); (refine' item_tupN ?kN ?km ?k0 ?k1 ?kx ?_; (case kN => k_asm); (case km => k_mem); (case k0 => decide); (case k1 => decide); (case kx => first | exact rfl | assumption); k_whole)))
  k_with "execs cons" => ((rename Fr _ _ _ _ => zF); k_dflt (refine st_to (s := s) zF (by with_reducible rfl) (fun tk => ?_)); (try k_made); (refine wpAny_execs_cons ?_); (try dsimp only))
  k_with "k_ne" => (refine neN ?_; (try dsimp only); first | with_reducible assumption | (refine Ne.symm ?_; with_reducible assumption) | (refine Nat.ne_of_lt ?_; with_reducible assumption) | (refine Nat.ne_of_gt ?_; with_reducible assumption) | k_extra "k_nf")
  k_with "k_nf" => ((rename _ ∧ _ => lX); first | exact Nat.ne_of_gt lX.1 | exact Nat.ne_of_lt lX.1 | exact Nat.ne_of_gt lX.2.1 | exact Nat.ne_of_lt lX.2.1 | exact Nat.ne_of_gt lX.2.2.1 | exact Nat.ne_of_lt lX.2.2.1 | exact Nat.ne_of_gt lX.2.2.2.1 | exact Nat.ne_of_lt lX.2.2.2.1 | exact Nat.ne_of_gt lX.2.2.2.2.1 | exact Nat.ne_of_lt lX.2.2.2.2.1 | exact Nat.ne_of_gt lX.2.2.2.2.2.1 | exact Nat.ne_of_lt lX.2.2.2.2.2.1 | exact Nat.ne_of_gt lX.2.2.2.2.2.2.1 | exact Nat.ne_of_lt lX.2.2.2.2.2.2.1 | exact Nat.ne_of_gt lX.2.2.2.2.2.2.2.1 | exact Nat.ne_of_lt lX.2.2.2.2.2.2.2.1 | exact Nat.ne_of_gt lX.2.2.2.2.2.2.2.2.1 | exact Nat.ne_of_lt lX.2.2.2.2.2.2.2.2.1 | exact Nat.ne_of_gt lX.2.2.2.2.2.2.2.2.2.1 | exact Nat.ne_of_lt lX.2.2.2.2.2.2.2.2.2.1 | exact Nat.ne_of_gt lX.2.2.2.2.2.2.2.2.2.2.1 | exact Nat.ne_of_lt lX.2.2.2.2.2.2.2.2.2.2.1 | exact Nat.ne_of_gt lX.2.2.2.2.2.2.2.2.2.2.2.1 | exact Nat.ne_of_lt lX.2.2.2.2.2.2.2.2.2.2.2.1 | exact Nat.ne_of_gt lX.2 | exact Nat.ne_of_lt lX.2 | exact Nat.ne_of_gt lX.2.2 | exact Nat.ne_of_lt lX.2.2 | exact Nat.ne_of_gt lX.2.2.2 | exact Nat.ne_of_lt lX.2.2.2 | exact Nat.ne_of_gt lX.2.2.2.2 | exact Nat.ne_of_lt lX.2.2.2.2 | exact Nat.ne_of_gt lX.2.2.2.2.2 | exact Nat.ne_of_lt lX.2.2.2.2.2 | exact Nat.ne_of_gt lX.2.2.2.2.2.2 | exact Nat.ne_of_lt lX.2.2.2.2.2.2 | exact Nat.ne_of_gt lX.2.2.2.2.2.2.2 | exact Nat.ne_of_lt lX.2.2.2.2.2.2.2 | exact Nat.ne_of_gt lX.2.2.2.2.2.2.2.2 | exact Nat.ne_of_lt lX.2.2.2.2.2.2.2.2 | exact Nat.ne_of_gt lX.2.2.2.2.2.2.2.2.2 | exact Nat.ne_of_lt lX.2.2.2.2.2.2.2.2.2 | exact Nat.ne_of_gt lX.2.2.2.2.2.2.2.2.2.2 | exact Nat.ne_of_lt lX.2.2.2.2.2.2.2.2.2.2 | exact Nat.ne_of_gt lX.2.2.2.2.2.2.2.2.2.2.2 | exact Nat.ne_of_lt lX.2.2.2.2.2.2.2.2.2.2.2 | exact Ne.symm lX.1 | exact lX.1 | exact Ne.symm lX.2.1 | exact lX.2.1 | exact Ne.symm lX.2.2.1 | exact lX.2.2.1 | exact Ne.symm lX.2.2.2.1 | exact lX.2.2.2.1 | exact Ne.symm lX.2.2.2.2.1 | exact lX.2.2.2.2.1 | exact Ne.symm lX.2.2.2.2.2.1 | exact lX.2.2.2.2.2.1 | exact Ne.symm lX.2.2.2.2.2.2.1 | exact lX.2.2.2.2.2.2.1 | exact Ne.symm lX.2.2.2.2.2.2.2.1 | exact lX.2.2.2.2.2.2.2.1 | exact Ne.symm lX.2.2.2.2.2.2.2.2.1 | exact lX.2.2.2.2.2.2.2.2.1 | exact Ne.symm lX.2.2.2.2.2.2.2.2.2.1 | exact lX.2.2.2.2.2.2.2.2.2.1 | exact Ne.symm lX.2.2.2.2.2.2.2.2.2.2.1 | exact lX.2.2.2.2.2.2.2.2.2.2.1 | exact Ne.symm lX.2.2.2.2.2.2.2.2.2.2.2.1 | exact lX.2.2.2.2.2.2.2.2.2.2.2.1 | (clear lX; k_extra "k_nf"))
  k_with "call ref" => ((k_dflt (refine IH _ _ _ _ _ _ _ _ _ _ _ _ _ _ _ _ _ _ _ (by k_asm) (by k_asm) (by k_asm) (by k_asm) (by k_asm) (by first | exact rfl | assumption) hu hf (by first | exact dpA (k := 1) hdp | (simp only [depth_deeper]; omega)) (by first | exact dpA (k := 3) hun | (simp only [units_deeper]; omega)) (fun b bvs bk h' tk' F N hl hI => ?_))))
  k_dflt ktr_enter
  k_steps
  · rename AllLt _ _ => hl1
    exact ret _ _ _ _ _ (by assumption) (by assumption) hl1 (by simpa [Tr.keys, *] using hI)
  · exact ret _ [] 0 _ _ (by assumption) (by assumption) (allLt_of (by assumption)) (by simpa [Tr.keys, *] using IntsAre.nil)

set_option maxRecDepth 100000 in
set_option maxHeartbeats 8000000 in
theorem keys_slice (w : World) (mean : ExcName → Option Value) (mg mb : Str → Option Value) (x : Int) (u : Tr) (lo : Int) (IH : KeysSpec w mean mg mb u) : KeysSpec w mean mg mb (.slice x u lo) := by
  intro dp un gd cn cs L a ccd cl outer A₀ base h₀ m s Q E news v B F X N T hk hT hf hdp hun ret
  cases hT with
  | @slice e t0 t1 t2 _ _ v' _ he hu =>
  obtain ⟨ea, its, wt, rfl, hm, hw1⟩ := hu.head
  refine wpAny_call ?_
  have hroom : dp < recursionLimit := by simp only [recursionLimit]; omega
  have hdu : (dp : Int) ≤ 590 - 10 * u.deep := by simp only [Tr.deep] at hdp; omega
  have huu : (un : Int) ≤ 1900 - 100 * u.deep := by simp only [Tr.deep] at hun; omega
  w_top off
  k_with_none
  k_with "subscriptTail Name Constant ref int" => ((k_here; (refine' item_tupN ?kN ?km ?k0 ?k1 ?kx ?_; (case kN => k_asm); (case km => k_mem); (case k0 => decide); (case k1 => decide); (case kx => first | exact rfl | assumption); k_whole)))
  k_with "subscriptTail Subscript" => ((k_here; (with_reducible show wpAny _ _ (subscriptTail _ _ (Value.ref _) (Value.int _ _)) _ _ _); (refine' item_tupN ?kN ?km ?k0 ?k1 ?kx ?_; (case kN => k_asm); (case km => k_mem); (case k0 => decide); (case k1 => decide); (case kx => first | exact rfl | assumption); k_whole)))
  k_with "execs cons" => ((rename Fr _ _ _ _ => zF); k_dflt (refine st_to (s := s) zF (by with_reducible rfl) (fun tk => ?_)); (try k_made); (refine wpAny_execs_cons ?_); (try dsimp only))
  k_with "k_ne" => (refine neN ?_; (try dsimp only); first | with_reducible assumption | (refine Ne.symm ?_; with_reducible assumption) | (refine Nat.ne_of_lt ?_; with_reducible assumption) | (refine Nat.ne_of_gt ?_; with_reducible assumption) | k_extra "k_nf")
  k_with "k_nf" => ((rename _ ∧ _ => lX); first | exact Nat.ne_of_gt lX.1 | exact Nat.ne_of_lt lX.1 | exact Nat.ne_of_gt lX.2.1 | exact Nat.ne_of_lt lX.2.1 | exact Nat.ne_of_gt lX.2.2.1 | exact Nat.ne_of_lt lX.2.2.1 | exact Nat.ne_of_gt lX.2.2.2.1 | exact Nat.ne_of_lt lX.2.2.2.1 | exact Nat.ne_of_gt lX.2.2.2.2.1 | exact Nat.ne_of_lt lX.2.2.2.2.1 | exact Nat.ne_of_gt lX.2.2.2.2.2.1 | exact Nat.ne_of_lt lX.2.2.2.2.2.1 | exact Nat.ne_of_gt lX.2.2.2.2.2.2.1 | exact Nat.ne_of_lt lX.2.2.2.2.2.2.1 | exact Nat.ne_of_gt lX.2.2.2.2.2.2.2.1 | exact Nat.ne_of_lt lX.2.2.2.2.2.2.2.1 | exact Nat.ne_of_gt lX.2.2.2.2.2.2.2.2.1 | exact Nat.ne_of_lt lX.2.2.2.2.2.2.2.2.1 | exact Nat.ne_of_gt lX.2.2.2.2.2.2.2.2.2.1 | exact Nat.ne_of_lt lX.2.2.2.2.2.2.2.2.2.1 | exact Nat.ne_of_gt lX.2.2.2.2.2.2.2.2.2.2.1 | exact Nat.ne_of_lt lX.2.2.2.2.2.2.2.2.2.2.1 | exact Nat.ne_of_gt lX.2.2.2.2.2.2.2.2.2.2.2.1 | exact Nat.ne_of_lt lX.2.2.2.2.2.2.2.2.2.2.2.1 | exact Nat.ne_of_gt lX.2 | exact Nat.ne_of_lt lX.2 | exact Nat.ne_of_gt lX.2.2 | exact Nat.ne_of_lt lX.2.2 | exact Nat.ne_of_gt lX.2.2.2 | exact Nat.ne_of_lt lX.2.2.2 | exact Nat.ne_of_gt lX.2.2.2.2 | exact Nat.ne_of_lt lX.2.2.2.2 | exact Nat.ne_of_gt lX.2.2.2.2.2 | exact Nat.ne_of_lt lX.2.2.2.2.2 | exact Nat.ne_of_gt lX.2.2.2.2.2.2 | exact Nat.ne_of_lt lX.2.2.2.2.2.2 | exact Nat.ne_of_gt lX.2.2.2.2.2.2.2 | exact Nat.ne_of_lt lX.2.2.2.2.2.2.2 | exact Nat.ne_of_gt lX.2.2.2.2.2.2.2.2 | exact Nat.ne_of_lt lX.2.2.2.2.2.2.2.2 | exact Nat.ne_of_gt lX.2.2.2.2.2.2.2.2.2 | exact Nat.ne_of_lt lX.2.2.2.2.2.2.2.2.2 | exact Nat.ne_of_gt lX.2.2.2.2.2.2.2.2.2.2 | exact Nat.ne_of_lt lX.2.2.2.2.2.2.2.2.2.2 | exact Nat.ne_of_gt lX.2.2.2.2.2.2.2.2.2.2.2 | exact Nat.ne_of_lt lX.2.2.2.2.2.2.2.2.2.2.2 | exact Ne.symm lX.1 | exact lX.1 | exact Ne.symm lX.2.1 | exact lX.2.1 | exact Ne.symm lX.2.2.1 | exact lX.2.2.1 | exact Ne.symm lX.2.2.2.1 | exact lX.2.2.2.1 | exact Ne.symm lX.2.2.2.2.1 | exact lX.2.2.2.2.1 | exact Ne.symm lX.2.2.2.2.2.1 | exact lX.2.2.2.2.2.1 | exact Ne.symm lX.2.2.2.2.2.2.1 | exact lX.2.2.2.2.2.2.1 | exact Ne.symm lX.2.2.2.2.2.2.2.1 | exact lX.2.2.2.2.2.2.2.1 | exact Ne.symm lX.2.2.2.2.2.2.2.2.1 | exact lX.2.2.2.2.2.2.2.2.1 | exact Ne.symm lX.2.2.2.2.2.2.2.2.2.1 | exact lX.2.2.2.2.2.2.2.2.2.1 | exact Ne.symm lX.2.2.2.2.2.2.2.2.2.2.1 | exact lX.2.2.2.2.2.2.2.2.2.2.1 | exact Ne.symm lX.2.2.2.2.2.2.2.2.2.2.2.1 | exact lX.2.2.2.2.2.2.2.2.2.2.2.1 | (clear lX; k_extra "k_nf"))
  k_with "call ref" => ((k_dflt (refine IH _ _ _ _ _ _ _ _ _ _ _ _ _ _ _ _ _ _ _ (by k_asm) (by k_asm) (by k_asm) (by k_asm) (by k_asm) (by first | exact rfl | assumption) hu hf (by first | exact dpA (k := 1) hdp | (simp only [depth_deeper]; omega)) (by first | exact dpA (k := 3) hun | (simp only [units_deeper]; omega)) (fun b bvs bk h' tk' F N hl hI => ?_))))
  k_dflt ktr_enter
  k_steps
  · exact ret _ _ _ _ _ (by assumption) (by assumption) hl (by rw [Tr.keys, if_pos (And.intro (by assumption) (by assumption))]; exact hI)
  · exact ret _ [] 0 _ _ (by assumption) (by assumption) (allLt_of (by assumption)) (by rw [Tr.keys, if_neg (fun hh => absurd hh.2 (by assumption))]; exact IntsAre.nil)
  · exact ret _ [] 0 _ _ (by assumption) (by assumption) (allLt_of (by assumption)) (by rw [Tr.keys, if_neg (fun hh => absurd hh.1 (by assumption))]; exact IntsAre.nil)

set_option maxRecDepth 100000 in
set_option maxHeartbeats 8000000 in
theorem keys_cat (w : World) (mean : ExcName → Option Value) (mg mb : Str → Option Value) (x : Int) (u z : Tr) (IH1 : KeysSpec w mean mg mb u) (IH2 : KeysSpec w mean mg mb z) : KeysSpec w mean mg mb (.cat x u z) := by
  intro dp un gd cn cs L a ccd cl outer A₀ base h₀ m s Q E news v B F X N T hk hT hf hdp hun ret
  cases hT with
  | @cat e p t0 t1 _ v1 v2 _ _ he hp hu hz =>
  refine wpAny_call ?_
  have hroom : dp < recursionLimit := by simp only [recursionLimit]; omega
  have hlu : u.leaves + z.leaves ≤ 60 := hf
  have hdu : (dp : Int) ≤ 590 - 10 * u.deep := by simp only [Tr.deep] at hdp; omega
  have huu : (un : Int) ≤ 1900 - 100 * u.deep := by simp only [Tr.deep] at hun; omega
  have hdz : (dp : Int) ≤ 590 - 10 * z.deep := by simp only [Tr.deep] at hdp; omega
  have huz : (un : Int) ≤ 1900 - 100 * z.deep := by simp only [Tr.deep] at hun; omega
  w_top off
  k_with_none
  k_with "subscriptTail Name Constant ref int" => ((k_here; (refine' item_tupN ?kN ?km ?k0 ?k1 ?kx ?_; (case kN => k_asm); (case km => k_mem); (case k0 => decide); (case k1 => decide); (case kx => first | exact rfl | assumption); k_whole)))
  k_with "subscriptTail Subscript" => ((k_here; (with_reducible show wpAny _ _ (subscriptTail _ _ (Value.ref _) (Value.int _ _)) _ _ _); (refine' item_tupN ?kN ?km ?k0 ?k1 ?kx ?_; (case kN => k_asm); (case km => k_mem); (case k0 => decide); (case k1 => decide); (case kx => first | exact rfl | assumption); k_whole)))
  k_with "execs cons" => ((rename Fr _ _ _ _ => zF); k_dflt (refine st_to (s := s) zF (by with_reducible rfl) (fun tk => ?_)); (try k_made); (refine wpAny_execs_cons ?_); (try dsimp only))
  k_with "k_ne" => (refine neN ?_; (try dsimp only); first | with_reducible assumption | (refine Ne.symm ?_; with_reducible assumption) | (refine Nat.ne_of_lt ?_; with_reducible assumption) | (refine Nat.ne_of_gt ?_; with_reducible assumption) | k_extra "k_nf")
  k_with "k_nf" => ((rename _ ∧ _ => lX); first | exact Nat.ne_of_gt lX.1 | exact Nat.ne_of_lt lX.1 | exact Nat.ne_of_gt lX.2.1 | exact Nat.ne_of_lt lX.2.1 | exact Nat.ne_of_gt lX.2.2.1 | exact Nat.ne_of_lt lX.2.2.1 | exact Nat.ne_of_gt lX.2.2.2.1 | exact Nat.ne_of_lt lX.2.2.2.1 | exact Nat.ne_of_gt lX.2.2.2.2.1 | exact Nat.ne_of_lt lX.2.2.2.2.1 | exact Nat.ne_of_gt lX.2.2.2.2.2.1 | exact Nat.ne_of_lt lX.2.2.2.2.2.1 | exact Nat.ne_of_gt lX.2.2.2.2.2.2.1 | exact Nat.ne_of_lt lX.2.2.2.2.2.2.1 | exact Nat.ne_of_gt lX.2.2.2.2.2.2.2.1 | exact Nat.ne_of_lt lX.2.2.2.2.2.2.2.1 | exact Nat.ne_of_gt lX.2.2.2.2.2.2.2.2.1 | exact Nat.ne_of_lt lX.2.2.2.2.2.2.2.2.1 | exact Nat.ne_of_gt lX.2.2.2.2.2.2.2.2.2.1 | exact Nat.ne_of_lt lX.2.2.2.2.2.2.2.2.2.1 | exact Nat.ne_of_gt lX.2.2.2.2.2.2.2.2.2.2.1 | exact Nat.ne_of_lt lX.2.2.2.2.2.2.2.2.2.2.1 | exact Nat.ne_of_gt lX.2.2.2.2.2.2.2.2.2.2.2.1 | exact Nat.ne_of_lt lX.2.2.2.2.2.2.2.2.2.2.2.1 | exact Nat.ne_of_gt lX.2 | exact Nat.ne_of_lt lX.2 | exact Nat.ne_of_gt lX.2.2 | exact Nat.ne_of_lt lX.2.2 | exact Nat.ne_of_gt lX.2.2.2 | exact Nat.ne_of_lt lX.2.2.2 | exact Nat.ne_of_gt lX.2.2.2.2 | exact Nat.ne_of_lt lX.2.2.2.2 | exact Nat.ne_of_gt lX.2.2.2.2.2 | exact Nat.ne_of_lt lX.2.2.2.2.2 | exact Nat.ne_of_gt lX.2.2.2.2.2.2 | exact Nat.ne_of_lt lX.2.2.2.2.2.2 | exact Nat.ne_of_gt lX.2.2.2.2.2.2.2 | exact Nat.ne_of_lt lX.2.2.2.2.2.2.2 | exact Nat.ne_of_gt lX.2.2.2.2.2.2.2.2 | exact Nat.ne_of_lt lX.2.2.2.2.2.2.2.2 | exact Nat.ne_of_gt lX.2.2.2.2.2.2.2.2.2 | exact Nat.ne_of_lt lX.2.2.2.2.2.2.2.2.2 | exact Nat.ne_of_gt lX.2.2.2.2.2.2.2.2.2.2 | exact Nat.ne_of_lt lX.2.2.2.2.2.2.2.2.2.2 | exact Nat.ne_of_gt lX.2.2.2.2.2.2.2.2.2.2.2 | exact Nat.ne_of_lt lX.2.2.2.2.2.2.2.2.2.2.2 | exact Ne.symm lX.1 | exact lX.1 | exact Ne.symm lX.2.1 | exact lX.2.1 | exact Ne.symm lX.2.2.1 | exact lX.2.2.1 | exact Ne.symm lX.2.2.2.1 | exact lX.2.2.2.1 | exact Ne.symm lX.2.2.2.2.1 | exact lX.2.2.2.2.1 | exact Ne.symm lX.2.2.2.2.2.1 | exact lX.2.2.2.2.2.1 | exact Ne.symm lX.2.2.2.2.2.2.1 | exact lX.2.2.2.2.2.2.1 | exact Ne.symm lX.2.2.2.2.2.2.2.1 | exact lX.2.2.2.2.2.2.2.1 | exact Ne.symm lX.2.2.2.2.2.2.2.2.1 | exact lX.2.2.2.2.2.2.2.2.1 | exact Ne.symm lX.2.2.2.2.2.2.2.2.2.1 | exact lX.2.2.2.2.2.2.2.2.2.1 | exact Ne.symm lX.2.2.2.2.2.2.2.2.2.2.1 | exact lX.2.2.2.2.2.2.2.2.2.2.1 | exact Ne.symm lX.2.2.2.2.2.2.2.2.2.2.2.1 | exact lX.2.2.2.2.2.2.2.2.2.2.2.1 | (clear lX; k_extra "k_nf"))
  have IHp : ∀ (i : Nat) (v : Value) (ks : List Int), [v1, v2][i]? = some v → [u.keys, z.keys][i]? = some ks → ∃ t, KeysSpec w mean mg mb t ∧ TrIn news v t ∧ t.leaves ≤ 60 ∧ (dp : Int) ≤ 590 - 10 * t.deep ∧ (un : Int) ≤ 1900 - 100 * t.deep ∧ ks = t.keys := by
    intro i v ks hv hks
    match i, hv, hks with
    | 0, hv, hks => cases hv; cases hks; exact ⟨u, IH1, hu, by omega, hdu, huu, rfl⟩
    | 1, hv, hks => cases hv; cases hks; exact ⟨z, IH2, hz, by omega, hdz, huz, rfl⟩
    | _ + 2, hv, hks => cases hv
  k_with "eval ListComp" => ((k_dflt (refine nest_comp (by k_asm) (by rfl) (by decide) (by rfl) (by decide) (by rfl) (by rfl) (by decide) ?_ (fun _ => rfl) (fun _ _ => rfl))))
  k_with "NestSrc" => ((refine ⟨p, [v1, v2], 0, _, [u.keys, z.keys], rfl, rfl, by k_asm, by k_asm, hp, rfl, by have := u.keys_len; have := z.keys_len; simp; omega, (fun i v ks I oI C oC D oD m₂ h tk E' hv hks ho hm F N hoff hne => ?_), (fun D ys kd h tk hI F N hD => ?_)⟩))
  k_with "call ref" => ((k_dflt (obtain ⟨t, IH, hT, hf, hd1, hu1, rfl⟩ := IHp _ _ _ hv hks; refine IH _ _ _ _ _ _ _ _ _ _ _ _ _ _ _ _ _ _ _ (by k_asm) (by k_asm) (by k_asm) (by k_asm) (by k_asm) (by first | exact rfl | assumption) (hT.mono fun p hp => by k_mem) hf (by first | exact dpA (k := 1) hdp | (simp only [depth_deeper]; omega)) (by first | exact dpA (k := 3) hun | (simp only [units_deeper]; omega)) (fun b bvs bk h' tk' F N hl hI => ⟨h', tk', b, bvs, bk, rfl, rfl, F, N, Nat.ne_of_gt hl.1, Nat.ne_of_gt hl.2.1, Nat.ne_of_gt hl.2.2.1, hI⟩))))
  k_dflt ktr_enter
  k_steps
  · exact ret D ys kd _ _ (by assumption) (by assumption) (allLt_of hD) (by simpa [Tr.keys] using hI)

theorem keys_all (w : World) (mean : ExcName → Option Value) (mg mb : Str → Option Value) : ∀ t : Tr, KeysSpec w mean mg mb t
  | .sig n r => keys_sig w mean mg mb n r
  | .ext x u bo => keys_ext w mean mg mb x u bo (keys_all w mean mg mb u)
  | .slice x u lo => keys_slice w mean mg mb x u lo (keys_all w mean mg mb u)
  | .cat x u z => keys_cat w mean mg mb x u z (keys_all w mean mg mb u) (keys_all w mean mg mb z)

/-- a word of the memory is no tree: no keys -/
theorem keys_word {w : World} {mean : ExcName → Option Value} {mg mb : Str → Option Value} {dp un : Nat} {gd : Option (List Code)} {cn : Str} {cs : Scope} {L a : Addr} {ccd : Value} {cl : List (Str × Addr)} {outer : List Env}
   {A₀ : Around} {base h₀ : Heap} {m : Str → Option Value} {s : Shared} {Q E : Value → Shared → Prop}
   {news : List (Addr × Obj)} {e : Addr} {tk0 t1 t2 : Tok} {x y : Int} {c : Value} {bo : Bool}
   (B : Below A₀ base outer h₀) (F : Fr h₀ L s.heap m) (X : (Mine.hd.heap_39 w.params).In h₀) (N : News h₀ L s.heap news)
   (T : Top Mine.hd.view_39 (looseW Mine.hd.view_39 []) mean mg mb h₀) (hk : cs.kind = .function)
   (hT : (e, tupO #[.str (Str.ofString "word") tk0, .int x t1, .int y t2, c, .bool bo]) ∈ news)
   (hdp : (dp : Int) ≤ 600) (hun : (un : Int) ≤ 2000)
   (ret : ∀ b bvs bk h' tk', Fr h₀ L h' m → News h₀ L h' ((b, listOf (List.toArray bvs) bk) :: news) → AllLt b news → IntsAre bvs [] → Q (.ref b) { s with heap := h', toks := tk' }) :
   wpAny (model PySem.Challenge.rw_sj0034_01.row.prog w) (ktrTop dp un gd cn cs L a ccd cl outer) (call (.ref (ktn_at% "whole_keys")) [.ref e]) Q E s := by
  refine wpAny_call ?_
  have hroom : dp < recursionLimit := by simp only [recursionLimit]; omega
  w_top off
  k_with_none
  k_with "subscriptTail Name Constant ref int" => ((k_here; (refine' item_tupN ?kN ?km ?k0 ?k1 ?kx ?_; (case kN => k_asm); (case km => k_mem); (case k0 => decide); (case k1 => decide); (case kx => first | exact rfl | assumption); k_whole)))
  k_with "subscriptTail Subscript" => ((k_here; (with_reducible show wpAny _ _ (subscriptTail _ _ (Value.ref _) (Value.int _ _)) _ _ _); (refine' item_tupN ?kN ?km ?k0 ?k1 ?kx ?_; (case kN => k_asm); (case km => k_mem); (case k0 => decide); (case k1 => decide); (case kx => first | exact rfl | assumption); k_whole)))
  k_with "execs cons" => ((rename Fr _ _ _ _ => zF); k_dflt (refine st_to (s := s) zF (by with_reducible rfl) (fun tk => ?_)); (try k_made); (refine wpAny_execs_cons ?_); (try dsimp only))
  k_with "k_ne" => (refine neN ?_; (try dsimp only); first | with_reducible assumption | (refine Ne.symm ?_; with_reducible assumption) | (refine Nat.ne_of_lt ?_; with_reducible assumption) | (refine Nat.ne_of_gt ?_; with_reducible assumption) | k_extra "k_nf")
  k_with "k_nf" => ((rename _ ∧ _ => lX); first | exact Nat.ne_of_gt lX.1 | exact Nat.ne_of_lt lX.1 | exact Nat.ne_of_gt lX.2.1 | exact Nat.ne_of_lt lX.2.1 | exact Nat.ne_of_gt lX.2.2.1 | exact Nat.ne_of_lt lX.2.2.1 | exact Nat.ne_of_gt lX.2.2.2.1 | exact Nat.ne_of_lt lX.2.2.2.1 | exact Nat.ne_of_gt lX.2.2.2.2.1 | exact Nat.ne_of_lt lX.2.2.2.2.1 | exact Nat.ne_of_gt lX.2.2.2.2.2.1 | exact Nat.ne_of_lt lX.2.2.2.2.2.1 | exact Nat.ne_of_gt lX.2.2.2.2.2.2.1 | exact Nat.ne_of_lt lX.2.2.2.2.2.2.1 | exact Nat.ne_of_gt lX.2.2.2.2.2.2.2.1 | exact Nat.ne_of_lt lX.2.2.2.2.2.2.2.1 | exact Nat.ne_of_gt lX.2.2.2.2.2.2.2.2.1 | exact Nat.ne_of_lt lX.2.2.2.2.2.2.2.2.1 | exact Nat.ne_of_gt lX.2.2.2.2.2.2.2.2.2.1 | exact Nat.ne_of_lt lX.2.2.2.2.2.2.2.2.2.1 | exact Nat.ne_of_gt lX.2.2.2.2.2.2.2.2.2.2.1 | exact Nat.ne_of_lt lX.2.2.2.2.2.2.2.2.2.2.1 | exact Nat.ne_of_gt lX.2.2.2.2.2.2.2.2.2.2.2.1 | exact Nat.ne_of_lt lX.2.2.2.2.2.2.2.2.2.2.2.1 | exact Nat.ne_of_gt lX.2 | exact Nat.ne_of_lt lX.2 | exact Nat.ne_of_gt lX.2.2 | exact Nat.ne_of_lt lX.2.2 | exact Nat.ne_of_gt lX.2.2.2 | exact Nat.ne_of_lt lX.2.2.2 | exact Nat.ne_of_gt lX.2.2.2.2 | exact Nat.ne_of_lt lX.2.2.2.2 | exact Nat.ne_of_gt lX.2.2.2.2.2 | exact Nat.ne_of_lt lX.2.2.2.2.2 | exact Nat.ne_of_gt lX.2.2.2.2.2.2 | exact Nat.ne_of_lt lX.2.2.2.2.2.2 | exact Nat.ne_of_gt lX.2.2.2.2.2.2.2 | exact Nat.ne_of_lt lX.2.2.2.2.2.2.2 | exact Nat.ne_of_gt lX.2.2.2.2.2.2.2.2 | exact Nat.ne_of_lt lX.2.2.2.2.2.2.2.2 | exact Nat.ne_of_gt lX.2.2.2.2.2.2.2.2.2 | exact Nat.ne_of_lt lX.2.2.2.2.2.2.2.2.2 | exact Nat.ne_of_gt lX.2.2.2.2.2.2.2.2.2.2 | exact Nat.ne_of_lt lX.2.2.2.2.2.2.2.2.2.2 | exact Nat.ne_of_gt lX.2.2.2.2.2.2.2.2.2.2.2 | exact Nat.ne_of_lt lX.2.2.2.2.2.2.2.2.2.2.2 | exact Ne.symm lX.1 | exact lX.1 | exact Ne.symm lX.2.1 | exact lX.2.1 | exact Ne.symm lX.2.2.1 | exact lX.2.2.1 | exact Ne.symm lX.2.2.2.1 | exact lX.2.2.2.1 | exact Ne.symm lX.2.2.2.2.1 | exact lX.2.2.2.2.1 | exact Ne.symm lX.2.2.2.2.2.1 | exact lX.2.2.2.2.2.1 | exact Ne.symm lX.2.2.2.2.2.2.1 | exact lX.2.2.2.2.2.2.1 | exact Ne.symm lX.2.2.2.2.2.2.2.1 | exact lX.2.2.2.2.2.2.2.1 | exact Ne.symm lX.2.2.2.2.2.2.2.2.1 | exact lX.2.2.2.2.2.2.2.2.1 | exact Ne.symm lX.2.2.2.2.2.2.2.2.2.1 | exact lX.2.2.2.2.2.2.2.2.2.1 | exact Ne.symm lX.2.2.2.2.2.2.2.2.2.2.1 | exact lX.2.2.2.2.2.2.2.2.2.2.1 | exact Ne.symm lX.2.2.2.2.2.2.2.2.2.2.2.1 | exact lX.2.2.2.2.2.2.2.2.2.2.2.1 | (clear lX; k_extra "k_nf"))
  k_dflt ktr_enter
  k_steps
  exact ret _ [] 0 _ _ (by assumption) (by assumption) (allLt_of (by assumption)) .nil
end Mine
end

section
open PySem PySem.W PyProof.Rows PySem.Spec
set_option Elab.async false
namespace Mine
theorem fill9 : PySem.Challenge.rw_sj0034_01 = PySem.Challenge.rw_sj0034_01 ∧ Mine.hd.heap_39 = Mine.hd.heap_39 := by
  k_fill
  exact ⟨rfl, rfl⟩

section
variable {prog : Program} {w : World} {A : Around} {s : Shared} {env : Env} {h₀ : Heap} {E : Value → Shared → Prop} {Q : Flow → Shared → Prop} {target : Expr} {body : List Stmt} {m₀ : Str → Option Value} {news : List (Addr × Obj)}

def PurseInv (q1 q2 : Addr × Obj) (C : Addr) (news : List (Addr × Obj)) (nx : List (Addr × Obj)) : Prop :=
  ∃ ys k ns, nx = q1 :: q2 :: (C, listOf (List.toArray ys) k) :: news ∧ IntsAre ys ns ∧ ns.length ≤ 60

theorem purse_loop {D C : Addr} {its : List Value} {zs : List Int} {q2 : Addr × Obj} (stored : List Str)
    (hh : A.handled = none) (F : Fr h₀ env.locals s.heap m₀) (N : News h₀ env.locals s.heap ((D, listOf its.toArray 0) :: q2 :: (C, listOf #[] 0) :: news)) (hz : IntsAre its zs)
    (turn : ∀ (z : Int) (t : Tok) (u : Str → Option Value) ys k ns h tk I oI, IntsAre ys ns → ns.length ≤ 60 → OwnOff ((D, listOf its.toArray 0) :: q2 :: (C, listOf (List.toArray ys) k) :: news) [I] → Fr h₀ env.locals h (fun y => if stored.contains y then u y else m₀ y) → News h₀ env.locals h ((I, oI) :: (D, listOf its.toArray 0) :: q2 :: (C, listOf (List.toArray ys) k) :: news) →
      wpAny (model prog w) A (assign target env (.int z t)) (fun _ s₃ => wpAny (model prog w) A (execs body env) (TurnAt h₀ env.locals I oI (JN stored m₀ (PurseInv (D, listOf its.toArray 0) q2 C news)) { s with heap := h, toks := tk } Q) E s₃) E { s with heap := h, toks := tk })
    (done : ∀ (u : Str → Option Value) ys k ns h tk, IntsAre ys ns → ns.length ≤ 60 → Fr h₀ env.locals h (fun y => if stored.contains y then u y else m₀ y) → News h₀ env.locals h ((D, listOf its.toArray 0) :: q2 :: (C, listOf (List.toArray ys) k) :: news) → Q .next { s with heap := h, toks := tk }) :
    wpAny (model prog w) A (pyIter (.ref D)) (fun it s₂ => LoopI prog w A h₀ env target body Q E it s₂) E s := by
  refine loop_list (items := its.toArray) (k := 0) stored (fun _ => PurseInv (D, listOf its.toArray 0) q2 C news) hh F N ⟨[], 0, [], rfl, .nil, Nat.zero_le _⟩ ?_ ?_ ?_
  · rintro i nx ⟨ys, k, ns, rfl, _, _⟩
    exact .head _
  · rintro i v u nx h tk I oI hv ⟨ys, k, ns, rfl, hI, hl⟩ ho F N
    obtain ⟨z, t, rfl, _⟩ := hz.at i v (by simpa using hv)
    exact turn z t u ys k ns h tk I oI hI hl ho F N
  · rintro u h tk nx ⟨ys, k, ns, rfl, hI, hl⟩ F N
    exact done u ys k ns h tk hI hl F N

theorem purse_turn {L I C : Addr} {oI : Obj} {q1 q2 : Addr × Obj} {stored : List Str} {s₁ : Shared} {h' : Heap} {tk : Nat} {m' : Str → Option Value} {ys ys' : List Value} {k k' : Nat} {ns : List Int}
    (F : Fr h₀ L h' m') (N : News h₀ L h' ((I, oI) :: q1 :: q2 :: (C, listOf ys.toArray k) :: news)) (ho : OwnOff (q1 :: q2 :: (C, listOf ys'.toArray k') :: news) [I])
    (hI : IntsAre ys ns) (hl : ns.length ≤ 60) (hm : ∀ z, stored.contains z = false → m' z = m₀ z) :
    TurnAt h₀ L I oI (JN stored m₀ (PurseInv q1 q2 C news)) s₁ Q .next { s₁ with heap := h', toks := tk } :=
  TurnAt.mk (q1 :: q2 :: (C, listOf ys.toArray k) :: news) F N (.head _) (fun _ h => .tail _ h) (fun p hp => by
    rcases List.mem_cons.mp hp with rfl | hp
    · exact ho _ (.head _)
    · rcases List.mem_cons.mp hp with rfl | hp
      · exact ho _ (.tail _ (.head _))
      · rcases List.mem_cons.mp hp with rfl | hp
        · exact ho (C, listOf ys'.toArray k') (.tail _ (.tail _ (.head _)))
        · exact ho p (.tail _ (.tail _ (.tail _ hp)))) ⟨⟨ys, k, ns, rfl, hI, hl⟩, hm⟩

def MoneyInv (x : Str) (m₀ : Str → Option Value) (pre : List (Addr × Obj)) (C : Addr) (news : List (Addr × Obj)) (n : Nat) (m₁ : Str → Option Value) (nx : List (Addr × Obj)) : Prop :=
  ∃ z t ys k ns, m₁ x = some (.int z t) ∧ (∀ y, [x].contains y = false → m₁ y = m₀ y) ∧ nx = pre ++ (C, listOf (List.toArray ys) k) :: news ∧ IntsAre ys ns ∧ ns.length ≤ 60 ∧ n = 60 - ns.length

theorem money_while {test : Expr} {pos : Pos} {L C : Addr} (pre : List (Addr × Obj)) (x : Str) {z : Int} {t : Tok} {ys : List Value} {k : Nat} {ns : List Int}
    (F : Fr h₀ L s.heap m₀) (N : News h₀ L s.heap (pre ++ (C, listOf ys.toArray k) :: news)) (hm : m₀ x = some (.int z t)) (hI : IntsAre ys ns) (hl : ns.length ≤ 60)
    (turn : ∀ n z t ys k ns h₁ tk₁, IntsAre ys ns → ns.length ≤ 60 → n = 60 - ns.length → Fr h₀ L h₁ (fun y => if y = x then some (.int z t) else m₀ y) → News h₀ L h₁ (pre ++ (C, listOf (List.toArray ys) k) :: news) →
      wpAny (model prog w) A (isTrue test env (eval test env)) (fun b s₂ =>
        if b = true then wpAny (model prog w) A (execs body env) (WhileStep2 h₀ L s (MoneyInv x m₀ pre C news) Q n) E s₂ else Q .next s₂) E { s with heap := h₁, toks := tk₁ })
    (hE : PassesOwn (model prog w) A env E := by passes_own) :
    wpAny (model prog w) A (exec (.While test body [] pos) env) Q E s := by
  refine While_inv2 (MoneyInv x m₀ pre C news) F N ⟨z, t, ys, k, ns, hm, fun _ _ => rfl, rfl, hI, hl, rfl⟩ ?_ hE
  rintro n m₁ news₁ h₁ tk₁ F₁ N₁ ⟨z, t, ys, k, ns, hx, hr, rfl, hI, hl, rfl⟩
  refine turn _ z t ys k ns h₁ tk₁ hI hl rfl ?_ N₁
  have e : m₁ = fun y => if y = x then some (.int z t) else m₀ y := by
    funext y
    by_cases h : y = x
    · subst h; simp [hx]
    · simp only [if_neg h]; exact hr y (by simpa using h)
  rw [← e]; exact F₁

theorem money_next {L C : Addr} {pre : List (Addr × Obj)} {x : Str} {n tk : Nat} {h' : Heap} {m₂ : Str → Option Value} {z : Int} {t : Tok} {ys : List Value} {k : Nat} {ns : List Int} {v : Int} {tv : Tok}
    (F : Fr h₀ L h' m₂) (N : News h₀ L h' (pre ++ (C, listOf (ys ++ [Value.int v tv]).toArray k) :: news)) (hI : IntsAre ys ns) (hl : ns.length < 60) (hn : n = 60 - ns.length)
    (hm : m₂ x = some (.int z t)) (hr : ∀ y, [x].contains y = false → m₂ y = m₀ y) :
    WhileStep2 h₀ L s (MoneyInv x m₀ pre C news) Q n .next { s with heap := h', toks := tk } :=
  ⟨h', tk, m₂, _, 60 - (ns.length + 1), rfl, F, N, by omega, ⟨z, t, _, k, ns ++ [v], hm, hr, rfl, IntsAre.append' hI (.cons v tv .nil), by rw [List.length_append]; simp; omega, by simp⟩⟩
theorem money_brk {L C : Addr} {pre : List (Addr × Obj)} {x : Str} {n : Nat} {s₃ : Shared} (h : Q .next s₃) : WhileStep2 h₀ L s (MoneyInv x m₀ pre C news) Q n .brk s₃ := h
end

theorem two_eq {a b : Str} {m : Str → Option Value} {u : Str → Option Value} : ∀ z, [a, b].contains z = false → ∀ x y, (if z = b then x else if z = a then y else if [a, b].contains z then u z else m z) = m z := by
  intro z hz x y
  have h1 : z ≠ a := by rintro rfl; simp at hz
  have h2 : z ≠ b := by rintro rfl; simp at hz
  simp only [if_neg h1, if_neg h2, hz, Bool.false_eq_true, if_false]
theorem purse_fin {h₀ h' : Heap} {L P C a1 a2 : Addr} {o1 o2 : Obj} {m : Str → Option Value} {news : List (Addr × Obj)} {ys : List Value} {k : Nat} {ks : List Int} {tk : Tok} {tk' : Nat} {s : Shared} {Q : Value → Shared → Prop}
   (F : Fr h₀ L h' m) (N : News h₀ L h' ((P, listOf #[.ref C, .int (-1) tk] 0) :: (a1, o1) :: (a2, o2) :: (C, listOf ys.toArray k) :: news)) (l1 : @LT.lt Nat _ a1 P ∧ @LT.lt Nat _ a2 P ∧ @LT.lt Nat _ C P ∧ AllLt P news) (hl0 : ∀ p ∈ news, @LT.lt Nat _ p.1 C)
   (hK : IntsAre ys ks) (hKl : ks.length ≤ 60)
   (ret : ∀ P C cvs k ks tk h' tk', Fr h₀ L h' m → News h₀ L h' ((P, listOf #[.ref C, .int (-1) tk] 0) :: (C, listOf (List.toArray cvs) k) :: news) → @LT.lt Nat _ C P → AllLt C news → IntsAre cvs ks → ks.length ≤ 60 → Q (.ref P) { s with heap := h', toks := tk' }) :
   Q (.ref P) { s with heap := h', toks := tk' } :=
  ret P C ys k ks tk h' tk' F (news_sub N fun p hp => by
    simp only [List.mem_cons] at hp ⊢
    rcases hp with h | h | h <;> simp only [h, true_or, or_true]) l1.2.2.1 (allLt_of hl0) hK hKl
theorem off_lt {d : Addr} {l : List (Addr × Obj)} (h : ∀ p ∈ l, @LT.lt Nat _ p.1 d) : OwnOff l [d] := fun p hp b hb => by rw [List.mem_singleton.mp hb]; exact Nat.ne_of_lt (h p hp)

set_option maxRecDepth 100000 in
set_option maxHeartbeats 8000000 in
theorem purse_spec {w : World} {mean : ExcName → Option Value} {mg mb : Str → Option Value} {dp un : Nat} {gd : Option (List Code)} {cn : Str} {cs : Scope} {L a : Addr} {ccd : Value} {cl : List (Str × Addr)} {outer : List Env}
   {A₀ : Around} {base h₀ : Heap} {m : Str → Option Value} {s : Shared} {Q E : Value → Shared → Prop}
   {news : List (Addr × Obj)} {l : Addr} {vs : List Value} {ns : List Int}
   (B : Below A₀ base outer h₀) (F : Fr h₀ L s.heap m) (X : (Mine.hd.heap_39 w.params).In h₀) (N : News h₀ L s.heap news)
   (T : Top Mine.hd.view_39 (looseW Mine.hd.view_39 []) mean mg mb h₀) (hk : cs.kind = .function)
   (hL : h₀.IsList l vs.toArray) (hI : IntsAre vs ns) (hln : ns.length ≤ 63)
   (hdp : (dp : Int) ≤ 600) (hun : (un : Int) ≤ 2000)
   (ret : ∀ P C cvs k ks tk h' tk', Fr h₀ L h' m → News h₀ L h' ((P, listOf #[.ref C, .int (-1) tk] 0) :: (C, listOf (List.toArray cvs) k) :: news) → @LT.lt Nat _ C P → AllLt C news → IntsAre cvs ks → ks.length ≤ 60 → Q (.ref P) { s with heap := h', toks := tk' }) :
   wpAny (model PySem.Challenge.rw_sj0034_01.row.prog w) (ktrTop dp un gd cn cs L a ccd cl outer) (call (.ref (ktn_at% "_law_purse")) [.ref l]) Q E s := by
  refine wpAny_call ?_
  have hroom : dp < recursionLimit := by simp only [recursionLimit]; omega
  w_top off
  k_with_none
  k_with "k_all" => (exact ownOff_ne (by assumption))
  k_with "call builtin:list.append" => ((k_here; (refine' append_K ?kF ?kN ?kU ?_ ?kz; (case kF => k_asm); (case kN => k_asm); (case kU => k_upd); (case kz => ((try simp only [List.size_toArray, Array.size_push]); rw [sizeLine_eq]; omega)); intro h' F' N'; (try simp only [List.push_toArray] at N'); (try k_sweep))))
  k_with "execs cons" => ((rename Fr _ _ _ _ => zF); k_dflt (refine st_to (s := s) zF (by with_reducible rfl) (fun tk => ?_)); (try k_made); (refine wpAny_execs_cons ?_); (try dsimp only))
  k_with "k_ne" => (refine neN ?_; (try dsimp only); first | with_reducible assumption | (refine Ne.symm ?_; with_reducible assumption) | (refine Nat.ne_of_lt ?_; with_reducible assumption) | (refine Nat.ne_of_gt ?_; with_reducible assumption) | k_extra "k_nf")
  k_with "k_nf" => ((rename _ ∧ _ => lX); first | exact Nat.ne_of_gt lX.1 | exact Nat.ne_of_lt lX.1 | exact Nat.ne_of_gt lX.2.1 | exact Nat.ne_of_lt lX.2.1 | exact Nat.ne_of_gt lX.2.2.1 | exact Nat.ne_of_lt lX.2.2.1 | exact Nat.ne_of_gt lX.2.2.2.1 | exact Nat.ne_of_lt lX.2.2.2.1 | exact Nat.ne_of_gt lX.2.2.2.2.1 | exact Nat.ne_of_lt lX.2.2.2.2.1 | exact Nat.ne_of_gt lX.2.2.2.2.2.1 | exact Nat.ne_of_lt lX.2.2.2.2.2.1 | exact Nat.ne_of_gt lX.2.2.2.2.2.2.1 | exact Nat.ne_of_lt lX.2.2.2.2.2.2.1 | exact Nat.ne_of_gt lX.2.2.2.2.2.2.2.1 | exact Nat.ne_of_lt lX.2.2.2.2.2.2.2.1 | exact Nat.ne_of_gt lX.2.2.2.2.2.2.2.2.1 | exact Nat.ne_of_lt lX.2.2.2.2.2.2.2.2.1 | exact Nat.ne_of_gt lX.2.2.2.2.2.2.2.2.2.1 | exact Nat.ne_of_lt lX.2.2.2.2.2.2.2.2.2.1 | exact Nat.ne_of_gt lX.2.2.2.2.2.2.2.2.2.2.1 | exact Nat.ne_of_lt lX.2.2.2.2.2.2.2.2.2.2.1 | exact Nat.ne_of_gt lX.2.2.2.2.2.2.2.2.2.2.2.1 | exact Nat.ne_of_lt lX.2.2.2.2.2.2.2.2.2.2.2.1 | exact Nat.ne_of_gt lX.2 | exact Nat.ne_of_lt lX.2 | exact Nat.ne_of_gt lX.2.2 | exact Nat.ne_of_lt lX.2.2 | exact Nat.ne_of_gt lX.2.2.2 | exact Nat.ne_of_lt lX.2.2.2 | exact Nat.ne_of_gt lX.2.2.2.2 | exact Nat.ne_of_lt lX.2.2.2.2 | exact Nat.ne_of_gt lX.2.2.2.2.2 | exact Nat.ne_of_lt lX.2.2.2.2.2 | exact Nat.ne_of_gt lX.2.2.2.2.2.2 | exact Nat.ne_of_lt lX.2.2.2.2.2.2 | exact Nat.ne_of_gt lX.2.2.2.2.2.2.2 | exact Nat.ne_of_lt lX.2.2.2.2.2.2.2 | exact Nat.ne_of_gt lX.2.2.2.2.2.2.2.2 | exact Nat.ne_of_lt lX.2.2.2.2.2.2.2.2 | exact Nat.ne_of_gt lX.2.2.2.2.2.2.2.2.2 | exact Nat.ne_of_lt lX.2.2.2.2.2.2.2.2.2 | exact Nat.ne_of_gt lX.2.2.2.2.2.2.2.2.2.2 | exact Nat.ne_of_lt lX.2.2.2.2.2.2.2.2.2.2 | exact Nat.ne_of_gt lX.2.2.2.2.2.2.2.2.2.2.2 | exact Nat.ne_of_lt lX.2.2.2.2.2.2.2.2.2.2.2 | exact Ne.symm lX.1 | exact lX.1 | exact Ne.symm lX.2.1 | exact lX.2.1 | exact Ne.symm lX.2.2.1 | exact lX.2.2.1 | exact Ne.symm lX.2.2.2.1 | exact lX.2.2.2.1 | exact Ne.symm lX.2.2.2.2.1 | exact lX.2.2.2.2.1 | exact Ne.symm lX.2.2.2.2.2.1 | exact lX.2.2.2.2.2.1 | exact Ne.symm lX.2.2.2.2.2.2.1 | exact lX.2.2.2.2.2.2.1 | exact Ne.symm lX.2.2.2.2.2.2.2.1 | exact lX.2.2.2.2.2.2.2.1 | exact Ne.symm lX.2.2.2.2.2.2.2.2.1 | exact lX.2.2.2.2.2.2.2.2.1 | exact Ne.symm lX.2.2.2.2.2.2.2.2.2.1 | exact lX.2.2.2.2.2.2.2.2.2.1 | exact Ne.symm lX.2.2.2.2.2.2.2.2.2.2.1 | exact lX.2.2.2.2.2.2.2.2.2.2.1 | exact Ne.symm lX.2.2.2.2.2.2.2.2.2.2.2.1 | exact lX.2.2.2.2.2.2.2.2.2.2.2.1 | (clear lX; k_extra "k_nf"))
  k_with "call type:list" => (((rename Fr h₀ L _ m => FG); (rename Fr _ _ _ _ => lF); (have hL1 := (hL.at (FG.keep l)).at (lF.keep l)); k_dflt (refine list_copyK lF (by k_asm) hL1 (fun D c h' F' N' l1 => ?_) (by rw [List.size_toArray, hI.length, sizeLine_eq]; omega)); (try k_lt l1)))
  k_with "exec For Name Subscript cons nil" => (((rename Fr _ _ _ _ => lF); k_dflt (refine For_IF lF ?_)))
  k_with "pyIter ref" => (((rename IntsAre _ (List.take _ _) => hz); (rename ∀ p ∈ news, _ => hl0); (have hoC := off_lt hl0); k_dflt (refine purse_loop [Str.ofString "cell", Str.ofString "money"] (by rfl) (by k_asm) (by k_asm) hz (fun z t u ys k ks h tk I oI hK hKl ho F N => gen_T (fun QT hQT => ?_)) (fun u ys k ks h tk hK hKl F N => ?_))))
  k_with "exec While" => (((rename Fr _ _ _ _ => lF); k_dflt (refine money_while [(_, _), (_, _), (_, _)] (Str.ofString "money") lF (by k_asm) (by rfl) hK hKl (fun n z t ys k ks h₁ tk₁ hI hl hn F N => ?_)); (have hyl := hI.length); (simp only [List.cons_append, List.nil_append] at N); (have hCI := ownOff_ne ho _ (List.mem_cons_of_mem _ (List.mem_cons_of_mem _ List.mem_cons_self))); (have hIC := hCI.symm)))
  k_dflt ktr_enter
  refine gen_L (fun QL EL hQL hEL => ?_)
  k_steps
  all_goals first | (with_reducible refine hQT _ _ ?_) | ((with_reducible refine hQL _ _ ?_); (try dsimp only); k_steps) | skip
  · refine money_brk ?_
    dsimp only
    k_steps
    all_goals first | (with_reducible refine hQT _ _ ?_) | ((with_reducible refine hQL _ _ ?_); (try dsimp only); k_steps) | skip
    exact purse_turn (by assumption) (by assumption) ho (IntsAre.append' hI (.cons _ _ .nil)) (by simp only [List.length_append, List.length_cons, List.length_nil]; omega) (fun z hz => by dsimp only; simp at hz; simp [hz])
  · exact money_next (pre := [(_, _), (_, _), (_, _)]) (by assumption) (by assumption) hI (by omega) hn (by rfl) (fun z hz => by dsimp only; simp at hz; simp [hz])
  · exact purse_turn F N ho hI hl (fun z hz => by dsimp only; simp at hz; simp [hz])
  · refine money_brk ?_
    dsimp only
    k_steps
    all_goals first | (with_reducible refine hQT _ _ ?_) | ((with_reducible refine hQL _ _ ?_); (try dsimp only); k_steps) | skip
    exact purse_turn (by assumption) (by assumption) ho (IntsAre.append' hI (.cons _ _ .nil)) (by simp only [List.length_append, List.length_cons, List.length_nil]; omega) (fun z hz => by dsimp only; simp at hz; simp [hz])
  · exact money_next (pre := [(_, _), (_, _), (_, _)]) (by assumption) (by assumption) hI (by omega) hn (by rfl) (fun z hz => by dsimp only; simp at hz; simp [hz])
  · exact purse_turn F N ho hI hl (fun z hz => by dsimp only; simp at hz; simp [hz])
  · exact purse_fin (by assumption) (by assumption) (by assumption) (by assumption) hK hKl ret
end Mine
end

section
open PySem PySem.W PyProof.Rows PySem.Spec
namespace Mine
/-- an event as the law draws it -/
inductive Ev
  | tree (t : Tr)
  | word (idx unk : Int) (sg : Bool)
inductive EvIn (news : List (Addr × Obj)) : Value → Ev → Prop
  | tree {a : Addr} {t0 : Tok} {v : Value} {t : Tr} (h : (a, tupO #[.str (Str.ofString "any") t0, v]) ∈ news) (ht : TrIn news v t) : EvIn news (.ref a) (.tree t)
  | word {a e c : Addr} {t0 t1 t2 t3 t4 t5 t6 t7 : Tok} {idx unk : Int} {sg : Bool} (h : (a, tupO #[.str (Str.ofString "any") t0, .ref e]) ∈ news)
      (he : (e, tupO #[.str (Str.ofString "word") t1, .int 2 t2, .int 3 t3, .ref c, .bool sg]) ∈ news)
      (hc : (c, tupO #[.str (Str.ofString "const") t4, .int 3 t5, .int idx t6, .int unk t7]) ∈ news) : EvIn news (.ref a) (.word idx unk sg)
theorem EvIn.mono {news news' : List (Addr × Obj)} {v : Value} {e : Ev} (h : EvIn news v e) (hs : ∀ p ∈ news, p ∈ news') : EvIn news' v e := by
  cases h with
  | tree h ht => exact .tree (hs _ h) (ht.mono hs)
  | word h he hc => exact .word (hs _ h) (hs _ he) (hs _ hc)

/-- the index that a word names: signed or not -/
def Ev.at (idx : Int) (sg : Bool) : Int := if sg = true ∧ idx > 3 then idx - 8 else idx
def namedStep (order : List Int) (ps : List Int) : Ev → List Int
  | .tree _ => ps
  | .word idx unk sg => if unk = 0 ∧ Ev.at idx sg ∈ order ∧ Ev.at idx sg ∉ ps then ps ++ [Ev.at idx sg] else ps
def named (order : List Int) (es : List Ev) : List Int := es.foldl (namedStep order) []
theorem named_step {order : List Int} {es : List Ev} {i : Nat} {e : Ev} (h : es[i]? = some e) : named order (es.take (i + 1)) = namedStep order (named order (es.take i)) e := by
  unfold named
  rw [List.take_add_one, h, List.foldl_append]; rfl
theorem named_nodup (order : List Int) : ∀ (es : List Ev) (ps : List Int), ps.Nodup → (es.foldl (namedStep order) ps).Nodup
  | [], ps, h => h
  | .tree _ :: r, ps, h => named_nodup order r ps h
  | .word idx unk sg :: r, ps, h => by
    show (r.foldl _ (namedStep order ps (.word idx unk sg))).Nodup
    refine named_nodup order r _ ?_
    unfold namedStep
    dsimp only
    split
    · rename_i hc
      refine List.nodup_append.mpr ⟨h, by simp, ?_⟩
      intro a ha b hb e
      subst e
      rw [List.mem_singleton.mp hb] at ha
      exact hc.2.2 ha
    · exact h
theorem named_len (order : List Int) : ∀ (es : List Ev) (ps : List Int), (es.foldl (namedStep order) ps).length ≤ ps.length + es.length
  | [], ps => Nat.le_refl _
  | .tree _ :: r, ps => Nat.le_trans (named_len order r ps) (by simp)
  | .word idx unk sg :: r, ps => by
    show (r.foldl _ (namedStep order ps (.word idx unk sg))).length ≤ _
    refine Nat.le_trans (named_len order r _) ?_
    unfold namedStep
    dsimp only
    split <;> simp <;> omega
theorem named_sub (order : List Int) : ∀ (es : List Ev) (ps : List Int), (∀ x ∈ ps, x ∈ order) → ∀ x ∈ es.foldl (namedStep order) ps, x ∈ order
  | [], ps, h => h
  | .tree _ :: r, ps, h => named_sub order r ps h
  | .word idx unk sg :: r, ps, h => by
    show ∀ x ∈ r.foldl _ (namedStep order ps (.word idx unk sg)), x ∈ order
    refine named_sub order r _ ?_
    unfold namedStep
    dsimp only
    split
    · rename_i hc
      intro x hx
      rcases List.mem_append.mp hx with hx | hx
      · exact h x hx
      · rw [List.mem_singleton.mp hx]; exact hc.2.1
    · exact h
theorem named_le (order : List Int) (es : List Ev) : (named order es).length ≤ es.length := by have := named_len order es []; simpa [named] using this
theorem take_le (es : List Ev) (i : Nat) : (es.take i).length ≤ es.length := by rw [List.length_take]; omega
theorem named_tree {order : List Int} {es : List Ev} {i : Nat} {t : Tr} {ys : List Value} (he : es[i]? = some (.tree t)) (hI : IntsAre ys (named order (es.take i))) : IntsAre ys (named order (es.take (i + 1))) := by
  rw [named_step he]; exact hI
theorem named_keep {order : List Int} {es : List Ev} {i : Nat} {idx unk : Int} {sg : Bool} {ys : List Value} (he : es[i]? = some (.word idx unk sg)) (hI : IntsAre ys (named order (es.take i)))
    (hc : unk = 0 → Ev.at idx sg ∈ order → Ev.at idx sg ∉ named order (es.take i) → False) : IntsAre ys (named order (es.take (i + 1))) := by
  rw [named_step he]; unfold namedStep; dsimp only; rw [if_neg (fun h => hc h.1 h.2.1 h.2.2)]; exact hI
theorem named_add {order : List Int} {es : List Ev} {i : Nat} {idx unk j : Int} {tj : Tok} {sg : Bool} {ys : List Value} (he : es[i]? = some (.word idx unk sg)) (hI : IntsAre ys (named order (es.take i)))
    (hu : unk = 0) (hj : Ev.at idx sg = j) (h1 : j ∈ order) (h2 : j ∉ named order (es.take i)) : IntsAre (ys ++ [.int j tj]) (named order (es.take (i + 1))) := by
  subst hj
  rw [named_step he]; unfold namedStep; dsimp only; rw [if_pos ⟨hu, h1, h2⟩]
  exact IntsAre.append' hI (.cons _ _ .nil)
theorem at_neg {idx : Int} {sg : Bool} (h1 : sg = true) (h2 : 3 < idx) : Ev.at idx sg = idx - 8 := if_pos ⟨h1, h2⟩
theorem at_pos {idx : Int} {sg : Bool} (h2 : ¬ 3 < idx) : Ev.at idx sg = idx := if_neg fun h => h2 h.2
theorem at_uns {idx : Int} {sg : Bool} (h1 : sg = false) : Ev.at idx sg = idx := if_neg fun h => by rw [h1] at h; cases h.1
end Mine
end

section
open PySem PySem.W PyProof.Rows PySem.Spec
set_option Elab.async false
namespace Mine
theorem fill11 : PySem.Challenge.rw_sj0034_01 = PySem.Challenge.rw_sj0034_01 ∧ Mine.hd.heap_39 = Mine.hd.heap_39 := by
  k_fill
  exact ⟨rfl, rfl⟩
section
variable {prog : Program} {w : World} {A : Around} {s : Shared} {env : Env} {h₀ : Heap} {E : Value → Shared → Prop} {Q : Flow → Shared → Prop} {target : Expr} {body : List Stmt} {m₀ : Str → Option Value} {news : List (Addr × Obj)}

def NamedInv (PL : Addr) (order : List Int) (es : List Ev) (news : List (Addr × Obj)) (i : Nat) (nx : List (Addr × Obj)) : Prop :=
  ∃ ys k, nx = (PL, listOf (List.toArray ys) k) :: news ∧ IntsAre ys (named order (es.take i))

theorem named_loop {PL EV : Addr} {evs : List Value} {es : List Ev} {ke : Nat} {order : List Int} (stored : List Str)
    (hh : A.handled = none) (F : Fr h₀ env.locals s.heap m₀) (N : News h₀ env.locals s.heap ((PL, listOf #[] 0) :: news)) (hm : (EV, listOf evs.toArray ke) ∈ news) (hE : Each (EvIn news) evs es)
    (turn : ∀ i e v (u : Str → Option Value) ys k h tk I oI, es[i]? = some e → EvIn news v e → IntsAre ys (named order (es.take i)) → OwnOff ((PL, listOf (List.toArray ys) k) :: news) [I] → Fr h₀ env.locals h (fun y => if stored.contains y then u y else m₀ y) → News h₀ env.locals h ((I, oI) :: (PL, listOf (List.toArray ys) k) :: news) →
      wpAny (model prog w) A (assign target env v) (fun _ s₃ => wpAny (model prog w) A (execs body env) (TurnAt h₀ env.locals I oI (JN stored m₀ (NamedInv PL order es news (i + 1))) { s with heap := h, toks := tk } Q) E s₃) E { s with heap := h, toks := tk })
    (done : ∀ (u : Str → Option Value) ys k h tk, IntsAre ys (named order es) → Fr h₀ env.locals h (fun y => if stored.contains y then u y else m₀ y) → News h₀ env.locals h ((PL, listOf (List.toArray ys) k) :: news) → Q .next { s with heap := h, toks := tk }) :
    wpAny (model prog w) A (pyIter (.ref EV)) (fun it s₂ => LoopI prog w A h₀ env target body Q E it s₂) E s := by
  refine loop_list (items := evs.toArray) (k := ke) stored (NamedInv PL order es news) hh F N ⟨[], 0, rfl, .nil⟩ ?_ ?_ ?_
  · rintro i nx ⟨ys, k, rfl, _⟩
    exact .tail _ hm
  · rintro i v u nx h tk I oI hv ⟨ys, k, rfl, hI⟩ ho F N
    obtain ⟨e, he, hP⟩ := hE.get (i := i) (a := v) (by simpa using hv)
    exact turn i e v u ys k h tk I oI he hP hI ho F N
  · rintro u h tk nx ⟨ys, k, rfl, hI⟩ F N
    rw [List.size_toArray, hE.length, List.take_length] at hI
    exact done u ys k h tk hI F N

theorem named_turn {L I PL : Addr} {oI : Obj} {stored : List Str} {s₁ : Shared} {h' : Heap} {tk : Nat} {m' : Str → Option Value} {ys ys' : List Value} {k k' i : Nat} {order : List Int} {es : List Ev}
    (F : Fr h₀ L h' m') (N : News h₀ L h' ((I, oI) :: (PL, listOf ys.toArray k) :: news)) (ho : OwnOff ((PL, listOf ys'.toArray k') :: news) [I])
    (hI : IntsAre ys (named order (es.take (i + 1)))) (hm : ∀ z, stored.contains z = false → m' z = m₀ z) :
    TurnAt h₀ L I oI (JN stored m₀ (NamedInv PL order es news (i + 1))) s₁ Q .next { s₁ with heap := h', toks := tk } :=
  TurnAt.mk ((PL, listOf ys.toArray k) :: news) F N (.head _) (fun _ h => .tail _ h) (fun p hp => by
    rcases List.mem_cons.mp hp with rfl | hp
    · exact ho (PL, listOf ys'.toArray k') (.head _)
    · exact ho p (.tail _ hp)) ⟨⟨ys, k, rfl, hI⟩, hm⟩
end

theorem named_fin {a b : Nat} {a' b' : Nat} {s : Shared} {Q : Value → Shared → Prop} (h1 : a = a') (h2 : b = b') (h : Q (.bool (decide (a' = b'))) s) : Q (.bool ((a : Int) == (b : Int))) s := by
  subst h1 h2
  have e : ((a : Int) == (b : Int)) = decide (a = b) := by rw [Bool.eq_iff_iff]; simp; omega
  rw [e]; exact h

set_option maxRecDepth 100000 in
set_option maxHeartbeats 8000000 in
theorem named_spec {w : World} {mean : ExcName → Option Value} {mg mb : Str → Option Value} {dp un : Nat} {gd : Option (List Code)} {cn : Str} {cs : Scope} {L a : Addr} {ccd : Value} {cl : List (Str × Addr)} {outer : List Env}
   {A₀ : Around} {base h₀ : Heap} {m : Str → Option Value} {s : Shared} {Q E : Value → Shared → Prop}
   {news : List (Addr × Obj)} {EV OR : Addr} {evs os : List Value} {ke ko : Nat} {es : List Ev} {order : List Int}
   (B : Below A₀ base outer h₀) (F : Fr h₀ L s.heap m) (X : (Mine.hd.heap_39 w.params).In h₀) (N : News h₀ L s.heap news)
   (T : Top Mine.hd.view_39 (looseW Mine.hd.view_39 []) mean mg mb h₀) (hk : cs.kind = .function)
   (hEV : (EV, listOf evs.toArray ke) ∈ news) (hOR : (OR, listOf os.toArray ko) ∈ news) (hE : Each (EvIn news) evs es) (hO : IntsAre os order) (hle : es.length ≤ 60) (hlo : order.length ≤ 60)
   (hdp : (dp : Int) ≤ 600)
   (ret : ∀ h' tk', Fr h₀ L h' m → News h₀ L h' news → Q (.bool (decide ((named order es).length = order.length))) { s with heap := h', toks := tk' }) :
   wpAny (model PySem.Challenge.rw_sj0034_01.row.prog w) (ktrTop dp un gd cn cs L a ccd cl outer) (call (.ref (ktn_at% "_law_named")) [.ref EV, .ref OR]) Q E s := by
  refine wpAny_call ?_
  have hroom : dp < recursionLimit := by simp only [recursionLimit]; omega
  w_top off
  k_with_none
  k_with "subscriptTail Name Constant ref int" => ((k_here; (refine' item_tupN ?kN ?km ?k0 ?k1 ?kx ?_; (case kN => k_asm); (case km => k_mem); (case k0 => decide); (case k1 => decide); (case kx => first | exact rfl | assumption); k_whole)))
  k_with "subscriptTail Subscript" => ((k_here; (with_reducible show wpAny _ _ (subscriptTail _ _ (Value.ref _) (Value.int _ _)) _ _ _); (refine' item_tupN ?kN ?km ?k0 ?k1 ?kx ?_; (case kN => k_asm); (case km => k_mem); (case k0 => decide); (case k1 => decide); (case kx => first | exact rfl | assumption); k_whole)))
  k_with "compareOp In int ref" => ((k_here; (refine' in_intsN ?kN ?km ?ki ?_; (case kN => k_asm); (case km => k_mem); (case ki => assumption))))
  k_with "compareOp NotIn int ref" => ((k_here; (refine' notin_intsN ?kN ?km ?ki ?_; (case kN => k_asm); (case km => k_mem); (case ki => assumption))))
  k_with "call builtin:len" => ((k_here; (with_reducible show wpAny _ _ (call (Value.builtin "len") [Value.ref _]) _ _ _); (refine' len_listN ?kN ?km ?kz ?_; (case kN => k_asm); (case km => k_mem); (case kz => omega); k_whole)))
  k_with "call builtin:list.append" => ((k_here; (refine' append_K ?kF ?kN ?kU ?_ ?kz; (case kF => k_asm); (case kN => k_asm); (case kU => k_upd); (case kz => ((try simp only [List.size_toArray, Array.size_push]); rw [sizeLine_eq]; omega)); intro h' F' N'; (try simp only [List.push_toArray] at N'); (try k_sweep))))
  k_with "k_all" => (exact ownOff_ne (by assumption))
  k_with "execs cons" => ((rename Fr _ _ _ _ => zF); k_dflt (refine st_to (s := s) zF (by with_reducible rfl) (fun tk => ?_)); (try k_made); (refine wpAny_execs_cons ?_); (try dsimp only))
  k_with "k_ne" => (refine neN ?_; (try dsimp only); first | with_reducible assumption | (refine Ne.symm ?_; with_reducible assumption) | (refine Nat.ne_of_lt ?_; with_reducible assumption) | (refine Nat.ne_of_gt ?_; with_reducible assumption) | k_extra "k_nf")
  k_with "k_nf" => ((rename _ ∧ _ => lX); first | exact Nat.ne_of_gt lX.1 | exact Nat.ne_of_lt lX.1 | exact Nat.ne_of_gt lX.2.1 | exact Nat.ne_of_lt lX.2.1 | exact Nat.ne_of_gt lX.2.2.1 | exact Nat.ne_of_lt lX.2.2.1 | exact Nat.ne_of_gt lX.2.2.2.1 | exact Nat.ne_of_lt lX.2.2.2.1 | exact Nat.ne_of_gt lX.2.2.2.2.1 | exact Nat.ne_of_lt lX.2.2.2.2.1 | exact Nat.ne_of_gt lX.2.2.2.2.2.1 | exact Nat.ne_of_lt lX.2.2.2.2.2.1 | exact Nat.ne_of_gt lX.2.2.2.2.2.2.1 | exact Nat.ne_of_lt lX.2.2.2.2.2.2.1 | exact Nat.ne_of_gt lX.2.2.2.2.2.2.2.1 | exact Nat.ne_of_lt lX.2.2.2.2.2.2.2.1 | exact Nat.ne_of_gt lX.2.2.2.2.2.2.2.2.1 | exact Nat.ne_of_lt lX.2.2.2.2.2.2.2.2.1 | exact Nat.ne_of_gt lX.2.2.2.2.2.2.2.2.2.1 | exact Nat.ne_of_lt lX.2.2.2.2.2.2.2.2.2.1 | exact Nat.ne_of_gt lX.2.2.2.2.2.2.2.2.2.2.1 | exact Nat.ne_of_lt lX.2.2.2.2.2.2.2.2.2.2.1 | exact Nat.ne_of_gt lX.2.2.2.2.2.2.2.2.2.2.2.1 | exact Nat.ne_of_lt lX.2.2.2.2.2.2.2.2.2.2.2.1 | exact Nat.ne_of_gt lX.2 | exact Nat.ne_of_lt lX.2 | exact Nat.ne_of_gt lX.2.2 | exact Nat.ne_of_lt lX.2.2 | exact Nat.ne_of_gt lX.2.2.2 | exact Nat.ne_of_lt lX.2.2.2 | exact Nat.ne_of_gt lX.2.2.2.2 | exact Nat.ne_of_lt lX.2.2.2.2 | exact Nat.ne_of_gt lX.2.2.2.2.2 | exact Nat.ne_of_lt lX.2.2.2.2.2 | exact Nat.ne_of_gt lX.2.2.2.2.2.2 | exact Nat.ne_of_lt lX.2.2.2.2.2.2 | exact Nat.ne_of_gt lX.2.2.2.2.2.2.2 | exact Nat.ne_of_lt lX.2.2.2.2.2.2.2 | exact Nat.ne_of_gt lX.2.2.2.2.2.2.2.2 | exact Nat.ne_of_lt lX.2.2.2.2.2.2.2.2 | exact Nat.ne_of_gt lX.2.2.2.2.2.2.2.2.2 | exact Nat.ne_of_lt lX.2.2.2.2.2.2.2.2.2 | exact Nat.ne_of_gt lX.2.2.2.2.2.2.2.2.2.2 | exact Nat.ne_of_lt lX.2.2.2.2.2.2.2.2.2.2 | exact Nat.ne_of_gt lX.2.2.2.2.2.2.2.2.2.2.2 | exact Nat.ne_of_lt lX.2.2.2.2.2.2.2.2.2.2.2 | exact Ne.symm lX.1 | exact lX.1 | exact Ne.symm lX.2.1 | exact lX.2.1 | exact Ne.symm lX.2.2.1 | exact lX.2.2.1 | exact Ne.symm lX.2.2.2.1 | exact lX.2.2.2.1 | exact Ne.symm lX.2.2.2.2.1 | exact lX.2.2.2.2.1 | exact Ne.symm lX.2.2.2.2.2.1 | exact lX.2.2.2.2.2.1 | exact Ne.symm lX.2.2.2.2.2.2.1 | exact lX.2.2.2.2.2.2.1 | exact Ne.symm lX.2.2.2.2.2.2.2.1 | exact lX.2.2.2.2.2.2.2.1 | exact Ne.symm lX.2.2.2.2.2.2.2.2.1 | exact lX.2.2.2.2.2.2.2.2.1 | exact Ne.symm lX.2.2.2.2.2.2.2.2.2.1 | exact lX.2.2.2.2.2.2.2.2.2.1 | exact Ne.symm lX.2.2.2.2.2.2.2.2.2.2.1 | exact lX.2.2.2.2.2.2.2.2.2.2.1 | exact Ne.symm lX.2.2.2.2.2.2.2.2.2.2.2.1 | exact lX.2.2.2.2.2.2.2.2.2.2.2.1 | (clear lX; k_extra "k_nf"))
  k_with "exec For Tuple Name cons nil" => (((rename Fr _ _ _ _ => lF); k_dflt (refine For_IF lF ?_)))
  k_with "pyIter ref" => (((rename ∀ p ∈ news, _ => hl0); (have hoP := off_lt hl0); k_dflt (refine named_loop (order := order) [Str.ofString "edge", Str.ofString "e", Str.ofString "index"] (by rfl) (by k_asm) (by k_asm) hEV hE (fun i e v u ys k h tk I oI he hP hI ho F N => gen_T (fun QT hQT => ?_)) (fun u ys k h tk hI F N => ?_))) <;> (have hyl := IntsAre.length hI) <;> (try (have hn3 := named_le order es)) <;> (try (have hnl := named_le order (es.take i); have hn2 := take_le es i; rcases hP with ⟨hh, ht⟩ | ⟨hh, he2, hc⟩)) <;> (try (have hCI := ownOff_ne ho _ List.mem_cons_self; have hIC := hCI.symm)) <;> (try (cases ht)))
  have hol := hO.length
  k_dflt ktr_enter
  refine gen_L (fun QL EL hQL hEL => ?_)
  k_steps
  all_goals first | (with_reducible refine hQT _ _ ?_) | ((with_reducible refine hQL _ _ ?_); (try dsimp only); k_steps) | skip
  all_goals first
    | exact named_turn (by assumption) (by assumption) ho (named_tree he hI) (fun z hz => by dsimp only; simp at hz; simp [hz])
    | exact named_turn (by assumption) (by assumption) ho (named_keep he hI (by (first | rw [at_neg (by assumption) (by assumption)] | rw [at_pos (by assumption)] | rw [at_uns (by assumption)] | skip); intro a b c; contradiction)) (fun z hz => by dsimp only; simp at hz; simp [hz])
    | exact named_turn (by assumption) (by assumption) ho (named_add he hI (by assumption) (by first | exact at_neg (by assumption) (by assumption) | exact at_pos (by assumption) | exact at_uns (by assumption)) (by assumption) (by assumption)) (fun z hz => by dsimp only; simp at hz; simp [hz])
    | skip
  · (rename News h₀ _ _ _ => kN)
    (rename Fr h₀ _ _ _ => kF)
    exact named_fin hyl hol (ret _ _ kF (news_sub kN fun p hp => .tail _ hp))
end Mine
end

section
open PySem PySem.W PyProof.Rows PySem.Spec PySem.Calls
set_option maxRecDepth 100000
namespace Mine
section
variable {prog : Program} {w : World} {A : Around} {E : Value → Shared → Prop} {s : Shared}

/-- a plain dict with the entries es, whatever its keys -/
def RawAt (h : Heap) (d : Addr) (es : Array DictEntry) (ep : Nat) : Prop := ∃ o, h.get? d = some o ∧ o.ExactDict ∧ o.data = .dict es ep
theorem RawAt.at {h h' : Heap} {d : Addr} {es : Array DictEntry} {ep : Nat} (x : RawAt h d es ep) (e : ∀ o, h.get? d = some o → h'.get? d = some o) : RawAt h' d es ep := let ⟨o, ho, r⟩ := x; ⟨o, e o ho, r⟩
theorem RawAt.typeIs {d : Addr} {es : Array DictEntry} {ep : Nat} (x : RawAt s.heap d es ep) : s.TypeIs (.ref d) "dict" := let ⟨o, ho, hc, _⟩ := x; ⟨o, ho, hc.1⟩
theorem RawAt.lt_size {h : Heap} {d : Addr} {es : Array DictEntry} {ep : Nat} (x : RawAt h d es ep) : d < h.objs.size := let ⟨_, ho, _⟩ := x; Heap.lt_size ho

theorem raw_pyIter {d : Addr} {es : Array DictEntry} {ep : Nat} {Q : Value → Shared → Prop} (hd : (d == sysModules) = false) (hm : RawAt s.heap d es ep)
    (hQ : Q (.ref s.heap.objs.size) { s with heap := s.heap.push { cls := .type "dict_keyiterator", data := .fields #[.ref d, .int 0 0, .int es.size 0, .int ep 0] } }) :
    wpAny (model prog w) A (pyIter (.ref d)) Q E s := by
  obtain ⟨o, ho, hc, hdat⟩ := id hm
  have hT : s.TypeIs (.ref d) "dict" := hm.typeIs
  refine wpAny_pyIter_slot hT F.slot_dict_iter (wpAny_call_entry F.slot_dict_iter hT F.entry_dict_iter ?_ (F.args_dict_iter_1 _))
  unfold Builtin.«dict.__iter__»
  refine wpAny_bind ?_
  unfold Builtin.Dict.dictSlotNone
  refine wpAny_bind (wpAny_notOrdered_dict hT ?_)
  show wpAny _ _ (pure (Value.ref d)) _ _ s
  refine wpAny_pure ?_
  show wpAny _ _ (Builtin.Dict.showsAll d >>= _) _ _ s
  unfold Builtin.Dict.showsAll
  rw [if_neg (by rw [hd]; exact Bool.false_ne_true)]
  refine wpAny_bind (wpAny_pure ?_)
  refine wpAny_bind (wpAny_dictEntries ho hdat ?_)
  refine wpAny_bind (wpAny_dictEpoch ho hdat ?_)
  refine wpAny_bind (wpAny_newObj_type (wpAny_pure ⟨_, rfl, "dict_keyiterator", _, ⟨_, Heap.get?_push_size _ rfl, rfl⟩, F.slot_dict_keyiterator_next.lookup, ?_⟩))
  simpa [rawInt] using hQ

theorem raw_next {it d : Addr} {i ep : Nat} {es : Array DictEntry} {e : DictEntry} {Q : Option Value → Shared → Prop} (hit : s.heap.IsKeyIter it d i es.size ep)
    (hm : RawAt s.heap d es ep) (hx : es[i]? = some e)
    (hQ : ∀ h', h'.IsKeyIter it d (i + 1) es.size ep → Heap.SameBut it s.heap h' → Q (some e.key) { s with heap := h' }) :
    wpAny (model prog w) A (pyNext (.ref it)) Q E s := by
  obtain ⟨o, ho, hc, hd⟩ := id hit
  obtain ⟨od, hod, hcd, hdd⟩ := id hm
  unfold pyNext
  refine wpAny_bind (wpAny_attempt (wpAny_callSpecial?_slot (name := Str.ofString "__next__") hit.typeIs F.slot_dict_keyiterator_next
    (wpAny_call_entry F.slot_dict_keyiterator_next hit.typeIs F.entry_dict_keyiterator_next ?_ (F.args_dict_keyiterator_next_1 _))))
  refine wpAny_bind (wpAny_pure ?_)
  refine wpAny_bind ?_
  refine wpAny_bind ?_
  first | refine wpAny_bind (wpAny_typeNameOfWhole_keyiter hit.typeIs (wpAny_pure ?_)) | refine wpAny_bind (wpAny_typeNameOf_keyiter hit.typeIs (wpAny_pure ?_))
  refine wpAny_bind (wpAny_fieldsOf ho hd ?_)
  have hown : Builtin.Dict_items.ownsTuple "dict_keyiterator" = false := by decide
  simp only [hown, Bool.false_eq_true, if_false]
  show wpAny _ _ (if (Value.ref d == Value.none) = true then _ else _) _ _ s
  rw [if_neg (show ¬ ((Value.ref d == Value.none) = true) from Bool.false_ne_true)]
  refine wpAny_bind (wpAny_pure ?_)
  refine wpAny_bind (wpAny_dictEntries hod hdd ?_)
  rw [if_neg (by simp)]
  refine wpAny_bind (wpAny_pure ?_)
  refine wpAny_bind (wpAny_dictEpoch hod hdd ?_)
  rw [if_neg (by simp)]
  refine wpAny_pure ?_
  obtain ⟨hlt', rfl⟩ := Array.getElem?_eq_some_iff.mp hx
  simp only [show ¬ ((i : Int) < 0) from by omega, if_false, Int.toNat_natCast, Array.getElem?_eq_getElem hlt']
  refine wpAny_bind ?_
  first | refine wpAny_bind (wpAny_typeNameOfWhole_keyiter hit.typeIs (wpAny_pure ?_)) | refine wpAny_bind (wpAny_typeNameOf_keyiter hit.typeIs (wpAny_pure ?_))
  refine wpAny_bind (wpAny_isOneOf_keyiter hit.typeIs ?_)
  show wpAny _ _ (setField (.ref it) 1 (rawInt ((i : Int) + 1)) >>= _) _ _ s
  refine wpAny_bind (wpAny_setField ho hd (by simp) ?_)
  have hit' : (s.heap.update it (Obj.mapFields (·.setIfInBounds 1 (rawInt ((i : Int) + 1))))).IsKeyIter it d (i + 1) es.size ep :=
    ⟨_, Heap.get?_update_self _ ho (Obj.isFreed_of_fields (Obj.data_mapFields hd _)), (Obj.cls_mapFields ..).trans hc, by rw [Obj.data_mapFields hd]; simp [rawInt]⟩
  refine wpAny_bind (wpAny_holding ?_)
  refine wpAny_bind (wpAny_isOneOf_keyiter (s := { s with heap := s.heap.update it (Obj.mapFields (·.setIfInBounds 1 (rawInt ((i : Int) + 1)))) }) hit'.typeIs ?_)
  show wpAny _ _ (pure es[i].key) _ _ _
  exact wpAny_pure (wpAny_pure ⟨_, rfl, wpAny_pure (hQ _ hit' (Heap.SameBut.update ..))⟩)

theorem raw_end {it d : Addr} {i ep : Nat} {es : Array DictEntry} {Q : Option Value → Shared → Prop} (hh : A.handled = none) (hit : s.heap.IsKeyIter it d i es.size ep)
    (hm : RawAt s.heap d es ep) (hx : es.size ≤ i)
    (hQ : ∀ h', Heap.ExtBut it s.heap h' → Q none { s with heap := h' }) : wpAny (model prog w) A (pyNext (.ref it)) Q E s := by
  obtain ⟨o, ho, hc, hd⟩ := id hit
  obtain ⟨od, hod, hcd, hdd⟩ := id hm
  unfold pyNext
  refine wpAny_bind (wpAny_attempt (wpAny_callSpecial?_slot (name := Str.ofString "__next__") hit.typeIs F.slot_dict_keyiterator_next
    (wpAny_call_entry F.slot_dict_keyiterator_next hit.typeIs F.entry_dict_keyiterator_next ?_ (F.args_dict_keyiterator_next_1 _))))
  refine wpAny_bind (wpAny_pure ?_)
  refine wpAny_bind ?_
  refine wpAny_bind ?_
  first | refine wpAny_bind (wpAny_typeNameOfWhole_keyiter hit.typeIs (wpAny_pure ?_)) | refine wpAny_bind (wpAny_typeNameOf_keyiter hit.typeIs (wpAny_pure ?_))
  refine wpAny_bind (wpAny_fieldsOf ho hd ?_)
  have hown : Builtin.Dict_items.ownsTuple "dict_keyiterator" = false := by decide
  simp only [hown, Bool.false_eq_true, if_false]
  show wpAny _ _ (if (Value.ref d == Value.none) = true then _ else _) _ _ s
  rw [if_neg (show ¬ ((Value.ref d == Value.none) = true) from Bool.false_ne_true)]
  refine wpAny_bind (wpAny_pure ?_)
  refine wpAny_bind (wpAny_dictEntries hod hdd ?_)
  rw [if_neg (by simp)]
  refine wpAny_bind (wpAny_pure ?_)
  refine wpAny_bind (wpAny_dictEpoch hod hdd ?_)
  rw [if_neg (by simp)]
  refine wpAny_pure ?_
  simp only [show ¬ ((i : Int) < 0) from by omega, if_false, Int.toNat_natCast, Array.getElem?_eq_none hx]
  refine wpAny_bind ?_
  first | refine wpAny_bind (wpAny_typeNameOfWhole_keyiter hit.typeIs (wpAny_pure ?_)) | refine wpAny_bind (wpAny_typeNameOf_keyiter hit.typeIs (wpAny_pure ?_))
  show wpAny _ _ (setField (.ref it) 0 .none >>= _) _ _ s
  refine wpAny_bind (wpAny_setField ho hd (by simp) ?_)
  show wpAny _ _ (newExc (.type "StopIteration") [] >>= _) _ _ _
  refine wpAny_bind ?_
  simp only [newExc, newTuple]
  refine wpAny_bind (wpAny_newObj_type ?_ (by size_fits))
  refine wpAny_bind (m := firstArgMember _ _) (wpAny_of_eq (a := Value.none) (by first | rfl | (simp only [firstArgMember]; rfl)) ?_)
  refine wpAny_newObj_type ?_ (by size_fits)
  simp only [raiseNew]
  refine wpAny_bind (wpAny_handled ?_)
  rw [show A.in1.handled = none from hh]
  refine wpAny_bind (wpAny_pure (wpAny_throw ?_))
  refine wpAny_bind (wpAny_isInstance (T := "StopIteration") (b := true) ⟨_, Heap.get?_push_size _ rfl, rfl⟩ isSubtype_stop ?_)
  exact wpAny_pure (hQ _ (((Heap.SameBut.update ..).extBut.push _).push _))

theorem raw_walks (hh : A.handled = none) (I d : Addr) (hne : d ≠ I) (es : Array DictEntry) (ep : Nat) :
    Walks prog w A I [I, d] [I] es.size (fun i v => ∃ e, es[i]? = some e ∧ v = e.key) (fun i h => h.IsKeyIter I d i es.size ep ∧ RawAt h d es ep) where
  sub := fun b hb => by simp at hb; simp [hb]
  frame := fun _ _ _ st hk => ⟨st.1.at fun o e => hk I (by simp) o e, st.2.at fun o e => hk d (by simp) o e⟩
  item := fun i s Q E hi st hQ => by
    refine raw_next st.1 st.2 (Array.getElem?_eq_getElem hi) fun h' hit' hs' => ?_
    exact hQ _ h' s.toks ⟨_, Array.getElem?_eq_getElem hi, rfl⟩ ⟨hit', st.2.at fun o e => hs'.extBut d o hne e⟩ fun b o hb e => hs'.extBut b o (fun h => hb (by simp [h])) e
  done := fun s Q E st hQ => raw_end hh st.1 st.2 (Nat.le_refl _) fun h' he' => hQ h' s.toks fun b o hb e => he' b o (fun h => hb (by simp [h])) e
  self := fun _ _ _ _ st hQ => wpAny_pyIter_keyiter st.1 hQ

theorem raw_src {d : Addr} {es : Array DictEntry} {ep : Nat} (lo : (d == sysModules) = false) : KdlSrc prog w "dict" d d es.size (fun i v => ∃ e, es[i]? = some e ∧ v = e.key) (fun h => RawAt h d es ep) where
  type := fun _ hm => hm.typeIs
  there := fun _ hm => ⟨hm.lt_size, hm.lt_size⟩
  keep := fun _ _ hm hk => hm.at fun o e => hk d (.inl rfl) o e
  notList := by decide
  notTuple := by decide
  hint := fun _ _ _ _ hm hq => kdl_hint_dict hm.typeIs hq
  iter := fun _ _ hh hm => ⟨_, _, (fun _ _ hq => raw_pyIter lo hm hq), raw_walks hh _ d (Nat.ne_of_lt hm.lt_size) es ep, ⟨⟨_, Heap.get?_push_size _ rfl, rfl, rfl⟩, hm.at fun _ e => Heap.get?_push_of_some _ e⟩⟩
end

section
variable {prog : Program} {w : World} {A : Around} {E : Value → Shared → Prop} {s : Shared} {h₀ : Heap} {L d : Addr} {m : Str → Option Value} {news news' : List (Addr × Obj)}
/-- a dict whose keys are tuples of ints -/
def TupDict (prog : Program) (w : World) (o : Obj) (xs : List (List Int × Addr × Value)) : Prop :=
  ∃ es ep, o.ExactDict ∧ o.data = .dict es ep ∧ es.toList = xs.map (entryOfKey (tupleKind (intKind prog w))) ∧ (xs.map (·.1)).Nodup
def TupKeys (prog : Program) (w : World) (news : List (Addr × Obj)) (xs : List (List Int × Addr × Value)) : Prop := ∀ x ∈ xs, ∃ its : Array Value, (x.2.1, tupO its) ∈ news ∧ ItemsAre (intKind prog w) x.1 its.toList
theorem TupKeys.is (N : News h₀ L s.heap news) {xs : List (List Int × Addr × Value)} (h : TupKeys prog w news xs) : ∀ x ∈ xs, (tupleKind (intKind prog w)).is s.heap x.1 x.2.1 := fun x hx => by
  obtain ⟨its, hm, hi⟩ := h x hx
  exact ⟨_, its, 0, (N _ hm).1, rfl, rfl, hi⟩
theorem tupd_set {xs : List (List Int × Addr × Value)} {o : Obj} {a : Addr} {its : Array Value} {k : List Int} {v : Value} {g : Obj → List (Addr × Obj)} {Q : Unit → Shared → Prop} (hu : A.units + 1 < cLine) (F : Fr h₀ L s.heap m) (N : News h₀ L s.heap news) (U : UpdF d o news g)
    (hd : TupDict prog w o xs) (hk : TupKeys prog w news xs) (ha : (a, tupO its) ∈ news) (hi : ItemsAre (intKind prog w) k its.toList) (hsz : xs.length ≤ sizeLine)
    (h : ∀ h' o' tk', Fr h₀ L h' m → News h₀ L h' (g o') → TupDict prog w o' (storedH xs k a v) → Q () { s with heap := h', toks := tk' }) : wpAny (model prog w) A (setItem (.ref d) (.ref a) v) Q E s := by
  obtain ⟨pre, post, rfl, hg, x1, x2⟩ := U.split
  have hm := N (d, o) (List.mem_append_right _ (.head _))
  obtain ⟨es, ep, h1, h2, h3, h4⟩ := hd
  refine wpAny_setItem_heap (knd := tupleKind (intKind prog w)) (xs := xs) (k := k) hu ⟨_, its, 0, (N _ ha).1, rfl, rfl, hi⟩ ⟨o, es, ep, hm.1, h1, h2, h3, hk.is N, h4⟩ (fun h' hmm hs => ?_) hsz
  obtain ⟨o', es', ep', ho', e1, e2, e3, _, e4⟩ := hmm
  exact h h' o' _ (F.change hs hm.2.1 hm.2.2) (hg o' ▸ N.setIn x1 x2 hs ho') ⟨es', ep', e1, e2, e3, e4⟩
end
end Mine
end

section
open PySem PySem.W PyProof.Rows PySem.Spec PySem.Calls
set_option maxRecDepth 100000
namespace Mine
/-- every leaf of a sort's tree is a row of n indices below n -/
def okB (n : Nat) : KasT (Array Nat) → Bool
  | .ret p => p.size == n && p.all (fun i => decide (i < n))
  | .ask i j k => decide (i < n) && decide (j < n) && okB n (k true) && okB n (k false)
theorem okB_wp {n : Nat} {cmp : Nat → Nat → (Bool → Shared → Prop) → Shared → Prop} {Q : Array Nat → Shared → Prop} {P : Shared → Prop}
    (hask : ∀ i j C s, P s → i < n → j < n → (∀ b s', P s' → C b s') → cmp i j C s) (hQ : ∀ p s, P s → p.size = n → (∀ i ∈ p.toList, i < n) → Q p s) :
    ∀ (t : KasT (Array Nat)), okB n t = true → ∀ s, P s → t.kasWp cmp Q s
  | .ret p, h, s, hs => by
    simp only [okB, Bool.and_eq_true, beq_iff_eq, Array.all_eq_true, decide_eq_true_eq] at h
    exact hQ p s hs h.1 fun i hi => by
      obtain ⟨k, hk, rfl⟩ := List.mem_iff_getElem.mp hi
      exact h.2 k (by simpa using hk)
  | .ask i j k, h, s, hs => by
    simp only [okB, Bool.and_eq_true, decide_eq_true_eq] at h
    refine hask i j _ s hs h.1.1.1 h.1.1.2 fun b s' hs' => ?_
    cases b with
    | true => exact okB_wp hask hQ (k true) h.1.2 s' hs'
    | false => exact okB_wp hask hQ (k false) h.2 s' hs'
theorem getD_lt {α : Type} {l : List α} {i : Nat} (d : α) (h : i < l.length) : l.getD i d = l[i] := by simp [List.getD, h]
theorem ok2 : okB 2 (kas_sort 2) = true := by decide +kernel
theorem ok3 : okB 3 (kas_sort 3) = true := by decide +kernel
theorem ok4 : okB 4 (kas_sort 4) = true := by decide +kernel
section
variable {prog : Program} {w : World} {A : Around} {E : Value → Shared → Prop} {s : Shared} {h₀ : Heap} {L d : Addr} {m : Str → Option Value} {news news' : List (Addr × Obj)}
/-- a value that is a pair (3, i) of the ledger -/
def RowIn (news : List (Addr × Obj)) (v : Value) : Prop := ∃ a t u i, v = .ref a ∧ (a, tupO #[.int 3 t, .int i u]) ∈ news
theorem row_lt {x y : Value} {C : Bool → Shared → Prop} (N : News h₀ L s.heap news) (hx : RowIn news x) (hy : RowIn news y) (h : ∀ b, C b s) : wpAny (model prog w) A (keyLt' (tuples' true) x y) C E s := by
  obtain ⟨a, t, u, i, rfl, ha⟩ := hx
  obtain ⟨b, t', u', j, rfl, hb⟩ := hy
  refine kat_lt (N _ ha).1 rfl (N _ hb).1 rfl ?_
  show KatLex prog w A true _ C [(.int 3 t, .int 3 t'), (.int i u, .int j u')] 0 s
  refine kat_cons (wpAny_eqBool_int ?_)
  show KatGo prog w A true _ C _ _ _ _ (3 == 3) s
  rw [show ((3 : Int) == 3) = true from rfl]
  refine kat_yes (kat_cons (wpAny_eqBool_int ?_))
  refine kat_go (fun _ => kat_yes (kat_nil (h _))) (fun _ => kat_no ?_)
  show wpAny _ _ (oneLt' false _ _) _ _ _
  exact kat_one _ _ (lt_int (h _))
theorem small_sort {D : Addr} {vs : List Value} {n : Nat} {Q : Value → Shared → Prop} (F : Fr h₀ L s.heap m) (N : News h₀ L s.heap ((D, listOf vs.toArray n) :: news)) (hD : ∀ p ∈ news, p.1 ≠ D) (h2 : vs.length < 2)
    (h : ∀ h' c, Fr h₀ L h' m → News h₀ L h' ((D, listOf vs.toArray c) :: news) → Q .none { s with heap := h' }) : wpAny (model prog w) A (call (.builtin "list.sort") [.ref D]) Q E s := by
  have nz := N _ (.head _)
  have ho : s.heap.get? D = some (seqObj "list" vs.toArray n) := nz.1
  have ha : D < s.heap.objs.size := Heap.lt_size ho
  refine wpAny_call_entry slot_list_sort ⟨_, ho, rfl⟩ entry_list_sort ?_ (args_list_sort _)
  rw [list_sort_plain]
  have s1 := Heap.SameBut.update s.heap D (Obj.mapSeq fun _ => (#[] : Array Value))
  obtain ⟨e1, ho1⟩ : ∃ e1, (s.heap.update D (Obj.mapSeq fun _ => (#[] : Array Value))).get? D = some (seqObj "list" #[] e1) := ⟨_, get?_update_seq ho fun _ => #[]⟩
  have F3 : Fr h₀ L (((s.heap.update D (Obj.mapSeq fun _ => (#[] : Array Value))).push (seqObj "tuple" vs.toArray 0)).push (seqObj "list" #[] 0)) m := ((kas_fr F s1 nz.2.1 nz.2.2).push _).push _
  have N2 : News h₀ L (((s.heap.update D (Obj.mapSeq fun _ => (#[] : Array Value))).push (seqObj "tuple" vs.toArray 0)).push (seqObj "list" #[] 0)) news :=
    (kas_news (fun p hp => N p (.tail _ hp)) s1 hD).grown fun b x e => Heap.get?_push_of_some _ (Heap.get?_push_of_some _ e)
  have ho6 : (((s.heap.update D (Obj.mapSeq fun _ => (#[] : Array Value))).push (seqObj "tuple" vs.toArray 0)).push (seqObj "list" #[] 0)).get? D = some (seqObj "list" #[] e1) := Heap.get?_push_of_some _ (Heap.get?_push_of_some _ ho1)
  refine wpAny_bind (listItems_at ho rfl ?_)
  refine wpAny_bind (listUpdate_at ho rfl ?_ (by rw [List.size_toArray, sizeLine_eq]; omega) (Nat.zero_le _))
  refine wpAny_bind (seqEpoch_at ho1 rfl ?_)
  refine wpAny_bind (wpAny_newTuple ?_ (by show vs.length ≤ _; rw [sizeLine_eq]; omega))
  refine wpAny_bind (wpAny_newList ?_ (Nat.zero_le _))
  refine wpAny_holding ?_
  show wpAny (model prog w) _ _ _ E { s with heap := ((s.heap.update D (Obj.mapSeq fun _ => (#[] : Array Value))).push (seqObj "tuple" vs.toArray 0)).push (seqObj "list" #[] 0) }
  dsimp only
  generalize (((s.heap.update D (Obj.mapSeq fun _ => (#[] : Array Value))).push (seqObj "tuple" vs.toArray 0)).push (seqObj "list" #[] 0)) = H at F3 N2 ho6 ⊢
  have hn2 : vs.toArray.size < 2 := by rw [List.size_toArray]; omega
  rw [if_pos hn2, if_pos hn2]
  refine wpAny_bind (wpAny_pure ?_)
  rw [StateT.run_pure]
  refine wpAny_bind (wpAny_pure ?_)
  dsimp only
  have hout : (arrOf (SortSt.mk' general' (vs.toArray.zip vs.toArray) #[] 7 none)).map (·.2) = vs.toArray := by
    show ((vs.toArray.zip vs.toArray).map (·.2)) = _
    apply Array.toList_inj.mp
    simp [List.map_snd_zip]
  rw [hout]
  refine wpAny_bind (seqEpoch_at ho6 rfl ?_)
  refine wpAny_bind (listUpdate_at ho6 rfl ?_ (Nat.zero_le _) (by rw [List.size_toArray, sizeLine_eq]; omega))
  simp only [bne_self_eq_false, Bool.false_eq_true, if_false]
  have s2 := Heap.SameBut.update H D (Obj.mapSeq fun _ => vs.toArray)
  obtain ⟨c2, hc2⟩ : ∃ c2, (H.update D (Obj.mapSeq fun _ => vs.toArray)).get? D = some (seqObj "list" vs.toArray c2) := ⟨_, get?_update_seq ho6 fun _ => vs.toArray⟩
  refine wpAny_pure ⟨_, rfl, h _ c2 (kas_fr F3 s2 nz.2.1 nz.2.2) fun p hp => ?_⟩
  rcases List.mem_cons.mp hp with rfl | hp
  · exact ⟨hc2, nz.2⟩
  · exact kas_news N2 s2 hD p hp
theorem rows_tups (N : News h₀ L s.heap news) : ∀ vs : List Value, (∀ v ∈ vs, RowIn news v) → ∃ fs, KatTups s.heap vs fs ∧ fs.length = vs.length ∧ ∀ f ∈ fs, ∃ t, f = Value.int 3 t
  | [], _ => ⟨[], KatTups.nil, rfl, fun _ h => nomatch h⟩
  | v :: r, h => by
    obtain ⟨fs, h1, h2, h3⟩ := rows_tups N r fun u hu => h u (.tail _ hu)
    obtain ⟨a, t, u, i, rfl, ha⟩ := h v (.head _)
    refine ⟨.int 3 t :: fs, KatTups.cons (N _ ha).1 rfl rfl rfl h1, by simp [h2], fun f hf => ?_⟩
    rcases List.mem_cons.mp hf with rfl | hf
    · exact ⟨t, rfl⟩
    · exact h3 f hf

theorem rows_sort {D : Addr} {vs : List Value} {n : Nat} {Q : Value → Shared → Prop} (F : Fr h₀ L s.heap m) (N : News h₀ L s.heap ((D, listOf vs.toArray n) :: news)) (hD : ∀ p ∈ news, p.1 ≠ D) (h4 : vs.length ≤ 4) (hv : ∀ v ∈ vs, RowIn news v)
    (h : ∀ h' c vs', Fr h₀ L h' m → News h₀ L h' ((D, listOf (List.toArray vs') c) :: news) → vs'.length = vs.length → (∀ v ∈ vs', v ∈ vs) → Q .none { s with heap := h' }) : wpAny (model prog w) A (call (.builtin "list.sort") [.ref D]) Q E s := by
  by_cases h2 : vs.length < 2
  · exact small_sort F N hD h2 fun h' c F' N' => h h' c vs F' N' rfl fun _ h => h
  refine kat_lsort (vs := vs) (g := fun o => (D, o) :: news) F N (UpdF.head hD) (by simp) (by omega) (by omega) fun e1 h' F' N' => ?_
  have N1 : News h₀ L h' news := fun p hp => N' p (.tail _ hp)
  obtain ⟨fs, t1, t2, t3⟩ := rows_tups (s := { s with heap := h' }) N1 vs hv
  refine kat_kind (T := .type "int") t1 (by omega) (fun f hf => ?_) rfl ?_
  · obtain ⟨t, rfl⟩ := t3 f hf
    exact Looks.of_pure rfl
  show (kas_sort vs.length).kasWp (kas_ask prog w A.in1 (tuples' true) vs) _ _
  refine okB_wp (n := vs.length) (P := fun s' => s' = { s with heap := h' }) (fun i j C s' hs hi hj hC => ?_) (fun p s' hs hp hpi => ?_) _ ?_ _ rfl
  · subst hs
    have hx : RowIn news (vs.getD i Value.none) := by
      rw [getD_lt _ hi]; exact hv _ (List.getElem_mem hi)
    have hy : RowIn news (vs.getD j Value.none) := by
      rw [getD_lt _ hj]; exact hv _ (List.getElem_mem hj)
    exact row_lt (s := { s with heap := h' }) N1 hx hy fun b => hC b _ rfl
  · subst hs
    refine KasFin.intro F' N' (UpdF.head hD) fun h'' c F'' N'' => h h'' c _ F'' N'' (by rw [List.length_map, Array.length_toList]; exact hp) fun v hv' => ?_
    obtain ⟨i, hi, rfl⟩ := List.mem_map.mp hv'
    rw [getD_lt _ (hpi i hi)]
    exact List.getElem_mem _
  · match vs.length, h4, h2 with
    | 2, _, _ => exact ok2
    | 3, _, _ => exact ok3
    | 4, _, _ => exact ok4
    | 0, _, h2 => exact absurd (by decide) h2
    | 1, _, h2 => exact absurd (by decide) h2
    | n + 5, h4, _ => omega

/-- sorted(words): as many rows as the dict has keys -/
theorem rows_sorted {o : Obj} {xs : List (List Int × Addr × Value)} {Q : Value → Shared → Prop} (hh : A.handled = none) (F : Fr h₀ L s.heap m) (N : News h₀ L s.heap news) (lo : (d == sysModules) = false) (hm : (d, o) ∈ news) (hd : TupDict prog w o xs) (h4 : xs.length ≤ 4) (hx : ∀ x ∈ xs, RowIn news (.ref x.2.1))
    (h : ∀ D h' tk' c vs', Fr h₀ L h' m → News h₀ L h' ((D, listOf (List.toArray vs') c) :: news) → (∀ p ∈ news, @LT.lt Nat _ p.1 D) → vs'.length = xs.length → (∀ v ∈ vs', ∃ x ∈ xs, v = .ref x.2.1) → Q (.ref D) { s with heap := h', toks := tk' }) :
    wpAny (model prog w) A (call (.builtin "sorted") [.ref d]) Q E s := by
  obtain ⟨es, ep, h1, h2, h3, _⟩ := hd
  have hl : es.size = xs.length := by rw [← Array.length_toList, h3, List.length_map]
  refine kdu_sorted (raw_src (prog := prog) (w := w) (es := es) (ep := ep) lo) hh F N ⟨o, (N _ hm).1, h1, h2⟩ (by rw [hl, sizeLine_eq]; omega) fun D h' tk vs F' N' l1 hv hP => ?_
  have orig : ∀ v ∈ vs, ∃ x ∈ xs, v = .ref x.2.1 := fun v hv' => by
    obtain ⟨j, hj⟩ := List.mem_iff_getElem?.mp hv'
    obtain ⟨e, he, rfl⟩ := hP j v hj
    have : e ∈ es.toList := by rw [← Array.getElem?_toList] at he; exact List.mem_of_getElem? he
    rw [h3] at this
    obtain ⟨x, hxm, rfl⟩ := List.mem_map.mp this
    exact ⟨x, hxm, rfl⟩
  refine rows_sort (s := { s with heap := h', toks := tk }) F' N' (fun p hp => Nat.ne_of_lt (l1 p hp)) (by omega) (fun v hv' => ?_) fun h'' c vs' F'' N'' e1 e2 => h D h'' tk c vs' F'' N'' l1 (by omega) fun v hv => orig v (e2 v hv)
  obtain ⟨x, hxm, rfl⟩ := orig v hv'
  exact hx x hxm
theorem tupd_nil {o : Obj} (h : o.IsDictOf (intKind prog w) []) : TupDict prog w o [] := by
  obtain ⟨es, ep, h1, h2, _, hp, _⟩ := h
  have e : es.toList = [] := List.length_eq_zero_iff.mp (by rw [hp.length]; rfl)
  exact ⟨es, ep, h1, h2, by rw [e]; rfl, List.nodup_nil⟩
theorem no_loop {env : Env} {Q : Flow → Shared → Prop} {target : Expr} {body : List Stmt} {m₀ : Str → Option Value} {D : Addr} {c : Nat} {vs : List Value} (hh : A.handled = none) (F : Fr h₀ env.locals s.heap m₀) (N : News h₀ env.locals s.heap news) (hm : (D, listOf vs.toArray c) ∈ news) (hv : vs.length = 0)
    (done : ∀ h tk, Fr h₀ env.locals h m₀ → News h₀ env.locals h news → Q .next { s with heap := h, toks := tk }) :
    wpAny (model prog w) A (pyIter (.ref D)) (fun it s₂ => LoopI prog w A h₀ env target body Q E it s₂) E s := by
  refine loop_list (items := vs.toArray) (k := c) [] (fun _ nx => nx = news) hh F N rfl (fun i nx e => e ▸ hm) ?_ ?_
  · intro i v u nx h tk I oI hv' _ _ _ _
    rw [List.length_eq_zero_iff.mp hv] at hv'
    simp at hv'
  · intro u h tk nx e F N
    exact done h tk F (e ▸ N)
end
end Mine
end

section
open PySem PySem.W PyProof.Rows PySem.Spec PySem.Calls
set_option maxRecDepth 100000
namespace Mine
section
variable {prog : Program} {w : World} {A : Around} {E : Value → Shared → Prop} {s : Shared} {h₀ : Heap} {L d : Addr} {m : Str → Option Value} {news : List (Addr × Obj)}
theorem ints_of : ∀ vs : List Value, (∀ v ∈ vs, ∃ n t, v = Value.int n t) → ∃ ns, IntsAre vs ns
  | [], _ => ⟨[], .nil⟩
  | v :: r, h => by
    obtain ⟨n, t, rfl⟩ := h v (.head _)
    obtain ⟨ns, hn⟩ := ints_of r fun u hu => h u (.tail _ hu)
    exact ⟨n :: ns, .cons n t hn⟩
theorem ints_sort {D : Addr} {vs : List Value} {ns : List Int} {n : Nat} {Q : Value → Shared → Prop} (F : Fr h₀ L s.heap m) (N : News h₀ L s.heap ((D, listOf vs.toArray n) :: news)) (hD : ∀ p ∈ news, p.1 ≠ D) (hI : IntsAre vs ns) (h6 : ns.length < 64)
    (h : ∀ h' c vs' ns', Fr h₀ L h' m → News h₀ L h' ((D, listOf (List.toArray vs') c) :: news) → IntsAre vs' ns' → ns'.Perm ns → ns'.Pairwise (· ≤ ·) → Q .none { s with heap := h' }) : wpAny (model prog w) A (call (.builtin "list.sort") [.ref D]) Q E s := by
  have nz := N _ (.head _)
  have ho : s.heap.get? D = some (seqObj "list" vs.toArray n) := nz.1
  refine wpAny_call_entry slot_list_sort ⟨_, ho, rfl⟩ entry_list_sort (list_sort_tree ho hI (by rw [hI.length]; exact h6) fun out ns' a1 a2 a3 => ?_) (args_list_sort _)
  obtain ⟨e, he⟩ := sortedHeap_at (vs := vs) (out := out) ho
  have old : ∀ b o, b ≠ D → s.heap.get? b = some o → (sortedHeap s.heap D vs out).get? b = some o := fun b o hb q => by rw [sortedHeap_old hb (Heap.lt_size q)]; exact q
  have hDL : D ≠ L := nz.2.1
  have F' : Fr h₀ L (sortedHeap s.heap D vs out) m := ⟨F.ns.at' fun o q => old _ o (Ne.symm hDL) q, fun b o q => old b o (fun e => by rw [e, nz.2.2] at q; cases q) (F.keep b o q), F.above⟩
  refine ⟨_, rfl, h _ e out.toList ns' F' (fun p hp => ?_) a1 a2 a3⟩
  rcases List.mem_cons.mp hp with rfl | hp
  · exact ⟨by rw [Array.toArray_toList]; exact he, nz.2⟩
  · exact ⟨old _ _ (hD p hp) (N p (.tail _ hp)).1, (N p (.tail _ hp)).2⟩

/-- a dict whose keys are the ints ks, in this order -/
def IntDict (prog : Program) (w : World) (o : Obj) (ks : List Int) : Prop := ∃ kvs, o.IsDictOf (intKind prog w) kvs ∧ kvs.map (·.1) = ks
theorem IntDict.nodup {o : Obj} {ks : List Int} (h : IntDict prog w o ks) : ks.Nodup := by
  obtain ⟨kvs, ⟨_, _, _, _, _, _, hn⟩, rfl⟩ := h; exact hn
theorem intd_nil {o : Obj} (h : o.IsDictOf (intKind prog w) []) : IntDict prog w o [] := ⟨[], h, rfl⟩
def addKey (ks : List Int) (k : Int) : List Int := if k ∈ ks then ks else ks ++ [k]
theorem stored_keys (kvs : List (Int × Value)) (k : Int) (v : Value) : (PySem.stored kvs k v).map (·.1) = addKey (kvs.map (·.1)) k := by
  unfold PySem.stored addKey
  by_cases hk : k ∈ kvs.map (·.1)
  · rw [if_pos hk, if_pos (by obtain ⟨x, hx, rfl⟩ := List.mem_map.mp hk; exact List.any_eq_true.mpr ⟨x, hx, by simp⟩)]
    rw [List.map_map]
    refine List.map_congr_left fun x _ => ?_
    simp only [Function.comp]
    split <;> simp_all
  · rw [if_neg hk, if_neg (by intro h; obtain ⟨x, hx, e⟩ := List.any_eq_true.mp h; exact hk (List.mem_map.mpr ⟨x, hx, by simpa using e⟩))]
    simp
theorem intd_set {o : Obj} {ks : List Int} {k : Int} {t : Tok} {v : Value} {g : Obj → List (Addr × Obj)} {Q : Unit → Shared → Prop} (F : Fr h₀ L s.heap m) (N : News h₀ L s.heap news) (U : UpdF d o news g) (hd : IntDict prog w o ks) (hsz : ks.length ≤ 1000)
    (h : ∀ h' o', Fr h₀ L h' m → News h₀ L h' (g o') → IntDict prog w o' (addKey ks k) → Q () { s with heap := h', toks := s.toks + 1 }) : wpAny (model prog w) A (setItem (.ref d) (.int k t) v) Q E s := by
  obtain ⟨kvs, hk, rfl⟩ := hd
  exact kda_set (knd := intKind prog w) F N U hk (intKind_is _ _ _ _) (by rw [sizeLine_eq]; rw [List.length_map] at hsz; omega) fun h' o' F' N' hd' => h h' o' F' N' ⟨_, hd', stored_keys _ _ _⟩
theorem ints_keys : ∀ (vs : List Value) (kvs : List (Int × Value)), vs.length = kvs.length → (∀ (j : Nat) (v : Value), vs[j]? = some v → ∃ (k : Int) (x : Value), kvs[j]? = some (k, x) ∧ (intKind prog w).is k v = true) → IntsAre vs (kvs.map (·.1))
  | [], [], _, _ => .nil
  | v :: r, (k, x) :: q, hl, h => by
    obtain ⟨k', x', e, hi⟩ := h 0 v rfl
    simp only [List.getElem?_cons_zero, Option.some.injEq, Prod.mk.injEq] at e
    obtain ⟨rfl, rfl⟩ := e
    have hr := ints_keys r q (by simpa using hl) fun j u hu => by simpa using h (j + 1) u (by simpa using hu)
    cases v with
    | int n t =>
      have : n = k := by simpa [intKind, Value.isInt] using hi
      subst this
      exact .cons n t hr
    | _ => simp [intKind, Value.isInt] at hi
theorem intd_sorted {o : Obj} {ks : List Int} {Q : Value → Shared → Prop} (hh : A.handled = none) (F : Fr h₀ L s.heap m) (N : News h₀ L s.heap news) (lo : (d == sysModules) = false) (hm : (d, o) ∈ news) (hd : IntDict prog w o ks) (h6 : ks.length < 64)
    (h : ∀ D h' tk' c vs' ns', Fr h₀ L h' m → News h₀ L h' ((D, listOf (List.toArray vs') c) :: news) → (∀ p ∈ news, @LT.lt Nat _ p.1 D) → IntsAre vs' ns' → ns'.Perm ks → ns'.Pairwise (· ≤ ·) → Q (.ref D) { s with heap := h', toks := tk' }) :
    wpAny (model prog w) A (call (.builtin "sorted") [.ref d]) Q E s := by
  obtain ⟨kvs, hk, rfl⟩ := hd
  obtain ⟨ep, hat⟩ := (Heap.dictOf_iff.mpr ⟨o, (N _ hm).1, hk⟩).dictAt
  refine kdu_sorted (kdl_dict (knd := intKind prog w) (kvs := kvs) (ep := ep) lo) hh F N hat (by rw [sizeLine_eq]; rw [List.length_map] at h6; omega) fun D h' tk vs F' N' l1 hl hP => ?_
  have hI : IntsAre vs (kvs.map (·.1)) := ints_keys vs kvs hl fun j v hv => hP j v hv
  exact ints_sort (s := { s with heap := h', toks := tk }) F' N' (fun p hp => Nat.ne_of_lt (l1 p hp)) hI h6 fun h'' c vs' ns' F'' N'' a1 a2 a3 => h D h'' tk c vs' ns' F'' N'' l1 a1 a2 a3
end
end Mine
end

section
open PySem PySem.W PyProof.Rows PySem.Spec PySem.Calls
set_option maxRecDepth 100000
namespace Mine
def Ev.keys : Ev → List Int
  | .tree t => t.keys
  | .word _ _ _ => []
def allKeys (es : List Ev) : List Int := (es.flatMap Ev.keys).foldl addKey []
theorem allKeys_step {es : List Ev} {i : Nat} {e : Ev} (h : es[i]? = some e) : allKeys (es.take (i + 1)) = e.keys.foldl addKey (allKeys (es.take i)) := by
  unfold allKeys
  rw [List.take_add_one, h, List.flatMap_append, List.foldl_append]; simp
theorem addKey_mem {x : Int} : ∀ (l ks : List Int), x ∈ l.foldl addKey ks ↔ x ∈ ks ∨ x ∈ l
  | [], ks => by simp
  | k :: r, ks => by
    rw [List.foldl_cons, addKey_mem r]
    unfold addKey
    split
    · rename_i h
      constructor
      · rintro (a | a)
        · exact .inl a
        · exact .inr (.tail _ a)
      · rintro (a | a)
        · exact .inl a
        · rcases List.mem_cons.mp a with rfl | a
          · exact .inl h
          · exact .inr a
    · simp only [List.mem_append, List.mem_cons, List.not_mem_nil, or_false]
      constructor
      · rintro ((a | a) | a)
        · exact .inl a
        · exact .inr (.inl a)
        · exact .inr (.inr a)
      · rintro (a | a | a)
        · exact .inl (.inl a)
        · exact .inl (.inr a)
        · exact .inr a
theorem addKey_len : ∀ (l ks : List Int), (l.foldl addKey ks).length ≤ ks.length + l.length
  | [], ks => Nat.le_refl _
  | k :: r, ks => by
    rw [List.foldl_cons]
    refine Nat.le_trans (addKey_len r _) ?_
    unfold addKey
    split <;> simp <;> omega
theorem allKeys_mem {x : Int} {es : List Ev} : x ∈ allKeys es ↔ ∃ t, Ev.tree t ∈ es ∧ x ∈ t.keys := by
  unfold allKeys
  rw [addKey_mem]
  simp only [List.not_mem_nil, false_or, List.mem_flatMap]
  constructor
  · rintro ⟨e, he, hx⟩
    cases e with
    | tree t => exact ⟨t, he, hx⟩
    | word _ _ _ => exact absurd hx (by simp [Ev.keys])
  · rintro ⟨t, ht, hx⟩; exact ⟨_, ht, hx⟩
theorem flat_take (es : List Ev) (i : Nat) : ((es.take i).flatMap Ev.keys).length ≤ (es.flatMap Ev.keys).length := by
  conv => rhs; rw [← List.take_append_drop i es]
  rw [List.flatMap_append, List.length_append]; omega
theorem allKeys_take (es : List Ev) (i : Nat) : (allKeys (es.take i)).length ≤ (es.flatMap Ev.keys).length :=
  Nat.le_trans (addKey_len _ _) (by have := flat_take es i; simpa using this)
theorem evKeys_len {es : List Ev} {i : Nat} {e : Ev} (h : es[i]? = some e) : ((es.take i).flatMap Ev.keys).length + e.keys.length ≤ (es.flatMap Ev.keys).length := by
  have := flat_take es (i + 1)
  rw [List.take_add_one, h, List.flatMap_append, List.length_append] at this
  simpa using this
theorem key_bound {es : List Ev} {i i2 : Nat} {e : Ev} (h : es[i]? = some e) (hle : (es.flatMap Ev.keys).length ≤ 60) : ((e.keys.take i2).foldl addKey (allKeys (es.take i))).length ≤ 1000 := by
  have h1 := addKey_len (e.keys.take i2) (allKeys (es.take i))
  have h2 := allKeys_take es i
  have h3 := evKeys_len h
  have h4 : (e.keys.take i2).length ≤ e.keys.length := by rw [List.length_take]; omega
  omega
theorem off_ne_nat {C I : Addr} {o : Obj} {l : List (Addr × Obj)} (h : OwnOff l [I]) (hm : (C, o) ∈ l) : @Ne Nat I C := fun e => h _ hm I (.head _) e.symm
section
variable {prog : Program} {w : World} {A : Around} {s : Shared} {env : Env} {h₀ : Heap} {E : Value → Shared → Prop} {Q : Flow → Shared → Prop} {target : Expr} {body : List Stmt} {m₀ : Str → Option Value} {news : List (Addr × Obj)}

def KeyInv (prog : Program) (w : World) (K C : Addr) (pre rest : List (Addr × Obj)) (ks js : List Int) (i : Nat) (nx : List (Addr × Obj)) : Prop :=
  ∃ oK oc v, nx = pre ++ (K, oK) :: (C, oc) :: rest ∧ oc.data = Data.cell v ∧ IntDict prog w oK ((js.take i).foldl addKey ks)
theorem key_loop {b K C : Addr} {bvs : List Value} {bk : Nat} {js ks : List Int} {oK oc : Obj} {cv : Option Value} (pre : List (Addr × Obj)) {rest : List (Addr × Obj)} (stored : List Str)
    (hh : A.handled = none) (F : Fr h₀ env.locals s.heap m₀) (N : News h₀ env.locals s.heap (pre ++ (K, oK) :: (C, oc) :: rest)) (hb : (b, listOf bvs.toArray bk) ∈ pre) (hj : IntsAre bvs js) (hK : IntDict prog w oK ks) (hc : oc.data = Data.cell cv)
    (turn : ∀ i j t (u : Str → Option Value) oK oc cv h tk I oI, js[i]? = some j → IntDict prog w oK ((js.take i).foldl addKey ks) → oc.data = Data.cell cv → OwnOff (pre ++ (K, oK) :: (C, oc) :: rest) [I] → Fr h₀ env.locals h (fun y => if stored.contains y then u y else m₀ y) → News h₀ env.locals h ((I, oI) :: (pre ++ (K, oK) :: (C, oc) :: rest)) →
      wpAny (model prog w) A (assign target env (.int j t)) (fun _ s₃ => wpAny (model prog w) A (execs body env) (TurnAt h₀ env.locals I oI (JN stored m₀ (KeyInv prog w K C pre rest ks js (i + 1))) { s with heap := h, toks := tk } Q) E s₃) E { s with heap := h, toks := tk })
    (done : ∀ (u : Str → Option Value) oK oc cv h tk, IntDict prog w oK (js.foldl addKey ks) → oc.data = Data.cell cv → Fr h₀ env.locals h (fun y => if stored.contains y then u y else m₀ y) → News h₀ env.locals h (pre ++ (K, oK) :: (C, oc) :: rest) → Q .next { s with heap := h, toks := tk }) :
    wpAny (model prog w) A (pyIter (.ref b)) (fun it s₂ => LoopI prog w A h₀ env target body Q E it s₂) E s := by
  refine loop_list (items := bvs.toArray) (k := bk) stored (KeyInv prog w K C pre rest ks js) hh F N ⟨oK, oc, cv, rfl, hc, hK⟩ ?_ ?_ ?_
  · rintro i nx ⟨oK, oc, cv, rfl, _, _⟩
    exact List.mem_append_left _ hb
  · rintro i v u nx h tk I oI hv ⟨oK, oc, cv, rfl, hc, hI⟩ ho F N
    obtain ⟨j, t, rfl, hj'⟩ := hj.at i v (by simpa using hv)
    exact turn i j t u oK oc cv h tk I oI hj' hI hc ho F N
  · rintro u h tk nx ⟨oK, oc, cv, rfl, hc, hI⟩ F N
    rw [List.size_toArray, hj.length, List.take_length] at hI
    exact done u oK oc cv h tk hI hc F N
theorem off_two {I K C : Addr} {oK oK' oc oc' : Obj} {pre rest : List (Addr × Obj)} (ho : OwnOff (pre ++ (K, oK') :: (C, oc') :: rest) [I]) : OwnOff (pre ++ (K, oK) :: (C, oc) :: rest) [I] := fun p hp => by
  rcases List.mem_append.mp hp with hp | hp
  · exact ho p (List.mem_append_left _ hp)
  · rcases List.mem_cons.mp hp with rfl | hp
    · exact ho (K, oK') (List.mem_append_right _ (.head _))
    · rcases List.mem_cons.mp hp with rfl | hp
      · exact ho (C, oc') (List.mem_append_right _ (.tail _ (.head _)))
      · exact ho p (List.mem_append_right _ (.tail _ (.tail _ hp)))
theorem key_turn {L I K C : Addr} {oI oK oK' oc oc' : Obj} {cv : Option Value} {pre rest : List (Addr × Obj)} {stored : List Str} {s₁ : Shared} {h' : Heap} {tk : Nat} {m' : Str → Option Value} {ks js : List Int} {i : Nat} {j : Int}
    (F : Fr h₀ L h' m') (N : News h₀ L h' ((I, oI) :: (pre ++ (K, oK) :: (C, oc) :: rest))) (ho : OwnOff (pre ++ (K, oK') :: (C, oc') :: rest) [I]) (hj : js[i]? = some j)
    (hI : IntDict prog w oK (addKey ((js.take i).foldl addKey ks) j)) (hc : oc.data = Data.cell cv) (hm : ∀ z, stored.contains z = false → m' z = m₀ z) :
    TurnAt h₀ L I oI (JN stored m₀ (KeyInv prog w K C pre rest ks js (i + 1))) s₁ Q .next { s₁ with heap := h', toks := tk } :=
  TurnAt.mk (pre ++ (K, oK) :: (C, oc) :: rest) F N (.head _) (fun _ h => .tail _ h) (off_two ho) ⟨⟨oK, oc, cv, rfl, hc, by rw [List.take_add_one, hj, List.foldl_append]; exact hI⟩, hm⟩
end
end Mine
end

section
open PySem PySem.W PyProof.Rows PySem.Spec
set_option Elab.async false
namespace Mine
theorem fill12 : PySem.Challenge.rw_sj0034_01 = PySem.Challenge.rw_sj0034_01 ∧ Mine.hd.heap_39 = Mine.hd.heap_39 := by
  k_fill
  exact ⟨rfl, rfl⟩
def EvFine : Ev → Prop
  | .tree t => t.leaves ≤ 60 ∧ t.deep ≤ 6
  | .word _ _ _ => True
section
variable {prog : Program} {w : World} {A : Around} {s : Shared} {env : Env} {h₀ : Heap} {E : Value → Shared → Prop} {Q : Flow → Shared → Prop} {target : Expr} {body : List Stmt} {m₀ : Str → Option Value} {news : List (Addr × Obj)}
def AwInvN (prog : Program) (w : World) (q : Addr × Obj) (K C : Addr) (rest : List (Addr × Obj)) (es : List Ev) (i : Nat) (nx : List (Addr × Obj)) : Prop :=
  ∃ oK oc cv, nx = q :: (K, oK) :: (C, oc) :: rest ∧ oc.data = Data.cell cv ∧ IntDict prog w oK (allKeys (es.take i))
theorem awn_loop {K C TR : Addr} {q : Addr × Obj} {evs : List Value} {es : List Ev} {oK oc : Obj} {cv : Option Value} {rest : List (Addr × Obj)} (stored : List Str)
    (hh : A.handled = none) (F : Fr h₀ env.locals s.heap m₀) (N : News h₀ env.locals s.heap (q :: (K, oK) :: (C, oc) :: rest)) (hm : (TR, tupO evs.toArray) ∈ rest) (hE : Each (EvIn rest) evs es) (hK : IntDict prog w oK []) (hc : oc.data = Data.cell cv)
    (turn : ∀ i e v (u : Str → Option Value) oK oc cv h tk I oI, es[i]? = some e → EvIn rest v e → IntDict prog w oK (allKeys (es.take i)) → oc.data = Data.cell cv → OwnOff (q :: (K, oK) :: (C, oc) :: rest) [I] → Fr h₀ env.locals h (fun y => if stored.contains y then u y else m₀ y) → News h₀ env.locals h ((I, oI) :: q :: (K, oK) :: (C, oc) :: rest) →
      wpAny (model prog w) A (assign target env v) (fun _ s₃ => wpAny (model prog w) A (execs body env) (TurnAt h₀ env.locals I oI (JN stored m₀ (AwInvN prog w q K C rest es (i + 1))) { s with heap := h, toks := tk } Q) E s₃) E { s with heap := h, toks := tk })
    (done : ∀ (u : Str → Option Value) oK oc cv h tk, IntDict prog w oK (allKeys es) → oc.data = Data.cell cv → Fr h₀ env.locals h (fun y => if stored.contains y then u y else m₀ y) → News h₀ env.locals h (q :: (K, oK) :: (C, oc) :: rest) → Q .next { s with heap := h, toks := tk }) :
    wpAny (model prog w) A (pyIter (.ref TR)) (fun it s₂ => LoopI prog w A h₀ env target body Q E it s₂) E s := by
  refine loop_tuple (items := evs.toArray) (k := 0) stored (AwInvN prog w q K C rest es) hh F N ⟨oK, oc, cv, rfl, hc, hK⟩ ?_ ?_ ?_
  · rintro i nx ⟨oK, oc, cv, rfl, _, _⟩
    exact .tail _ (.tail _ (.tail _ hm))
  · rintro i v u nx h tk I oI hv ⟨oK, oc, cv, rfl, hc, hI⟩ ho F N
    obtain ⟨e, he, hP⟩ := hE.get (i := i) (a := v) (by simpa using hv)
    exact turn i e v u oK oc cv h tk I oI he hP hI hc ho F N
  · rintro u h tk nx ⟨oK, oc, cv, rfl, hc, hI⟩ F N
    rw [List.size_toArray, hE.length, List.take_length] at hI
    exact done u oK oc cv h tk hI hc F N
theorem awn_turn {L I K C : Addr} {q : Addr × Obj} {oI oK oK' oc oc' : Obj} {cv : Option Value} {rest pre : List (Addr × Obj)} {stored : List Str} {s₁ : Shared} {h' : Heap} {tk : Nat} {m' : Str → Option Value} {es : List Ev} {i : Nat}
    (F : Fr h₀ L h' m') (N : News h₀ L h' (pre ++ (I, oI) :: q :: (K, oK) :: (C, oc) :: rest)) (ho : OwnOff (q :: (K, oK') :: (C, oc') :: rest) [I])
    (hI : IntDict prog w oK (allKeys (es.take (i + 1)))) (hc : oc.data = Data.cell cv) (hm : ∀ z, stored.contains z = false → m' z = m₀ z) :
    TurnAt h₀ L I oI (JN stored m₀ (AwInvN prog w q K C rest es (i + 1))) s₁ Q .next { s₁ with heap := h', toks := tk } :=
  TurnAt.mk (q :: (K, oK) :: (C, oc) :: rest) F N (List.mem_append_right _ (.head _)) (fun _ h => List.mem_append_right _ (.tail _ h)) (off_two (pre := [q]) ho) ⟨⟨oK, oc, cv, rfl, hc, hI⟩, hm⟩
end


set_option maxRecDepth 100000 in
set_option maxHeartbeats 8000000 in
theorem awaitN {w : World} {mean : ExcName → Option Value} {mg mb : Str → Option Value} {dp un : Nat} {gd : Option (List Code)} {cn : Str} {cs : Scope} {L a : Addr} {ccd : Value} {cl : List (Str × Addr)} {outer : List Env}
   {A₀ : Around} {base h₀ : Heap} {m : Str → Option Value} {s : Shared} {Q E : Value → Shared → Prop}
   {news : List (Addr × Obj)} {TR : Addr} {evs : List Value} {es : List Ev}
   (B : Below A₀ base outer h₀) (F : Fr h₀ L s.heap m) (X : (Mine.hd.heap_39 w.params).In h₀) (N : News h₀ L s.heap news)
   (T : Top Mine.hd.view_39 (looseW Mine.hd.view_39 []) mean mg mb h₀) (hk : cs.kind = .function)
   (hTR : (TR, tupO evs.toArray) ∈ news) (hE : Each (EvIn news) evs es) (hg : ∀ e ∈ es, EvFine e) (hle : (es.flatMap Ev.keys).length ≤ 60)
   (hdp : (dp : Int) ≤ 400) (hun : (un : Int) ≤ 1000)
   (ret : ∀ K oK h' tk', Fr h₀ L h' m → News h₀ L h' ((K, oK) :: news) → AllLt K news → (K == sysModules) = false → IntDict PySem.Challenge.rw_sj0034_01.row.prog w oK (allKeys es) → Q (.ref K) { s with heap := h', toks := tk' }) :
   wpAny (model PySem.Challenge.rw_sj0034_01.row.prog w) (ktrTop dp un gd cn cs L a ccd cl outer) (call (.ref (ktn_at% "awaited_keys")) [.ref TR, .none]) Q E s := by
  refine wpAny_call ?_
  have hroom : dp < recursionLimit := by simp only [recursionLimit]; omega
  w_top off
  k_with_none
  k_with "k_all" => (exact ownOff_ne (by assumption))
  k_with "storeName int" => (((k_dflt (refine' storeX_C ?F ?N ?c ?U ?d ?_ ?a ?b; (case a => rfl); (case b => rfl); (case F => k_asm); (case N => k_asm); (case c => rfl); (case U => k_updF); (case d => k_asm); k_whole; intro h' o' F' N' d'; (try dsimp only at N'); (try k_sweep)))))
  k_with "execs cons" => ((rename Fr _ _ _ _ => zF); k_dflt (refine st_to (s := s) zF (by with_reducible rfl) (fun tk => ?_)); (try k_made); (refine wpAny_execs_cons ?_); (try dsimp only))
  k_with "k_ne" => (refine neN ?_; (try dsimp only); first | with_reducible assumption | (refine Ne.symm ?_; with_reducible assumption) | (refine Nat.ne_of_lt ?_; with_reducible assumption) | (refine Nat.ne_of_gt ?_; with_reducible assumption) | k_extra "k_nf")
  k_with "k_nf" => ((rename _ ∧ _ => lX); first | exact Nat.ne_of_gt lX.1 | exact Nat.ne_of_lt lX.1 | exact Nat.ne_of_gt lX.2.1 | exact Nat.ne_of_lt lX.2.1 | exact Nat.ne_of_gt lX.2.2.1 | exact Nat.ne_of_lt lX.2.2.1 | exact Nat.ne_of_gt lX.2.2.2.1 | exact Nat.ne_of_lt lX.2.2.2.1 | exact Nat.ne_of_gt lX.2.2.2.2.1 | exact Nat.ne_of_lt lX.2.2.2.2.1 | exact Nat.ne_of_gt lX.2.2.2.2.2.1 | exact Nat.ne_of_lt lX.2.2.2.2.2.1 | exact Nat.ne_of_gt lX.2.2.2.2.2.2.1 | exact Nat.ne_of_lt lX.2.2.2.2.2.2.1 | exact Nat.ne_of_gt lX.2.2.2.2.2.2.2.1 | exact Nat.ne_of_lt lX.2.2.2.2.2.2.2.1 | exact Nat.ne_of_gt lX.2.2.2.2.2.2.2.2.1 | exact Nat.ne_of_lt lX.2.2.2.2.2.2.2.2.1 | exact Nat.ne_of_gt lX.2.2.2.2.2.2.2.2.2.1 | exact Nat.ne_of_lt lX.2.2.2.2.2.2.2.2.2.1 | exact Nat.ne_of_gt lX.2.2.2.2.2.2.2.2.2.2.1 | exact Nat.ne_of_lt lX.2.2.2.2.2.2.2.2.2.2.1 | exact Nat.ne_of_gt lX.2.2.2.2.2.2.2.2.2.2.2.1 | exact Nat.ne_of_lt lX.2.2.2.2.2.2.2.2.2.2.2.1 | exact Nat.ne_of_gt lX.2 | exact Nat.ne_of_lt lX.2 | exact Nat.ne_of_gt lX.2.2 | exact Nat.ne_of_lt lX.2.2 | exact Nat.ne_of_gt lX.2.2.2 | exact Nat.ne_of_lt lX.2.2.2 | exact Nat.ne_of_gt lX.2.2.2.2 | exact Nat.ne_of_lt lX.2.2.2.2 | exact Nat.ne_of_gt lX.2.2.2.2.2 | exact Nat.ne_of_lt lX.2.2.2.2.2 | exact Nat.ne_of_gt lX.2.2.2.2.2.2 | exact Nat.ne_of_lt lX.2.2.2.2.2.2 | exact Nat.ne_of_gt lX.2.2.2.2.2.2.2 | exact Nat.ne_of_lt lX.2.2.2.2.2.2.2 | exact Nat.ne_of_gt lX.2.2.2.2.2.2.2.2 | exact Nat.ne_of_lt lX.2.2.2.2.2.2.2.2 | exact Nat.ne_of_gt lX.2.2.2.2.2.2.2.2.2 | exact Nat.ne_of_lt lX.2.2.2.2.2.2.2.2.2 | exact Nat.ne_of_gt lX.2.2.2.2.2.2.2.2.2.2 | exact Nat.ne_of_lt lX.2.2.2.2.2.2.2.2.2.2 | exact Nat.ne_of_gt lX.2.2.2.2.2.2.2.2.2.2.2 | exact Nat.ne_of_lt lX.2.2.2.2.2.2.2.2.2.2.2 | exact Ne.symm lX.1 | exact lX.1 | exact Ne.symm lX.2.1 | exact lX.2.1 | exact Ne.symm lX.2.2.1 | exact lX.2.2.1 | exact Ne.symm lX.2.2.2.1 | exact lX.2.2.2.1 | exact Ne.symm lX.2.2.2.2.1 | exact lX.2.2.2.2.1 | exact Ne.symm lX.2.2.2.2.2.1 | exact lX.2.2.2.2.2.1 | exact Ne.symm lX.2.2.2.2.2.2.1 | exact lX.2.2.2.2.2.2.1 | exact Ne.symm lX.2.2.2.2.2.2.2.1 | exact lX.2.2.2.2.2.2.2.1 | exact Ne.symm lX.2.2.2.2.2.2.2.2.1 | exact lX.2.2.2.2.2.2.2.2.1 | exact Ne.symm lX.2.2.2.2.2.2.2.2.2.1 | exact lX.2.2.2.2.2.2.2.2.2.1 | exact Ne.symm lX.2.2.2.2.2.2.2.2.2.2.1 | exact lX.2.2.2.2.2.2.2.2.2.2.1 | exact Ne.symm lX.2.2.2.2.2.2.2.2.2.2.2.1 | exact lX.2.2.2.2.2.2.2.2.2.2.2.1 | (clear lX; k_extra "k_nf"))
  k_with "setItem ref int" => ((k_dflt (refine' intd_set ?kF ?kN ?kU ?kD ?kz ?_; (case kF => k_asm); (case kN => k_asm); (case kU => k_updF); (case kD => assumption); (case kz => exact key_bound he hle); intro h' o' F' N' hD'; (try dsimp only at N'))))
  k_with "exec For Tuple Name cons nil" => (((rename Fr _ _ _ _ => lF); k_dflt (refine For_IF lF ?_)))
  k_with "exec For Tuple Call cons nil" => (((rename Fr _ _ _ _ => lF); k_dflt (refine For_IF lF ?_)))
  k_with "call builtin:sorted" => ((k_dflt (refine rows_sorted (xs := []) (by rfl) (by k_asm) (by k_asm) (by assumption) (by k_mem) (tupd_nil (by assumption)) (by decide) (fun _ h => nomatch h) (fun D h' tk' c vs' F' N' l1 hz hr => ?_))))
  k_with "call ref" => ((first
    | k_dflt (refine keys_all w mean mg mb _ _ _ _ _ _ _ _ _ _ _ _ _ _ _ _ _ _ _ _ (by k_asm) (by k_asm) (by k_asm) (by k_asm) (by k_asm) (by first | exact rfl | assumption) (ht.mono fun p hp => by k_mem) (hg _ (List.mem_of_getElem? he)).1 (by have := (hg _ (List.mem_of_getElem? he)).2; simp only [depth_deeper]; omega) (by have := (hg _ (List.mem_of_getElem? he)).2; simp only [units_deeper]; omega) (fun b bvs bk h' tk' F N hl hJ => ?_))
    | k_dflt (refine keys_word (by k_asm) (by k_asm) (by k_asm) (by k_asm) (by k_asm) (by first | exact rfl | assumption) (by k_mem) (by first | exact dpA (k := 1) hdp | (simp only [depth_deeper]; omega)) (by first | exact dpA (k := 3) hun | (simp only [units_deeper]; omega)) (fun b bvs bk h' tk' F N hl hJ => ?_))))
  k_with "exec For Name Call cons nil" => (((rename Fr _ _ _ _ => lF); k_dflt (refine For_IF lF ?_)))
  k_with "pyIter ref" => ((first | (k_dflt (refine no_loop (by rfl) (by k_asm) (by k_asm) (by k_mem) (by exact hz) (fun h9 tk9 F9 N9 => ?_))) | (k_dflt (refine key_loop [(_, _), (_, _), (_, _)] [] (by rfl) (by k_asm) (by k_asm) (by k_mem) (by exact hJ) (by exact hI) (by exact hc) (fun i2 j2 t2 u2 oK2 oc2 cv2 h2 tk2 I2 oI2 hj2 hI2 hc2 ho2 F2 N2 => gen_T (fun QT hQT => ?_)) (fun u2 oK2 oc2 cv2 h2 tk2 hI2 hc2 F2 N2 => ?_)) <;> (simp only [List.cons_append, List.nil_append] at N2) <;> (simp only [AllLt] at hl) <;> (try (have hq1 := off_ne_nat ho2 (List.mem_append_right _ List.mem_cons_self); have hq2 := off_ne_nat ho2 (List.mem_append_right _ (List.mem_cons_of_mem _ List.mem_cons_self)); simp only [List.cons_append, List.nil_append] at ho2))) | (k_dflt (refine awn_loop [Str.ofString "edge", Str.ofString "e", Str.ofString "index"] (by rfl) (by k_asm) (by k_asm) hTR hE (intd_nil (by assumption)) (by assumption) (fun i e v u oK oc cv h tk I oI he hP hI hc ho F N => gen_T (fun QT hQT => ?_)) (fun u oK oc cv h tk hI hc F N => ?_)) <;> (try (have hp0 := off_ne_nat ho List.mem_cons_self; have hp1 := off_ne_nat ho (List.mem_cons_of_mem _ List.mem_cons_self); have hp2 := off_ne_nat ho (List.mem_cons_of_mem _ (List.mem_cons_of_mem _ List.mem_cons_self)); rcases hP with ⟨hh, ht⟩ | ⟨hh, he2, hc2⟩)))))
  k_dflt k_enter
  refine gen_L (fun QL EL hQL hEL => ?_)
  (rename ∀ p ∈ news, _ => hl0)
  have hoC := off_lt (fun p hp => Nat.lt_succ_of_lt (hl0 p hp))
  k_steps
  all_goals first | (with_reducible refine hQT _ _ ?_) | ((with_reducible refine hQL _ _ ?_); (try dsimp only); k_steps)
  · exact key_turn (pre := [(_, _), (_, _), (_, _)]) (by assumption) (by assumption) ho2 hj2 (by assumption) (by assumption) (fun z hz => by rfl)
  · exact awn_turn (pre := [(_, _)]) (by assumption) (by assumption) ho (by rw [allKeys_step he]; exact hI2) hc2 (fun z hz => by dsimp only; simp at hz; simp [hz])
  · cases hj2
  · exact awn_turn (pre := [(_, _)]) (by assumption) (by assumption) ho (by rw [allKeys_step he]; exact hI2) hc2 (fun z hz => by dsimp only; simp at hz; simp [hz])
  · (rename News h₀ _ _ _ => kN)
    (rename _ ∧ AllLt _ _ => hlK)
    exact ret _ _ _ _ (by assumption) (news_sub kN fun p hp => by
      simp only [List.mem_cons] at hp ⊢
      rcases hp with h | h <;> simp only [h, true_or, or_true]) hlK.2 (by assumption) hI
end Mine
end

section
open PySem PySem.W PyProof.Rows PySem.Spec PySem.Calls
set_option maxRecDepth 100000
namespace Mine
open LCg
section
variable {prog : Program} {w : World} {A : Around} {E : Value → Shared → Prop} {h₀ : Heap} {L : Addr} {m : Str → Option Value} {env : Env} {s : Shared}
/-- a filtered comprehension by a word: the turns in one -/
theorem compRestT_inv {ct elt : Expr} {x : Str} {scope : Scope} {cl : List (Str × Addr)} {S : List (Addr × Obj) → Prop} {P : Nat → Value → Prop} {Fin : List Value → List (Addr × Obj) → Prop} (n : Nat) (Inv : Nat → List Value → List (Addr × Obj) → Prop)
    (turn : ∀ i v ys news I oI C oC D m₂ h tk (E' : Value → Shared → Prop), i < n → P i v → Inv i ys news → NsObj oC m₂ → m₂ x = some v → Fr h₀ L h m → News h₀ L h ((I, oI) :: (C, oC) :: (D, lst ys) :: news) → Off3 I C D news → ((@Ne Nat I C) ∧ (@Ne Nat I D) ∧ (@Ne Nat C D)) →
      wpAny (model prog w) A (isTrue ct (compEnvC scope cl C env) (eval ct (compEnvC scope cl C env))) (fun ok s' => if ok = true then
        wpAny (model prog w) A (eval elt (compEnvC scope cl C env)) (EltAt h₀ L m { s with heap := h, toks := tk } I oI C oC D (lst ys) S (fun y nx => Inv (i + 1) (ys ++ [y]) nx)) E' s'
        else EltAt h₀ L m { s with heap := h, toks := tk } I oI C oC D (lst ys) S (fun _ nx => Inv (i + 1) ys nx) Value.none s') E' { s with heap := h, toks := tk })
    (fin : ∀ ys news, Inv n ys news → Fin ys news) : ∀ (k i : Nat) (ys : List Value) (news : List (Addr × Obj)), i + k = n → Inv i ys news → LCt.CompRestT prog w A h₀ L m env ct elt x scope cl s S P Fin k i ys news
  | 0, i, ys, news, e, hi => by
    have : i = n := by omega
    subst this
    exact LCt.CompRestT.zero (fin ys news hi)
  | k + 1, i, ys, news, e, hi => LCt.CompRestT.succ fun v I oI C oC D m₂ h tk E' hP hC hx F N off ne => by
    refine wpAny_mono (turn i v ys news I oI C oC D m₂ h tk E' (by omega) hP hi hC hx F N off ne) (fun ok s₂ h₂ => ?_) fun _ _ e => e
    cases ok with
    | true =>
      simp only [if_true] at h₂ ⊢
      refine wpAny_mono h₂ (fun y s₂ h₂ => ?_) fun _ _ e => e
      obtain ⟨h', tk', news', rfl, F', N', off', hS', r⟩ := h₂
      exact ⟨h', tk', news', rfl, F', N', off', hS', compRestT_inv n Inv turn fin k (i + 1) (ys ++ [y]) news' (by omega) r⟩
    | false =>
      simp only [Bool.false_eq_true, if_false] at h₂ ⊢
      obtain ⟨h', tk', news', rfl, F', N', off', hS', r⟩ := h₂
      exact ⟨h', tk', news', rfl, F', N', off', hS', compRestT_inv n Inv turn fin k (i + 1) ys news' (by omega) r⟩

/-- a dict's keys as a filtered comprehension's source -/
def RawSrcT (prog : Program) (w : World) (A : Around) (h₀ : Heap) (L : Addr) (m : Str → Option Value) (env : Env) (ct elt : Expr) (x : Str) (scope : Scope) (cl : List (Str × Addr)) (Fin : Shared → List Value → List (Addr × Obj) → Prop) (xv : Value) (s₁ : Shared) : Prop :=
  ∃ d o es ep news, xv = .ref d ∧ A.handled = none ∧ Fr h₀ L s₁.heap m ∧ News h₀ L s₁.heap news ∧ (d, o) ∈ news ∧ o.ExactDict ∧ o.data = .dict es ep ∧ (d == sysModules) = false ∧ es.size ≤ sizeLine ∧
    ∀ g, LCt.CompRestT prog w A h₀ L m env ct elt x scope cl { s₁ with heap := g } (fun nx => (d, o) ∈ nx) (fun i v => ∃ e, es[i]? = some e ∧ v = e.key) (Fin { s₁ with heap := g }) es.size 0 [] news
theorem ListComp_raw {ct elt iter : Expr} {x : Str} {px : Pos} {scope : Scope} {cl : List (Str × Addr)} {pos : Pos} {Q : Value → Shared → Prop} (_F₀ : Fr h₀ L s.heap m)
    (hclos : closureFor scope env = pure cl) (hcell : ∀ y ∈ scope.names, y.2 ≠ .cell) (hkind : scope.kind = .function)
    (hnames : ∀ y ∈ scope.names, y.2 = .local → scope.names.lookup y.1 = some .local) (hx : scope.names.lookup x = some .local)
    (h : wpAny (model prog w) A (eval iter env) (RawSrcT prog w A h₀ L m env ct elt x scope cl (fun s₂ => FinE h₀ L m s₂ Q)) E s)
    (hs : ∀ x, foldedSetIterable iter env x = pure x := by intro _; rfl) :
    wpAny (model prog w) A (eval (.ListComp elt [⟨.Name x px, iter, [ct], 0⟩] scope pos) env) Q E s := by
  rw [eval_ListComp]
  refine wpAny_comprehension_free (use := none) rfl hs hclos hkind hnames (wpAny_mono h (fun xv s₁ h₁ => ?_) fun _ _ e => e)
  obtain ⟨d, o, es, ep, news, rfl, hh, F, N, hm, hc, hd, lo, hsz, R⟩ := h₁
  have hraw : RawAt s₁.heap d es ep := ⟨o, (N _ hm).1, hc, hd⟩
  have hlt := hraw.lt_size
  refine raw_pyIter lo hraw ?_
  have up : ∀ b o', s₁.heap.get? b = some o' → (s₁.heap.push { cls := .type "dict_keyiterator", data := .fields #[.ref d, .int 0 0, .int es.size 0, .int ep 0] }).get? b = some o' := fun b o' e => Heap.get?_push_of_some _ e
  refine LCt.block_T (raw_walks hh s₁.heap.objs.size d (Nat.ne_of_lt hlt) es ep) hsz (fun i h st => by obtain ⟨o, e, _⟩ := st.1; exact ⟨o, e⟩) ?_ hcell hkind hx ⟨⟨_, Heap.get?_push_size _ rfl, rfl, rfl⟩, hraw.at (up d)⟩ (fun b hb => ?_)
    (F.keeps up) (N.grown up) (Nat.ne_of_lt F.ns.lt) (next_is_new F) (fun p hp => Nat.ne_of_lt (Heap.lt_size (N p hp).1)) hm (R _) ?_
  · intro i h h' o' nw st e e' _ N' hI
    exact ⟨by obtain ⟨o', q, r⟩ := st.1; rw [e] at q; cases q; exact ⟨_, e', r⟩, ⟨o, (N' _ hI).1, hc, hd⟩⟩
  · show b < (s₁.heap.push _).objs.size
    rw [Heap.size_push]
    rcases List.mem_cons.mp hb with rfl | hb
    · exact Nat.lt_succ_self _
    · rw [List.mem_singleton.mp hb]; exact Nat.lt_succ_of_lt hlt
  · intro D C h tk m' ys news' F' N' o1 hn hC₀ hD₀ hCL hDL hCD offC fin
    refine ⟨m', hn, fun h'' hs'' => fin D h'' tk (F'.change hs'' hCL hC₀) (fun p hp => ?_) o1⟩
    refine ⟨hs''.extBut _ _ ?_ (N' p hp).1, (N' p hp).2⟩
    rcases List.mem_cons.mp hp with rfl | hp
    · exact Ne.symm hCD
    · exact offC p hp
end
end Mine
end

section
open PySem PySem.W PyProof.Rows PySem.Spec PySem.Calls
set_option maxRecDepth 100000
namespace Mine
/-- the memory's words, from the first bound to the last -/
structure OrdIs (order : List Int) (f l : Int) : Prop where
  mem : ∀ x, x ∈ order ↔ (f ≤ x ∧ x ≤ l) ∨ (l ≤ x ∧ x ≤ f)
  up : f ≤ l → (order.length : Int) = l - f + 1
  down : l ≤ f → (order.length : Int) = f - l + 1
def WordsOk (rs : List (Addr × Obj)) (xs : List (List Int × Addr × Value)) (ns : List Int) : Prop :=
  xs.map (·.1) = ns.map (fun j => [3, j]) ∧ ∀ x ∈ xs, ∃ t u j, x.1 = [3, j] ∧ (x.2.1, tupO #[.int 3 t, .int j u]) ∈ rs
theorem WordsOk.nil {rs : List (Addr × Obj)} : WordsOk rs [] [] := ⟨rfl, fun _ h => nomatch h⟩
theorem WordsOk.len {rs : List (Addr × Obj)} {xs : List (List Int × Addr × Value)} {ns : List Int} (h : WordsOk rs xs ns) : xs.length = ns.length := by
  have := congrArg List.length h.1; simpa using this
theorem WordsOk.mono {rs rs' : List (Addr × Obj)} {xs : List (List Int × Addr × Value)} {ns : List Int} (h : WordsOk rs xs ns) (hs : ∀ p ∈ rs, p ∈ rs') : WordsOk rs' xs ns :=
  ⟨h.1, fun x hx => by obtain ⟨t, u, j, e, hm⟩ := h.2 x hx; exact ⟨t, u, j, e, hs _ hm⟩⟩
theorem WordsOk.rows {rs : List (Addr × Obj)} {xs : List (List Int × Addr × Value)} {ns : List Int} (h : WordsOk rs xs ns) : ∀ x ∈ xs, RowIn rs (.ref x.2.1) := fun x hx => by
  obtain ⟨t, u, j, _, hm⟩ := h.2 x hx
  exact ⟨_, t, u, j, rfl, hm⟩
theorem RowIn.mono {rs rs' : List (Addr × Obj)} {v : Value} (h : RowIn rs v) (hs : ∀ p ∈ rs, p ∈ rs') : RowIn rs' v := by
  obtain ⟨a, t, u, i, e, hm⟩ := h; exact ⟨a, t, u, i, e, hs _ hm⟩
theorem items_pair (prog : Program) (w : World) (j : Int) (t u : Tok) : ItemsAre (intKind prog w) [3, j] (#[Value.int 3 t, Value.int j u] : Array Value).toList :=
  .cons (intKind_is _ _ _ _) (.cons (intKind_is _ _ _ _) .nil)
theorem WordsOk.keys {prog : Program} {w : World} {rs : List (Addr × Obj)} {xs : List (List Int × Addr × Value)} {ns : List Int} (h : WordsOk rs xs ns) : TupKeys prog w rs xs := fun x hx => by
  obtain ⟨t, u, j, e, hm⟩ := h.2 x hx
  exact ⟨_, hm, by rw [e]; exact items_pair _ _ _ _ _⟩
theorem words_set {rs rs' : List (Addr × Obj)} {xs : List (List Int × Addr × Value)} {ns : List Int} {T : Addr} {t u : Tok} {j : Int} {v : Value} (h : WordsOk rs xs ns) (hs : ∀ p ∈ rs, p ∈ rs') (hT : (T, tupO #[.int 3 t, .int j u]) ∈ rs') :
    WordsOk rs' (storedH xs [3, j] T v) (addKey ns j) := by
  have hk : ([3, j] : List Int) ∈ xs.map (·.1) ↔ j ∈ ns := by
    rw [h.1, List.mem_map]
    constructor
    · rintro ⟨k, hk, e⟩; cases e; exact hk
    · intro hk; exact ⟨j, hk, rfl⟩
  unfold storedH addKey
  by_cases hj : j ∈ ns
  · rw [if_pos hj]
    have : (atKey xs [3, j]).isSome = true := by
      obtain ⟨x, hx, e⟩ := List.mem_map.mp (hk.mpr hj)
      unfold atKey
      rw [Option.isSome_map, List.find?_isSome]
      exact ⟨x, hx, by simpa using e⟩
    rw [if_pos this]
    refine ⟨by rw [keys_map_putAt]; exact h.1, fun x hx => ?_⟩
    obtain ⟨y, hy, rfl⟩ := List.mem_map.mp hx
    obtain ⟨t, u, j, e, hm⟩ := h.2 y hy
    refine ⟨t, u, j, ?_, ?_⟩
    · unfold putAt; split <;> exact e
    · unfold putAt; split <;> exact hs _ hm
  · rw [if_neg hj]
    have : ¬ (atKey xs [3, j]).isSome = true := by
      intro hsome
      unfold atKey at hsome
      rw [Option.isSome_map, List.find?_isSome] at hsome
      obtain ⟨x, hx, e⟩ := hsome
      exact hj (hk.mp (List.mem_map.mpr ⟨x, hx, by simpa using e⟩))
    rw [if_neg this]
    refine ⟨by rw [List.map_append, List.map_append, h.1]; rfl, fun x hx => ?_⟩
    rcases List.mem_append.mp hx with hx | hx
    · obtain ⟨t, u, j, e, hm⟩ := h.2 x hx
      exact ⟨t, u, j, e, hs _ hm⟩
    · rw [List.mem_singleton.mp hx]
      exact ⟨t, u, j, rfl, hT⟩
theorem words_tree {rs : List (Addr × Obj)} {xs : List (List Int × Addr × Value)} {order : List Int} {es : List Ev} {i : Nat} {t : Tr} (he : es[i]? = some (.tree t)) (h : WordsOk rs xs (named order (es.take i))) : WordsOk rs xs (named order (es.take (i + 1))) := by
  rw [named_step he]; exact h
theorem words_keep {rs : List (Addr × Obj)} {xs : List (List Int × Addr × Value)} {order : List Int} {es : List Ev} {i : Nat} {idx unk : Int} {sg : Bool} (he : es[i]? = some (.word idx unk sg)) (h : WordsOk rs xs (named order (es.take i))) (hc : ¬ (unk = 0 ∧ Ev.at idx sg ∈ order)) : WordsOk rs xs (named order (es.take (i + 1))) := by
  rw [named_step he]; unfold namedStep; dsimp only; rw [if_neg (fun q => hc ⟨q.1, q.2.1⟩)]; exact h
theorem words_add {rs rs' : List (Addr × Obj)} {xs : List (List Int × Addr × Value)} {order : List Int} {es : List Ev} {i : Nat} {idx unk : Int} {sg : Bool} {T : Addr} {t u : Tok} {v : Value} (he : es[i]? = some (.word idx unk sg)) (h : WordsOk rs xs (named order (es.take i))) (hu : unk = 0) (ho : Ev.at idx sg ∈ order)
    (hs : ∀ p ∈ rs, p ∈ rs') (hT : (T, tupO #[.int 3 t, .int (Ev.at idx sg) u]) ∈ rs') : WordsOk rs' (storedH xs [3, Ev.at idx sg] T v) (named order (es.take (i + 1))) := by
  have := words_set (v := v) h hs hT
  rw [named_step he]; unfold namedStep; dsimp only
  unfold addKey at this
  by_cases hj : Ev.at idx sg ∈ named order (es.take i)
  · rw [if_pos hj] at this; rw [if_neg (fun q => q.2.2 hj)]; exact this
  · rw [if_neg hj] at this; rw [if_pos ⟨hu, ho, hj⟩]; exact this
/-- what awaited_keys gives with a design -/
def fullKeys (order : List Int) (es : List Ev) : List Int := if (named order es).length = order.length then addKey (allKeys es) 3 else allKeys es
def rowKeys (full : Prop) [Decidable full] (ks : List Int) (i : Nat) : List Int := if 0 < i ∧ full then addKey ks 3 else ks
theorem addKey_twice (ks : List Int) (k : Int) : addKey (addKey ks k) k = addKey ks k := by
  have h : k ∈ addKey ks k := by unfold addKey; split <;> simp_all
  rw [addKey, if_pos h]
theorem rowKeys_yes {full : Prop} [Decidable full] (h : full) (ks : List Int) (i : Nat) : addKey (rowKeys full ks i) 3 = rowKeys full ks (i + 1) := by
  unfold rowKeys
  rw [if_pos (show 0 < i + 1 ∧ full from ⟨Nat.succ_pos i, h⟩)]
  split
  · exact addKey_twice _ _
  · rfl
theorem rowKeys_no {full : Prop} [Decidable full] (h : ¬ full) (ks : List Int) (i j : Nat) : rowKeys full ks i = rowKeys full ks j := by
  unfold rowKeys; rw [if_neg (fun q => h q.2), if_neg (fun q => h q.2)]
theorem rowKeys_zero {full : Prop} [Decidable full] (ks : List Int) : rowKeys full ks 0 = ks := if_neg (fun q => Nat.lt_irrefl 0 q.1)
theorem rowKeys_full {order : List Int} {es : List Ev} (h1 : 1 ≤ order.length) : rowKeys ((named order es).length = order.length) (allKeys es) (named order es).length = fullKeys order es := by
  unfold rowKeys fullKeys
  by_cases h : (named order es).length = order.length
  · rw [if_pos ⟨by omega, h⟩, if_pos h]
  · rw [if_neg (fun q => h q.2), if_neg h]
theorem rowKeys_len {full : Prop} [Decidable full] (ks : List Int) (i : Nat) : (rowKeys full ks i).length ≤ ks.length + 1 := by
  unfold rowKeys addKey
  split
  · split <;> simp
  · omega
theorem allKeys_len (es : List Ev) : (allKeys es).length ≤ (es.flatMap Ev.keys).length := by have := allKeys_take es es.length; rwa [List.take_length] at this
theorem tr_tag {news : List (Addr × Obj)} {v : Value} {t : Tr} (h : TrIn news v t) : ∃ a its tag tk, v = .ref a ∧ (a, tupO its) ∈ news ∧ its.toList[(0 : Int).toNat]? = some (.str tag tk) ∧ (tag == Str.ofString "word") = false ∧ tag ≠ Str.ofString "word" := by
  cases h with
  | sig h => exact ⟨_, _, _, _, rfl, h, rfl, by decide, by decide⟩
  | ext h _ => exact ⟨_, _, _, _, rfl, h, rfl, by decide, by decide⟩
  | slice h _ => exact ⟨_, _, _, _, rfl, h, rfl, by decide, by decide⟩
  | cat h _ _ _ => exact ⟨_, _, _, _, rfl, h, rfl, by decide, by decide⟩
section
variable {prog : Program} {w : World} {A : Around} {s : Shared} {env : Env} {h₀ : Heap} {E : Value → Shared → Prop} {Q : Flow → Shared → Prop} {target : Expr} {body : List Stmt} {m₀ : Str → Option Value}
/-- the ledger's words for the first loop -/
def AwInvD (prog : Program) (w : World) (q : List (Addr × Obj)) (W K C : Addr) (rest : List (Addr × Obj)) (order : List Int) (es : List Ev) (i : Nat) (nx : List (Addr × Obj)) : Prop :=
  ∃ oW oK oc cv rs xs, nx = (W, oW) :: (K, oK) :: (C, oc) :: (q ++ rs) ∧ oc.data = Data.cell cv ∧ IntDict prog w oK (allKeys (es.take i)) ∧ TupDict prog w oW xs ∧ WordsOk rs xs (named order (es.take i)) ∧ (∀ p ∈ rest, p ∈ rs) ∧ OwnOff rs [W] ∧ OwnOff rs [K] ∧ OwnOff rs [C]
theorem awd_loop {W K C TR : Addr} (q : List (Addr × Obj)) {evs : List Value} {es : List Ev} {order : List Int} {oW oK oc : Obj} {cv : Option Value} {rest : List (Addr × Obj)} (stored : List Str)
    (hh : A.handled = none) (F : Fr h₀ env.locals s.heap m₀) (N : News h₀ env.locals s.heap ((W, oW) :: (K, oK) :: (C, oc) :: (q ++ rest))) (hm : (TR, tupO evs.toArray) ∈ rest) (hE : Each (EvIn rest) evs es) (hK : IntDict prog w oK []) (hW : TupDict prog w oW []) (hc : oc.data = Data.cell cv)
    (o1 : OwnOff rest [W]) (o2 : OwnOff rest [K]) (o3 : OwnOff rest [C])
    (turn : ∀ i e v (u : Str → Option Value) oW oK oc cv rs xs h tk I oI, es[i]? = some e → EvIn rs v e → IntDict prog w oK (allKeys (es.take i)) → oc.data = Data.cell cv → TupDict prog w oW xs → WordsOk rs xs (named order (es.take i)) → (∀ p ∈ rest, p ∈ rs) → OwnOff rs [W] → OwnOff rs [K] → OwnOff rs [C] →
      OwnOff ((W, oW) :: (K, oK) :: (C, oc) :: (q ++ rs)) [I] → Fr h₀ env.locals h (fun y => if stored.contains y then u y else m₀ y) → News h₀ env.locals h ((I, oI) :: (W, oW) :: (K, oK) :: (C, oc) :: (q ++ rs)) →
      wpAny (model prog w) A (assign target env v) (fun _ s₃ => wpAny (model prog w) A (execs body env) (TurnAt h₀ env.locals I oI (JN stored m₀ (AwInvD prog w q W K C rest order es (i + 1))) { s with heap := h, toks := tk } Q) E s₃) E { s with heap := h, toks := tk })
    (done : ∀ (u : Str → Option Value) oW oK oc cv rs xs h tk, IntDict prog w oK (allKeys es) → oc.data = Data.cell cv → TupDict prog w oW xs → WordsOk rs xs (named order es) → (∀ p ∈ rest, p ∈ rs) → OwnOff rs [W] → OwnOff rs [K] → OwnOff rs [C] →
      Fr h₀ env.locals h (fun y => if stored.contains y then u y else m₀ y) → News h₀ env.locals h ((W, oW) :: (K, oK) :: (C, oc) :: (q ++ rs)) → Q .next { s with heap := h, toks := tk }) :
    wpAny (model prog w) A (pyIter (.ref TR)) (fun it s₂ => LoopI prog w A h₀ env target body Q E it s₂) E s := by
  refine loop_tuple (items := evs.toArray) (k := 0) stored (AwInvD prog w q W K C rest order es) hh F N ⟨oW, oK, oc, cv, rest, [], rfl, hc, hK, hW, .nil, fun _ h => h, o1, o2, o3⟩ ?_ ?_ ?_
  · rintro i nx ⟨oW, oK, oc, cv, rs, xs, rfl, _, _, _, _, hs, _⟩
    exact .tail _ (.tail _ (.tail _ (List.mem_append_right _ (hs _ hm))))
  · rintro i v u nx h tk I oI hv ⟨oW, oK, oc, cv, rs, xs, rfl, hc, hI, hW, hwo, hs, o1, o2, o3⟩ ho F N
    obtain ⟨e, he, hP⟩ := hE.get (i := i) (a := v) (by simpa using hv)
    exact turn i e v u oW oK oc cv rs xs h tk I oI he (hP.mono hs) hI hc hW hwo hs o1 o2 o3 ho F N
  · rintro u h tk nx ⟨oW, oK, oc, cv, rs, xs, rfl, hc, hI, hW, hwo, hs, o1, o2, o3⟩ F N
    rw [List.size_toArray, hE.length, List.take_length] at hI hwo
    exact done u oW oK oc cv rs xs h tk hI hc hW hwo hs o1 o2 o3 F N
/-- a turn's end -/
theorem awd_turn {L I W K C : Addr} {q : List (Addr × Obj)} {oI oW oW' oK oK' oc oc' : Obj} {cv : Option Value} {rest rs rs' news' : List (Addr × Obj)} {xs : List (List Int × Addr × Value)} {order : List Int} {stored : List Str} {s₁ : Shared} {h' : Heap} {tk : Nat} {m' : Str → Option Value} {es : List Ev} {i : Nat}
    (F : Fr h₀ L h' m') (N : News h₀ L h' news') (hI' : (I, oI) ∈ news') (hsub : ∀ p ∈ (W, oW) :: (K, oK) :: (C, oc) :: (q ++ rs'), p ∈ news') (ho : OwnOff ((W, oW') :: (K, oK') :: (C, oc') :: (q ++ rs)) [I]) (hrs : OwnOff rs' [I])
    (hI : IntDict prog w oK (allKeys (es.take (i + 1)))) (hc : oc.data = Data.cell cv) (hW : TupDict prog w oW xs) (hwo : WordsOk rs' xs (named order (es.take (i + 1)))) (hs : ∀ p ∈ rest, p ∈ rs') (o1 : OwnOff rs' [W]) (o2 : OwnOff rs' [K]) (o3 : OwnOff rs' [C]) (hm : ∀ z, stored.contains z = false → m' z = m₀ z) :
    TurnAt h₀ L I oI (JN stored m₀ (AwInvD prog w q W K C rest order es (i + 1))) s₁ Q .next { s₁ with heap := h', toks := tk } :=
  TurnAt.mk ((W, oW) :: (K, oK) :: (C, oc) :: (q ++ rs')) F N hI' hsub (fun p hp => by
    rcases List.mem_cons.mp hp with rfl | hp
    · exact ho (W, oW') (.head _)
    · rcases List.mem_cons.mp hp with rfl | hp
      · exact ho (K, oK') (.tail _ (.head _))
      · rcases List.mem_cons.mp hp with rfl | hp
        · exact ho (C, oc') (.tail _ (.tail _ (.head _)))
        · rcases List.mem_append.mp hp with hp | hp
          · exact ho p (.tail _ (.tail _ (.tail _ (List.mem_append_left _ hp))))
          · exact hrs p hp) ⟨⟨oW, oK, oc, cv, rs', xs, rfl, hc, hI, hW, hwo, hs, o1, o2, o3⟩, hm⟩
/-- the second loop -/
def AwInvR (prog : Program) (w : World) (d2 q : List (Addr × Obj)) (K C : Addr) (rs : List (Addr × Obj)) (full : Prop) [Decidable full] (ks : List Int) (i : Nat) (nx : List (Addr × Obj)) : Prop :=
  ∃ oK oc cv, nx = d2 ++ (K, oK) :: (C, oc) :: (q ++ rs) ∧ oc.data = Data.cell cv ∧ IntDict prog w oK (rowKeys full ks i)
theorem awr_loop {D2 K C : Addr} (d2 q : List (Addr × Obj)) {vs : List Value} {c : Nat} {oK oc : Obj} {cv : Option Value} {rs : List (Addr × Obj)} (full : Prop) [Decidable full] {ks : List Int} (stored : List Str)
    (hh : A.handled = none) (F : Fr h₀ env.locals s.heap m₀) (N : News h₀ env.locals s.heap (d2 ++ (K, oK) :: (C, oc) :: (q ++ rs))) (hm : (D2, listOf vs.toArray c) ∈ d2) (hv : ∀ v ∈ vs, RowIn rs v) (hK : IntDict prog w oK ks) (hc : oc.data = Data.cell cv)
    (turn : ∀ i a t t' j (u : Str → Option Value) oK oc cv h tk I oI, i < vs.length → (a, tupO #[.int 3 t, .int j t']) ∈ rs → IntDict prog w oK (rowKeys full ks i) → oc.data = Data.cell cv →
      OwnOff (d2 ++ (K, oK) :: (C, oc) :: (q ++ rs)) [I] → Fr h₀ env.locals h (fun y => if stored.contains y then u y else m₀ y) → News h₀ env.locals h ((I, oI) :: (d2 ++ (K, oK) :: (C, oc) :: (q ++ rs))) →
      wpAny (model prog w) A (assign target env (.ref a)) (fun _ s₃ => wpAny (model prog w) A (execs body env) (TurnAt h₀ env.locals I oI (JN stored m₀ (AwInvR prog w d2 q K C rs full ks (i + 1))) { s with heap := h, toks := tk } Q) E s₃) E { s with heap := h, toks := tk })
    (done : ∀ (u : Str → Option Value) oK oc cv h tk, IntDict prog w oK (rowKeys full ks vs.length) → oc.data = Data.cell cv →
      Fr h₀ env.locals h (fun y => if stored.contains y then u y else m₀ y) → News h₀ env.locals h (d2 ++ (K, oK) :: (C, oc) :: (q ++ rs)) → Q .next { s with heap := h, toks := tk }) :
    wpAny (model prog w) A (pyIter (.ref D2)) (fun it s₂ => LoopI prog w A h₀ env target body Q E it s₂) E s := by
  refine loop_list (items := vs.toArray) (k := c) stored (AwInvR prog w d2 q K C rs full ks) hh F N ⟨oK, oc, cv, rfl, hc, by rw [rowKeys_zero]; exact hK⟩ ?_ ?_ ?_
  · rintro i nx ⟨oK, oc, cv, rfl, _, _⟩
    exact List.mem_append_left _ hm
  · rintro i v u nx h tk I oI hv' ⟨oK, oc, cv, rfl, hc, hI⟩ ho F N
    rw [List.getElem?_toArray] at hv'
    obtain ⟨a, t, t', j, rfl, hr⟩ := hv v (List.mem_of_getElem? hv')
    exact turn i a t t' j u oK oc cv h tk I oI (List.getElem?_eq_some_iff.mp hv').1 hr hI hc ho F N
  · rintro u h tk nx ⟨oK, oc, cv, rfl, hc, hI⟩ F N
    rw [List.size_toArray] at hI
    exact done u oK oc cv h tk hI hc F N
theorem awr_turn {L I K C : Addr} {d2 q : List (Addr × Obj)} {oI oK oK' oc oc' : Obj} {cv : Option Value} {rs news' : List (Addr × Obj)} {full : Prop} [Decidable full] {ks : List Int} {stored : List Str} {s₁ : Shared} {h' : Heap} {tk : Nat} {m' : Str → Option Value} {i : Nat}
    (F : Fr h₀ L h' m') (N : News h₀ L h' news') (hI' : (I, oI) ∈ news') (hsub : ∀ p ∈ d2 ++ (K, oK) :: (C, oc) :: (q ++ rs), p ∈ news') (ho : OwnOff (d2 ++ (K, oK') :: (C, oc') :: (q ++ rs)) [I])
    (hI : IntDict prog w oK (rowKeys full ks (i + 1))) (hc : oc.data = Data.cell cv) (hm : ∀ z, stored.contains z = false → m' z = m₀ z) :
    TurnAt h₀ L I oI (JN stored m₀ (AwInvR prog w d2 q K C rs full ks (i + 1))) s₁ Q .next { s₁ with heap := h', toks := tk } :=
  TurnAt.mk (d2 ++ (K, oK) :: (C, oc) :: (q ++ rs)) F N hI' hsub (off_two ho) ⟨⟨oK, oc, cv, rfl, hc, hI⟩, hm⟩
end
section
variable {prog : Program} {w : World} {A : Around} {E : Value → Shared → Prop} {s : Shared} {h₀ : Heap} {L : Addr} {m : Str → Option Value} {news : List (Addr × Obj)}
theorem allLt_news {h : Heap} (N : News h₀ L h news) (d : Addr) (hd : h.objs.size ≤ d) : AllLt d news := allLt_of fun p hp => Nat.lt_of_lt_of_le (Heap.lt_size (N p hp).1) hd
theorem slice_tupN {value slice : Expr} {t : Addr} {items : Array Value} {a : Nat} {u : Tok} {Q : Value → Shared → Prop}
    (F : Fr h₀ L s.heap m) (N : News h₀ L s.heap news) (ht : IsTup s.heap t items) (h1 : 1 ≤ a) (ha : a ≤ items.size)
    (h : ∀ D h', Fr h₀ L h' m → News h₀ L h' ((D, { cls := .type "tuple", data := .seq (items.toList.drop a).toArray }) :: news) → AllLt D news → Q (.ref D) { s with heap := h' })
    (hs : subscripted slice false (.ref t) (.ref s.heap.objs.size) = operate [.ref s.heap.objs.size, .ref t] (getItem (.ref t) (.ref s.heap.objs.size)) := by with_unfolding_all rfl)
    (hg : ∀ r, letTemporaryGo value (.ref t) r = pure () := by intro _; with_unfolding_all rfl)
    (hsz : items.size ≤ sizeLine := by size_fits) :
    wpAny (model prog w) A (subscriptTail value slice (.ref t) (.ref s.heap.objs.size)) Q E { s with heap := s.heap.push { cls := .type "slice", data := .fields #[.int a u, .none, .none] } } :=
  slice_tuple_from F N ht h1 ha (fun h' F' N' => h _ h' F' N' (allLt_news N _ (Nat.le_succ _))) hs hg hsz
end
theorem ownOff_lt {T W : Addr} {o : Obj} {rs : List (Addr × Obj)} (h : @LT.lt Nat _ W T) (k : OwnOff rs [W]) : OwnOff ((T, o) :: rs) [W] := ownOff_cons (fun b hb e => by rw [List.mem_singleton.mp hb] at e; exact Nat.ne_of_gt h e) k
theorem mem_push {a b c t : Addr × Obj} {q rs : List (Addr × Obj)} {p : Addr × Obj} (h : p ∈ a :: b :: c :: (q ++ t :: rs)) : p = t ∨ p ∈ a :: b :: c :: (q ++ rs) := by
  simp only [List.mem_cons, List.mem_append] at h ⊢
  rcases h with h | h | h | h | h | h <;> simp only [h, true_or, or_true]
theorem raw_row {prog : Program} {w : World} {rs : List (Addr × Obj)} {xs : List (List Int × Addr × Value)} {ns : List Int} {es : Array DictEntry} {e : DictEntry} {i : Nat} (h : es.toList = xs.map (entryOfKey (tupleKind (intKind prog w)))) (hw : WordsOk rs xs ns) (he : es[i]? = some e) :
    ∃ a t u j, e.key = .ref a ∧ (a, tupO #[.int 3 t, .int j u]) ∈ rs := by
  have : e ∈ es.toList := by rw [← Array.getElem?_toList] at he; exact List.mem_of_getElem? he
  rw [h] at this
  obtain ⟨x, hx, rfl⟩ := List.mem_map.mp this
  obtain ⟨t, u, j, _, hm⟩ := hw.2 x hx
  exact ⟨_, t, u, j, rfl, hm⟩
theorem raw_size {prog : Program} {w : World} {rs : List (Addr × Obj)} {xs : List (List Int × Addr × Value)} {ns : List Int} {es : Array DictEntry} (h : es.toList = xs.map (entryOfKey (tupleKind (intKind prog w)))) (hw : WordsOk rs xs ns) : es.size = ns.length := by
  rw [← Array.length_toList, h, List.length_map, hw.len]
section
open LCg
variable {prog : Program} {w : World} {A : Around} {h₀ : Heap} {L : Addr} {m : Str → Option Value} {env : Env} {s₁ : Shared}
theorem rawSrc_words {ct elt : Expr} {x : Str} {scope : Scope} {cl : List (Str × Addr)} {Fin : Shared → List Value → List (Addr × Obj) → Prop} {W : Addr} {oW : Obj} {xs : List (List Int × Addr × Value)} {ns : List Int} {rs news : List (Addr × Obj)}
    (hh : A.handled = none) (F : Fr h₀ L s₁.heap m) (N : News h₀ L s₁.heap news) (hm : (W, oW) ∈ news) (hd : TupDict prog w oW xs) (hwo : WordsOk rs xs ns) (hn : ns.length ≤ 100) (lo : (W == sysModules) = false)
    (turn : ∀ g i a t u j ys I oI C oC D m₂ h tk (E' : Value → Shared → Prop), ys.length = i → (a, tupO #[.int 3 t, .int j u]) ∈ rs → NsObj oC m₂ → m₂ x = some (.ref a) → Fr h₀ L h m → News h₀ L h ((I, oI) :: (C, oC) :: (D, lst ys) :: news) → Off3 I C D news → ((@Ne Nat I C) ∧ (@Ne Nat I D) ∧ (@Ne Nat C D)) →
      wpAny (model prog w) A (isTrue ct (compEnvC scope cl C env) (eval ct (compEnvC scope cl C env))) (fun ok s' => if ok = true then
        wpAny (model prog w) A (eval elt (compEnvC scope cl C env)) (EltAt h₀ L m { { s₁ with heap := g } with heap := h, toks := tk } I oI C oC D (lst ys) (fun nx => (W, oW) ∈ nx) (fun y nx => nx = news ∧ (ys ++ [y]).length = i + 1)) E' s'
        else EltAt h₀ L m { { s₁ with heap := g } with heap := h, toks := tk } I oI C oC D (lst ys) (fun nx => (W, oW) ∈ nx) (fun _ nx => nx = news ∧ ys.length = i + 1) Value.none s') E' { { s₁ with heap := g } with heap := h, toks := tk })
    (fin : ∀ g ys, ys.length = ns.length → Fin { s₁ with heap := g } ys news) : RawSrcT prog w A h₀ L m env ct elt x scope cl Fin (.ref W) s₁ := by
  obtain ⟨es, ep, h1, h2, h3, _⟩ := hd
  have hz := raw_size h3 hwo
  refine ⟨W, oW, es, ep, news, rfl, hh, F, N, hm, h1, h2, lo, by rw [sizeLine_eq]; omega, fun g => ?_⟩
  refine compRestT_inv es.size (fun i ys nx => nx = news ∧ ys.length = i) (fun i v ys nx I oI C oC D m₂ h tk E' hi hP hI hC hx F9 N9 off ne => ?_) (fun ys nx hI => ?_) es.size 0 [] news (by omega) ⟨rfl, rfl⟩
  · obtain ⟨rfl, hl⟩ := hI
    obtain ⟨e, he, rfl⟩ := hP
    obtain ⟨a, t, u, j, ek, hr⟩ := raw_row h3 hwo he
    rw [ek] at hx
    exact turn g i a t u j ys I oI C oC D m₂ h tk E' hl hr hC hx F9 N9 off ne
  · obtain ⟨rfl, hl⟩ := hI
    exact fin g ys (by omega)
end
section
variable {prog : Program} {w : World} {A : Around} {E : Value → Shared → Prop} {s : Shared} {h₀ : Heap} {L : Addr} {news : List (Addr × Obj)}
theorem len_lstN {l : Addr} {ys : List Value} {k : Nat} {Q : Value → Shared → Prop} (N : News h₀ L s.heap ((l, LCg.lst ys) :: news)) (hk : ys.length = k) (hz : k ≤ 16384) (h : Q (.int (k : Int) (s.toks + 1)) { s with toks := s.toks + 1 + 1 }) :
    wpAny (model prog w) A (call (.builtin "len") [.ref l]) Q E s := by
  subst hk
  exact kun_lenL (News.isList N (.head _)) (by rw [List.size_toArray]) (by omega) h
end
theorem awd_ret {a b k c : Addr × Obj} {q rs rest : List (Addr × Obj)} (hs : ∀ p ∈ rest, p ∈ rs) : ∀ p ∈ k :: (q ++ rest), p ∈ a :: b :: k :: c :: (q ++ rs) := fun p hp => by
  rcases List.mem_cons.mp hp with rfl | hp
  · exact .tail _ (.tail _ (.head _))
  · refine .tail _ (.tail _ (.tail _ (.tail _ ?_)))
    rcases List.mem_append.mp hp with hp | hp
    · exact List.mem_append_left _ hp
    · exact List.mem_append_right _ (hs p hp)
theorem OrdIs.pos {order : List Int} {f l : Int} (h : OrdIs order f l) : 1 ≤ order.length := by
  have := h.up; have := h.down; omega
theorem awd_turn6 {prog : Program} {w : World} {h₀ : Heap} {Q : Flow → Shared → Prop} {m₀ : Str → Option Value} {L I W K C T : Addr} {x y : Addr × Obj} {q : List (Addr × Obj)} {oT oI oW oW' oK oK' oc oc' : Obj} {cv : Option Value} {rest rs : List (Addr × Obj)} {xs : List (List Int × Addr × Value)} {order : List Int} {stored : List Str} {s₁ : Shared} {h' : Heap} {tk : Nat} {m' : Str → Option Value} {es : List Ev} {i : Nat}
    (F : Fr h₀ L h' m') (N : News h₀ L h' ((T, oT) :: x :: y :: (I, oI) :: (W, oW) :: (K, oK) :: (C, oc) :: (q ++ rs))) (ho : OwnOff ((W, oW') :: (K, oK') :: (C, oc') :: (q ++ rs)) [I])
    (l0 : @LT.lt Nat _ I T) (l1 : @LT.lt Nat _ W T) (l2 : @LT.lt Nat _ K T) (l3 : @LT.lt Nat _ C T)
    (hI : IntDict prog w oK (allKeys (es.take (i + 1)))) (hc : oc.data = Data.cell cv) (hW : TupDict prog w oW xs) (hwo : WordsOk ((T, oT) :: rs) xs (named order (es.take (i + 1)))) (hs : ∀ p ∈ rest, p ∈ rs) (o1 : OwnOff rs [W]) (o2 : OwnOff rs [K]) (o3 : OwnOff rs [C]) (hm : ∀ z, stored.contains z = false → m' z = m₀ z) :
    TurnAt h₀ L I oI (JN stored m₀ (AwInvD prog w q W K C rest order es (i + 1))) s₁ Q .next { s₁ with heap := h', toks := tk } :=
  awd_turn (rs' := (T, oT) :: rs) F N (.tail _ (.tail _ (.tail _ (.head _)))) (fun p hp => (mem_push hp).elim (fun e => e ▸ .head _) (fun hp => .tail _ (.tail _ (.tail _ (.tail _ hp))))) ho
    (ownOff_lt l0 fun p hp => ho p (.tail _ (.tail _ (.tail _ (List.mem_append_right _ hp))))) hI hc hW hwo (fun p hp => .tail _ (hs p hp)) (ownOff_lt l1 o1) (ownOff_lt l2 o2) (ownOff_lt l3 o3) hm
end Mine
end

section
open PySem PySem.W PyProof.Rows PySem.Spec
set_option Elab.async false
namespace Mine
theorem fill13 : PySem.Challenge.rw_sj0034_01 = PySem.Challenge.rw_sj0034_01 ∧ Mine.hd.heap_39 = Mine.hd.heap_39 := by
  k_fill
  exact ⟨rfl, rfl⟩
theorem idx_hi {idx : Int} (h0 : 0 ≤ idx) (h7 : idx < 8) : idx.fdiv (2 ^ ((3 : Int) - 1).toNat) = 1 ↔ 3 < idx := by
  rw [show ((2 : Int) ^ ((3 : Int) - 1).toNat) = 4 by decide, Int.fdiv_eq_ediv_of_nonneg _ (by omega)]
  omega
set_option maxRecDepth 100000 in
set_option maxHeartbeats 8000000 in
theorem to_int_spec {w : World} {mean : ExcName → Option Value} {mg mb : Str → Option Value} {dp un : Nat} {gd : Option (List Code)} {cn : Str} {cs : Scope} {L a : Addr} {ccd : Value} {cl : List (Str × Addr)} {outer : List Env}
   {A₀ : Around} {base h₀ : Heap} {m : Str → Option Value} {s : Shared} {Q E : Value → Shared → Prop}
   {news : List (Addr × Obj)} {TT : Addr} {t0 t1 t2 : Tok} {idx unk : Int} {sg : Bool}
   (B : Below A₀ base outer h₀) (F : Fr h₀ L s.heap m) (X : (Mine.hd.heap_39 w.params).In h₀) (N : News h₀ L s.heap ((TT, tupO #[.int 3 t0, .int idx t1, .int unk t2]) :: news))
   (T : Top Mine.hd.view_39 (looseW Mine.hd.view_39 []) mean mg mb h₀) (hk : cs.kind = .function)
   (h0 : 0 ≤ idx) (h7 : idx < 8)
   (hdp : (dp : Int) ≤ 900) (hun : (un : Int) ≤ 4000)
   (retN : ∀ h' tk', unk ≠ 0 → Fr h₀ L h' m → News h₀ L h' ((TT, tupO #[.int 3 t0, .int idx t1, .int unk t2]) :: news) → Q .none { s with heap := h', toks := tk' })
   (retI : ∀ h' tk' tv, unk = 0 → Fr h₀ L h' m → News h₀ L h' ((TT, tupO #[.int 3 t0, .int idx t1, .int unk t2]) :: news) → Q (.int (Ev.at idx sg) tv) { s with heap := h', toks := tk' }) :
   wpAny (model PySem.Challenge.rw_sj0034_01.row.prog w) (ktrTop dp un gd cn cs L a ccd cl outer) (call (.ref (ktn_at% "to_int")) [.ref TT, .bool sg]) Q E s := by
  refine wpAny_call ?_
  have hroom : dp < recursionLimit := by simp only [recursionLimit]; omega
  w_top off
  k_with_none
  k_with "execs cons" => ((rename Fr _ _ _ _ => zF); k_dflt (refine st_to (s := s) zF (by with_reducible rfl) (fun tk => ?_)); (try k_made); (refine wpAny_execs_cons ?_); (try dsimp only))
  k_with "k_ne" => (refine neN ?_; (try dsimp only); first | with_reducible assumption | (refine Ne.symm ?_; with_reducible assumption) | (refine Nat.ne_of_lt ?_; with_reducible assumption) | (refine Nat.ne_of_gt ?_; with_reducible assumption) | k_extra "k_nf")
  k_with "k_nf" => ((rename _ ∧ _ => lX); first | exact Nat.ne_of_gt lX.1 | exact Nat.ne_of_lt lX.1 | exact Nat.ne_of_gt lX.2.1 | exact Nat.ne_of_lt lX.2.1 | exact Nat.ne_of_gt lX.2.2.1 | exact Nat.ne_of_lt lX.2.2.1 | exact Nat.ne_of_gt lX.2.2.2.1 | exact Nat.ne_of_lt lX.2.2.2.1 | exact Nat.ne_of_gt lX.2.2.2.2.1 | exact Nat.ne_of_lt lX.2.2.2.2.1 | exact Nat.ne_of_gt lX.2.2.2.2.2.1 | exact Nat.ne_of_lt lX.2.2.2.2.2.1 | exact Nat.ne_of_gt lX.2.2.2.2.2.2.1 | exact Nat.ne_of_lt lX.2.2.2.2.2.2.1 | exact Nat.ne_of_gt lX.2.2.2.2.2.2.2.1 | exact Nat.ne_of_lt lX.2.2.2.2.2.2.2.1 | exact Nat.ne_of_gt lX.2.2.2.2.2.2.2.2.1 | exact Nat.ne_of_lt lX.2.2.2.2.2.2.2.2.1 | exact Nat.ne_of_gt lX.2.2.2.2.2.2.2.2.2.1 | exact Nat.ne_of_lt lX.2.2.2.2.2.2.2.2.2.1 | exact Nat.ne_of_gt lX.2.2.2.2.2.2.2.2.2.2.1 | exact Nat.ne_of_lt lX.2.2.2.2.2.2.2.2.2.2.1 | exact Nat.ne_of_gt lX.2.2.2.2.2.2.2.2.2.2.2.1 | exact Nat.ne_of_lt lX.2.2.2.2.2.2.2.2.2.2.2.1 | exact Nat.ne_of_gt lX.2 | exact Nat.ne_of_lt lX.2 | exact Nat.ne_of_gt lX.2.2 | exact Nat.ne_of_lt lX.2.2 | exact Nat.ne_of_gt lX.2.2.2 | exact Nat.ne_of_lt lX.2.2.2 | exact Nat.ne_of_gt lX.2.2.2.2 | exact Nat.ne_of_lt lX.2.2.2.2 | exact Nat.ne_of_gt lX.2.2.2.2.2 | exact Nat.ne_of_lt lX.2.2.2.2.2 | exact Nat.ne_of_gt lX.2.2.2.2.2.2 | exact Nat.ne_of_lt lX.2.2.2.2.2.2 | exact Nat.ne_of_gt lX.2.2.2.2.2.2.2 | exact Nat.ne_of_lt lX.2.2.2.2.2.2.2 | exact Nat.ne_of_gt lX.2.2.2.2.2.2.2.2 | exact Nat.ne_of_lt lX.2.2.2.2.2.2.2.2 | exact Nat.ne_of_gt lX.2.2.2.2.2.2.2.2.2 | exact Nat.ne_of_lt lX.2.2.2.2.2.2.2.2.2 | exact Nat.ne_of_gt lX.2.2.2.2.2.2.2.2.2.2 | exact Nat.ne_of_lt lX.2.2.2.2.2.2.2.2.2.2 | exact Nat.ne_of_gt lX.2.2.2.2.2.2.2.2.2.2.2 | exact Nat.ne_of_lt lX.2.2.2.2.2.2.2.2.2.2.2 | exact Ne.symm lX.1 | exact lX.1 | exact Ne.symm lX.2.1 | exact lX.2.1 | exact Ne.symm lX.2.2.1 | exact lX.2.2.1 | exact Ne.symm lX.2.2.2.1 | exact lX.2.2.2.1 | exact Ne.symm lX.2.2.2.2.1 | exact lX.2.2.2.2.1 | exact Ne.symm lX.2.2.2.2.2.1 | exact lX.2.2.2.2.2.1 | exact Ne.symm lX.2.2.2.2.2.2.1 | exact lX.2.2.2.2.2.2.1 | exact Ne.symm lX.2.2.2.2.2.2.2.1 | exact lX.2.2.2.2.2.2.2.1 | exact Ne.symm lX.2.2.2.2.2.2.2.2.1 | exact lX.2.2.2.2.2.2.2.2.1 | exact Ne.symm lX.2.2.2.2.2.2.2.2.2.1 | exact lX.2.2.2.2.2.2.2.2.2.1 | exact Ne.symm lX.2.2.2.2.2.2.2.2.2.2.1 | exact lX.2.2.2.2.2.2.2.2.2.2.1 | exact Ne.symm lX.2.2.2.2.2.2.2.2.2.2.2.1 | exact lX.2.2.2.2.2.2.2.2.2.2.2.1 | (clear lX; k_extra "k_nf"))
  k_dflt ktr_enter
  k_steps
  · exact retN _ _ (by assumption) (by assumption) (by assumption)
  · (rename Int.fdiv _ _ = 1 => hf)
    rw [show idx - 1 * 2 ^ Int.toNat 3 = Ev.at idx sg from (at_neg (by assumption) ((idx_hi h0 h7).mp hf)).symm]
    exact retI _ _ _ (by assumption) (by assumption) (by assumption)
  · (rename Int.fdiv _ _ ≠ 1 => hf)
    rw [show (Value.int idx t1) = .int (Ev.at idx sg) t1 from by rw [at_pos fun h => hf ((idx_hi h0 h7).mpr h)]]
    exact retI _ _ _ (by assumption) (by assumption) (by assumption)
  · rw [show (Value.int idx t1) = .int (Ev.at idx sg) t1 from by rw [at_uns (by assumption)]]
    exact retI _ _ _ (by assumption) (by assumption) (by assumption)
end Mine
end

section
open PySem PySem.W PyProof.Rows PySem.Spec PySem.Calls
set_option maxRecDepth 100000
namespace Mine
inductive DesObj (w : World) (SG : Addr) : Obj → Prop
  | mk {t0 t1 t2 t3 t4 t5 t6 t7 t8 t9 t10 t11 : Tok} {v1 v2 v3 v4 v5 v6 v7 v8 v9 v10 v11 : Value} : DesObj w SG (dictOf [{ hash := PyData.keyHash w.params (Str.ofString "signals"), key := .str (Str.ofString "signals") t0, val := .ref SG }, { hash := PyData.keyHash w.params (Str.ofString "assigns"), key := .str (Str.ofString "assigns") t1, val := v1 }, { hash := PyData.keyHash w.params (Str.ofString "gates"), key := .str (Str.ofString "gates") t2, val := v2 }, { hash := PyData.keyHash w.params (Str.ofString "udps"), key := .str (Str.ofString "udps") t3, val := v3 }, { hash := PyData.keyHash w.params (Str.ofString "processes"), key := .str (Str.ofString "processes") t4, val := v4 }, { hash := PyData.keyHash w.params (Str.ofString "routines"), key := .str (Str.ofString "routines") t5, val := v5 }, { hash := PyData.keyHash w.params (Str.ofString "scopes"), key := .str (Str.ofString "scopes") t6, val := v6 }, { hash := PyData.keyHash w.params (Str.ofString "tops"), key := .str (Str.ofString "tops") t7, val := v7 }, { hash := PyData.keyHash w.params (Str.ofString "ports"), key := .str (Str.ofString "ports") t8, val := v8 }, { hash := PyData.keyHash w.params (Str.ofString "maker"), key := .str (Str.ofString "maker") t9, val := v9 }, { hash := PyData.keyHash w.params (Str.ofString "nesting"), key := .str (Str.ofString "nesting") t10, val := v10 }, { hash := PyData.keyHash w.params (Str.ofString "by_path"), key := .str (Str.ofString "by_path") t11, val := v11 }] 12)
inductive MemObj (w : World) (f l : Int) : Obj → Prop
  | mk {t0 t1 t2 t3 t4 t5 t6 t7 t8 t9 t10 t11 : Tok} {v0 v1 v2 v3 v4 v5 v6 v9 v10 v11 : Value} {tf tl : Tok} : MemObj w f l (dictOf [{ hash := PyData.keyHash w.params (Str.ofString "key"), key := .str (Str.ofString "key") t0, val := v0 }, { hash := PyData.keyHash w.params (Str.ofString "path"), key := .str (Str.ofString "path") t1, val := v1 }, { hash := PyData.keyHash w.params (Str.ofString "kind"), key := .str (Str.ofString "kind") t2, val := v2 }, { hash := PyData.keyHash w.params (Str.ofString "width"), key := .str (Str.ofString "width") t3, val := v3 }, { hash := PyData.keyHash w.params (Str.ofString "signed"), key := .str (Str.ofString "signed") t4, val := v4 }, { hash := PyData.keyHash w.params (Str.ofString "msb"), key := .str (Str.ofString "msb") t5, val := v5 }, { hash := PyData.keyHash w.params (Str.ofString "lsb"), key := .str (Str.ofString "lsb") t6, val := v6 }, { hash := PyData.keyHash w.params (Str.ofString "first"), key := .str (Str.ofString "first") t7, val := .int f tf }, { hash := PyData.keyHash w.params (Str.ofString "last"), key := .str (Str.ofString "last") t8, val := .int l tl }, { hash := PyData.keyHash w.params (Str.ofString "init"), key := .str (Str.ofString "init") t9, val := v9 }, { hash := PyData.keyHash w.params (Str.ofString "at"), key := .str (Str.ofString "at") t10, val := v10 }, { hash := PyData.keyHash w.params (Str.ofString "scalar"), key := .str (Str.ofString "scalar") t11, val := v11 }] 12)
inductive SigObj (w : World)  : Obj → Prop
  | mk {t0 t1 t2 t3 t4 t5 t6 t7 t8 t9 t10 t11 : Tok} {v0 v1 v2 v3 v4 v5 v6 v9 v10 v11 : Value} : SigObj w (dictOf [{ hash := PyData.keyHash w.params (Str.ofString "key"), key := .str (Str.ofString "key") t0, val := v0 }, { hash := PyData.keyHash w.params (Str.ofString "path"), key := .str (Str.ofString "path") t1, val := v1 }, { hash := PyData.keyHash w.params (Str.ofString "kind"), key := .str (Str.ofString "kind") t2, val := v2 }, { hash := PyData.keyHash w.params (Str.ofString "width"), key := .str (Str.ofString "width") t3, val := v3 }, { hash := PyData.keyHash w.params (Str.ofString "signed"), key := .str (Str.ofString "signed") t4, val := v4 }, { hash := PyData.keyHash w.params (Str.ofString "msb"), key := .str (Str.ofString "msb") t5, val := v5 }, { hash := PyData.keyHash w.params (Str.ofString "lsb"), key := .str (Str.ofString "lsb") t6, val := v6 }, { hash := PyData.keyHash w.params (Str.ofString "first"), key := .str (Str.ofString "first") t7, val := .none }, { hash := PyData.keyHash w.params (Str.ofString "last"), key := .str (Str.ofString "last") t8, val := .none }, { hash := PyData.keyHash w.params (Str.ofString "init"), key := .str (Str.ofString "init") t9, val := v9 }, { hash := PyData.keyHash w.params (Str.ofString "at"), key := .str (Str.ofString "at") t10, val := v10 }, { hash := PyData.keyHash w.params (Str.ofString "scalar"), key := .str (Str.ofString "scalar") t11, val := v11 }] 12)
inductive DesObjP (w : World) (SG P : Addr) : Obj → Prop
  | mk {t0 t1 t2 t3 t4 t5 t6 t7 t8 t9 t10 t11 : Tok} {v1 v2 v3 v4 v5 v6 v7 v8 v9 v10 : Value} : DesObjP w SG P (dictOf [{ hash := PyData.keyHash w.params (Str.ofString "signals"), key := .str (Str.ofString "signals") t0, val := .ref SG }, { hash := PyData.keyHash w.params (Str.ofString "assigns"), key := .str (Str.ofString "assigns") t1, val := v1 }, { hash := PyData.keyHash w.params (Str.ofString "gates"), key := .str (Str.ofString "gates") t2, val := v2 }, { hash := PyData.keyHash w.params (Str.ofString "udps"), key := .str (Str.ofString "udps") t3, val := v3 }, { hash := PyData.keyHash w.params (Str.ofString "processes"), key := .str (Str.ofString "processes") t4, val := v4 }, { hash := PyData.keyHash w.params (Str.ofString "routines"), key := .str (Str.ofString "routines") t5, val := v5 }, { hash := PyData.keyHash w.params (Str.ofString "scopes"), key := .str (Str.ofString "scopes") t6, val := v6 }, { hash := PyData.keyHash w.params (Str.ofString "tops"), key := .str (Str.ofString "tops") t7, val := v7 }, { hash := PyData.keyHash w.params (Str.ofString "ports"), key := .str (Str.ofString "ports") t8, val := v8 }, { hash := PyData.keyHash w.params (Str.ofString "maker"), key := .str (Str.ofString "maker") t9, val := v9 }, { hash := PyData.keyHash w.params (Str.ofString "nesting"), key := .str (Str.ofString "nesting") t10, val := v10 }, { hash := PyData.keyHash w.params (Str.ofString "by_path"), key := .str (Str.ofString "by_path") t11, val := .ref P }] 12)
theorem DesObjP.des {w : World} {SG P : Addr} {o : Obj} (h : DesObjP w SG P o) : DesObj w SG o := by
  cases h
  exact .mk
/-- a dict keyed by strings, of at most n entries -/
def StrDict (prog : Program) (w : World) (o : Obj) (n : Nat) : Prop := ∃ kvs, o.IsDictOf (PySem.strKind prog w) kvs ∧ kvs.length ≤ n
section
variable {prog : Program} {w : World} {A : Around} {E : Value → Shared → Prop} {s : Shared} {h₀ : Heap} {L d : Addr} {m : Str → Option Value} {news : List (Addr × Obj)}
theorem strd_set {o : Obj} {n : Nat} {k : Str} {t : Tok} {v : Value} {g : Obj → List (Addr × Obj)} {Q : Unit → Shared → Prop} (F : Fr h₀ L s.heap m) (N : News h₀ L s.heap news) (U : UpdF d o news g) (hd : StrDict prog w o n) (hsz : n ≤ 1000)
    (h : ∀ h' o', Fr h₀ L h' m → News h₀ L h' (g o') → StrDict prog w o' (n + 1) → Q () { s with heap := h', toks := s.toks + 1 }) : wpAny (model prog w) A (setItem (.ref d) (.str k t) v) Q E s := by
  obtain ⟨kvs, hk, hl⟩ := hd
  refine kda_set (knd := PySem.strKind prog w) F N U hk (strKind_is _ _ _ _) (by rw [sizeLine_eq]; omega) fun h' o' F' N' hd' => h h' o' F' N' ⟨_, hd', ?_⟩
  exact Nat.le_trans (stored_length_le kvs k v) (Nat.succ_le_succ hl)
end
end Mine
end

section
open PySem PySem.W PyProof.Rows PySem.Spec PySem.Calls
set_option maxRecDepth 100000
namespace Mine
/-- an opaque dict of attributes that holds the name, or not -/
def Holds1 (o : Obj) (name : Str) (r : Option Value) : Prop := ∃ es n, o = dictOf es n ∧ getL name es = some r
theorem DesObj.signals {w : World} {SG : Addr} {o : Obj} (h : DesObj w SG o) : Holds1 o (Str.ofString "signals") (some (.ref SG)) := by
  cases h
  refine ⟨_, _, rfl, ?_⟩
  k_get
theorem DesObjP.add {w : World} {SG P : Addr} {o : Obj} (h : DesObjP w SG P o) : Holds1 o (Str.ofString "add_signal") none := by
  cases h
  refine ⟨_, _, rfl, ?_⟩
  k_get
theorem MemObj.place {w : World} {f l : Int} {o : Obj} (h : MemObj w f l o) : Holds1 o (Str.ofString "place") none := by
  cases h
  refine ⟨_, _, rfl, ?_⟩
  k_get
theorem MemObj.words {w : World} {f l : Int} {o : Obj} (h : MemObj w f l o) : Holds1 o (Str.ofString "words") none := by
  cases h
  refine ⟨_, _, rfl, ?_⟩
  k_get
section
variable {prog : Program} {w : World} {A : Around} {E : Value → Shared → Prop} {s : Shared} {K : Frag} {x C dx L : Addr} {h₀ : Heap} {m : Str → Option Value} {news : List (Addr × Obj)} {od : Obj} {name : Str} {v : Value}
theorem get_opq {expr : Bool} {Q : Value → Shared → Prop} {attr : Option Value} (F : Fr h₀ L s.heap m) (X₀ : K.In h₀) (N : News h₀ L s.heap news) (h1 : (x, instObj C dx) ∈ news) (h2 : (dx, od) ∈ news) (ho : Holds1 od name (some v))
    (hg : plainGet K C name = true) (hh : hasDictIn K C = true)
    (ha : findIn K (.ref C) name = some attr) (hn : noGet K attr = true) (hv : handedIn v = true) (h : Q v { s with toks := s.toks + 1 }) :
    wpAny (model prog w) A (getAttr (.ref x) name expr) Q E s := by
  obtain ⟨es, n, rfl, hl⟩ := ho
  exact get_own F X₀ (InstAt.of_news N h1 h2) hg hh ha hn hl hv h
theorem method_opq {pl : Sem Bool} {Q : Value × List Value → Shared → Prop} {f : Addr} (F : Fr h₀ L s.heap m) (X₀ : K.In h₀) (N : News h₀ L s.heap news) (h1 : (x, instObj C dx) ∈ news) (h2 : (dx, od) ∈ news) (ho : Holds1 od name none)
    (hg : plainGet K C name = true)
    (hf : findIn K (.ref C) name = some (some (.ref f))) (ht : isFn K (.ref f) = true) (h : Q (.ref f, [.ref x]) s) : wpAny (model prog w) A (getMethod (.ref x) name pl) Q E s := by
  obtain ⟨es, n, rfl, hl⟩ := ho
  exact method_inst F X₀ (InstAt.of_news N h1 h2) hg hf ht hl h
end
end Mine
end

section
open PySem PySem.W PyProof.Rows PySem.Spec
set_option Elab.async false
namespace Mine
theorem fill15 : PySem.Challenge.rw_sj0034_01 = PySem.Challenge.rw_sj0034_01 ∧ Mine.hd.heap_39 = Mine.hd.heap_39 := by
  k_fill
  exact ⟨rfl, rfl⟩
theorem news_in {h₀ h : Heap} {L : Addr} {news : List (Addr × Obj)} {p : Addr × Obj} (N : News h₀ L h news) (hp : p ∈ news) : News h₀ L h (p :: news) := fun q hq => by
  rcases List.mem_cons.mp hq with rfl | hq
  · exact N _ hp
  · exact N q hq
set_option maxRecDepth 100000 in
set_option maxHeartbeats 8000000 in
theorem words_spec {w : World} {mean : ExcName → Option Value} {mg mb : Str → Option Value} {dp un : Nat} {gd : Option (List Code)} {cn : Str} {cs : Scope} {L a : Addr} {ccd : Value} {cl : List (Str × Addr)} {outer : List Env}
   {A₀ : Around} {base h₀ : Heap} {m : Str → Option Value} {s : Shared} {Q E : Value → Shared → Prop}
   {news : List (Addr × Obj)} {S3 d3 : Addr} {om : Obj} {f l : Int}
   (B : Below A₀ base outer h₀) (F : Fr h₀ L s.heap m) (X : (Mine.hd.heap_39 w.params).In h₀) (N : News h₀ L s.heap news)
   (T : Top Mine.hd.view_39 (looseW Mine.hd.view_39 []) mean mg mb h₀) (hk : cs.kind = .function)
   (h1 : (S3, instObj 90 d3) ∈ news) (h2 : (d3, om) ∈ news) (hom : MemObj w f l om) (hf : -1 ≤ f ∧ f ≤ 2) (hl : -1 ≤ l ∧ l ≤ 2)
   (hdp : (dp : Int) ≤ 800)
   (ret : ∀ n h' tk' tv, (f ≤ l → n = l - f + 1) → (l ≤ f → n = f - l + 1) → Fr h₀ L h' m → News h₀ L h' news → Q (.int n tv) { s with heap := h', toks := tk' }) :
   wpAny (model PySem.Challenge.rw_sj0034_01.row.prog w) (ktrTop dp un gd cn cs L a ccd cl outer) (call (.ref 73) [.ref S3]) Q E s := by
  cases hom
  have N1 := news_in (news_in N h2) (List.mem_cons_of_mem _ h1)
  clear N
  refine wpAny_call ?_
  have hroom : dp < recursionLimit := by simp only [recursionLimit]; omega
  w_top off
  k_with_none
  k_with "k_room" => ((simp only [depth_under_make, depth_under_kw, depth_in1, depth_deeper, depth_caller, recursionLimit] at *; omega))
  k_with "execs cons" => ((rename Fr _ _ _ _ => zF); k_dflt (refine st_to (s := s) zF (by with_reducible rfl) (fun tk => ?_)); (try k_made); (refine wpAny_execs_cons ?_); (try dsimp only))
  k_with "k_ne" => (refine neN ?_; (try dsimp only); first | with_reducible assumption | (refine Ne.symm ?_; with_reducible assumption) | (refine Nat.ne_of_lt ?_; with_reducible assumption) | (refine Nat.ne_of_gt ?_; with_reducible assumption) | k_extra "k_nf")
  k_with "k_nf" => ((rename _ ∧ _ => lX); first | exact Nat.ne_of_gt lX.1 | exact Nat.ne_of_lt lX.1 | exact Nat.ne_of_gt lX.2.1 | exact Nat.ne_of_lt lX.2.1 | exact Nat.ne_of_gt lX.2.2.1 | exact Nat.ne_of_lt lX.2.2.1 | exact Nat.ne_of_gt lX.2.2.2.1 | exact Nat.ne_of_lt lX.2.2.2.1 | exact Nat.ne_of_gt lX.2.2.2.2.1 | exact Nat.ne_of_lt lX.2.2.2.2.1 | exact Nat.ne_of_gt lX.2.2.2.2.2.1 | exact Nat.ne_of_lt lX.2.2.2.2.2.1 | exact Nat.ne_of_gt lX.2.2.2.2.2.2.1 | exact Nat.ne_of_lt lX.2.2.2.2.2.2.1 | exact Nat.ne_of_gt lX.2.2.2.2.2.2.2.1 | exact Nat.ne_of_lt lX.2.2.2.2.2.2.2.1 | exact Nat.ne_of_gt lX.2.2.2.2.2.2.2.2.1 | exact Nat.ne_of_lt lX.2.2.2.2.2.2.2.2.1 | exact Nat.ne_of_gt lX.2.2.2.2.2.2.2.2.2.1 | exact Nat.ne_of_lt lX.2.2.2.2.2.2.2.2.2.1 | exact Nat.ne_of_gt lX.2.2.2.2.2.2.2.2.2.2.1 | exact Nat.ne_of_lt lX.2.2.2.2.2.2.2.2.2.2.1 | exact Nat.ne_of_gt lX.2.2.2.2.2.2.2.2.2.2.2.1 | exact Nat.ne_of_lt lX.2.2.2.2.2.2.2.2.2.2.2.1 | exact Nat.ne_of_gt lX.2 | exact Nat.ne_of_lt lX.2 | exact Nat.ne_of_gt lX.2.2 | exact Nat.ne_of_lt lX.2.2 | exact Nat.ne_of_gt lX.2.2.2 | exact Nat.ne_of_lt lX.2.2.2 | exact Nat.ne_of_gt lX.2.2.2.2 | exact Nat.ne_of_lt lX.2.2.2.2 | exact Nat.ne_of_gt lX.2.2.2.2.2 | exact Nat.ne_of_lt lX.2.2.2.2.2 | exact Nat.ne_of_gt lX.2.2.2.2.2.2 | exact Nat.ne_of_lt lX.2.2.2.2.2.2 | exact Nat.ne_of_gt lX.2.2.2.2.2.2.2 | exact Nat.ne_of_lt lX.2.2.2.2.2.2.2 | exact Nat.ne_of_gt lX.2.2.2.2.2.2.2.2 | exact Nat.ne_of_lt lX.2.2.2.2.2.2.2.2 | exact Nat.ne_of_gt lX.2.2.2.2.2.2.2.2.2 | exact Nat.ne_of_lt lX.2.2.2.2.2.2.2.2.2 | exact Nat.ne_of_gt lX.2.2.2.2.2.2.2.2.2.2 | exact Nat.ne_of_lt lX.2.2.2.2.2.2.2.2.2.2 | exact Nat.ne_of_gt lX.2.2.2.2.2.2.2.2.2.2.2 | exact Nat.ne_of_lt lX.2.2.2.2.2.2.2.2.2.2.2 | exact Ne.symm lX.1 | exact lX.1 | exact Ne.symm lX.2.1 | exact lX.2.1 | exact Ne.symm lX.2.2.1 | exact lX.2.2.1 | exact Ne.symm lX.2.2.2.1 | exact lX.2.2.2.1 | exact Ne.symm lX.2.2.2.2.1 | exact lX.2.2.2.2.1 | exact Ne.symm lX.2.2.2.2.2.1 | exact lX.2.2.2.2.2.1 | exact Ne.symm lX.2.2.2.2.2.2.1 | exact lX.2.2.2.2.2.2.1 | exact Ne.symm lX.2.2.2.2.2.2.2.1 | exact lX.2.2.2.2.2.2.2.1 | exact Ne.symm lX.2.2.2.2.2.2.2.2.1 | exact lX.2.2.2.2.2.2.2.2.1 | exact Ne.symm lX.2.2.2.2.2.2.2.2.2.1 | exact lX.2.2.2.2.2.2.2.2.2.1 | exact Ne.symm lX.2.2.2.2.2.2.2.2.2.2.1 | exact lX.2.2.2.2.2.2.2.2.2.2.1 | exact Ne.symm lX.2.2.2.2.2.2.2.2.2.2.2.1 | exact lX.2.2.2.2.2.2.2.2.2.2.2.1 | (clear lX; k_extra "k_nf"))
  k_dflt ktr_enter
  k_steps
  (rename News h₀ _ _ _ => kN)
  exact ret _ _ _ _ (fun h => by split <;> omega) (fun h => by split <;> omega) (by assumption) (news_sub kN fun p hp => .tail _ (.tail _ hp))
set_option maxRecDepth 100000 in
set_option maxHeartbeats 8000000 in
theorem place_spec {w : World} {mean : ExcName → Option Value} {mg mb : Str → Option Value} {dp un : Nat} {gd : Option (List Code)} {cn : Str} {cs : Scope} {L a : Addr} {ccd : Value} {cl : List (Str × Addr)} {outer : List Env}
   {A₀ : Around} {base h₀ : Heap} {m : Str → Option Value} {s : Shared} {Q E : Value → Shared → Prop}
   {news : List (Addr × Obj)} {S3 d3 : Addr} {om : Obj} {f l j : Int} {tj : Tok}
   (B : Below A₀ base outer h₀) (F : Fr h₀ L s.heap m) (X : (Mine.hd.heap_39 w.params).In h₀) (N : News h₀ L s.heap news)
   (T : Top Mine.hd.view_39 (looseW Mine.hd.view_39 []) mean mg mb h₀) (hk : cs.kind = .function)
   (h1 : (S3, instObj 90 d3) ∈ news) (h2 : (d3, om) ∈ news) (hom : MemObj w f l om) (hf : -1 ≤ f ∧ f ≤ 2) (hl : -1 ≤ l ∧ l ≤ 2) (hj : -10 ≤ j ∧ j ≤ 10)
   (hdp : (dp : Int) ≤ 700)
   (ret : ∀ p h' tk' tv, (0 ≤ p ↔ (f ≤ j ∧ j ≤ l) ∨ (l ≤ j ∧ j ≤ f)) → Fr h₀ L h' m → News h₀ L h' news → Q (.int p tv) { s with heap := h', toks := tk' }) :
   wpAny (model PySem.Challenge.rw_sj0034_01.row.prog w) (ktrTop dp un gd cn cs L a ccd cl outer) (call (.ref 87) [.ref S3, .int j tj]) Q E s := by
  have hom' := hom
  cases hom
  have N1 := news_in (news_in N h2) (List.mem_cons_of_mem _ h1)
  clear N
  refine wpAny_call ?_
  have hroom : dp < recursionLimit := by simp only [recursionLimit]; omega
  w_top off
  k_with_none
  k_with "k_room" => ((simp only [depth_under_make, depth_under_kw, depth_in1, depth_deeper, depth_caller, recursionLimit] at *; omega))
  k_with "execs cons" => ((rename Fr _ _ _ _ => zF); k_dflt (refine st_to (s := s) zF (by with_reducible rfl) (fun tk => ?_)); (try k_made); (refine wpAny_execs_cons ?_); (try dsimp only))
  k_with "k_ne" => (refine neN ?_; (try dsimp only); first | with_reducible assumption | (refine Ne.symm ?_; with_reducible assumption) | (refine Nat.ne_of_lt ?_; with_reducible assumption) | (refine Nat.ne_of_gt ?_; with_reducible assumption) | k_extra "k_nf")
  k_with "k_nf" => ((rename _ ∧ _ => lX); first | exact Nat.ne_of_gt lX.1 | exact Nat.ne_of_lt lX.1 | exact Nat.ne_of_gt lX.2.1 | exact Nat.ne_of_lt lX.2.1 | exact Nat.ne_of_gt lX.2.2.1 | exact Nat.ne_of_lt lX.2.2.1 | exact Nat.ne_of_gt lX.2.2.2.1 | exact Nat.ne_of_lt lX.2.2.2.1 | exact Nat.ne_of_gt lX.2.2.2.2.1 | exact Nat.ne_of_lt lX.2.2.2.2.1 | exact Nat.ne_of_gt lX.2.2.2.2.2.1 | exact Nat.ne_of_lt lX.2.2.2.2.2.1 | exact Nat.ne_of_gt lX.2.2.2.2.2.2.1 | exact Nat.ne_of_lt lX.2.2.2.2.2.2.1 | exact Nat.ne_of_gt lX.2.2.2.2.2.2.2.1 | exact Nat.ne_of_lt lX.2.2.2.2.2.2.2.1 | exact Nat.ne_of_gt lX.2.2.2.2.2.2.2.2.1 | exact Nat.ne_of_lt lX.2.2.2.2.2.2.2.2.1 | exact Nat.ne_of_gt lX.2.2.2.2.2.2.2.2.2.1 | exact Nat.ne_of_lt lX.2.2.2.2.2.2.2.2.2.1 | exact Nat.ne_of_gt lX.2.2.2.2.2.2.2.2.2.2.1 | exact Nat.ne_of_lt lX.2.2.2.2.2.2.2.2.2.2.1 | exact Nat.ne_of_gt lX.2.2.2.2.2.2.2.2.2.2.2.1 | exact Nat.ne_of_lt lX.2.2.2.2.2.2.2.2.2.2.2.1 | exact Nat.ne_of_gt lX.2 | exact Nat.ne_of_lt lX.2 | exact Nat.ne_of_gt lX.2.2 | exact Nat.ne_of_lt lX.2.2 | exact Nat.ne_of_gt lX.2.2.2 | exact Nat.ne_of_lt lX.2.2.2 | exact Nat.ne_of_gt lX.2.2.2.2 | exact Nat.ne_of_lt lX.2.2.2.2 | exact Nat.ne_of_gt lX.2.2.2.2.2 | exact Nat.ne_of_lt lX.2.2.2.2.2 | exact Nat.ne_of_gt lX.2.2.2.2.2.2 | exact Nat.ne_of_lt lX.2.2.2.2.2.2 | exact Nat.ne_of_gt lX.2.2.2.2.2.2.2 | exact Nat.ne_of_lt lX.2.2.2.2.2.2.2 | exact Nat.ne_of_gt lX.2.2.2.2.2.2.2.2 | exact Nat.ne_of_lt lX.2.2.2.2.2.2.2.2 | exact Nat.ne_of_gt lX.2.2.2.2.2.2.2.2.2 | exact Nat.ne_of_lt lX.2.2.2.2.2.2.2.2.2 | exact Nat.ne_of_gt lX.2.2.2.2.2.2.2.2.2.2 | exact Nat.ne_of_lt lX.2.2.2.2.2.2.2.2.2.2 | exact Nat.ne_of_gt lX.2.2.2.2.2.2.2.2.2.2.2 | exact Nat.ne_of_lt lX.2.2.2.2.2.2.2.2.2.2.2 | exact Ne.symm lX.1 | exact lX.1 | exact Ne.symm lX.2.1 | exact lX.2.1 | exact Ne.symm lX.2.2.1 | exact lX.2.2.1 | exact Ne.symm lX.2.2.2.1 | exact lX.2.2.2.1 | exact Ne.symm lX.2.2.2.2.1 | exact lX.2.2.2.2.1 | exact Ne.symm lX.2.2.2.2.2.1 | exact lX.2.2.2.2.2.1 | exact Ne.symm lX.2.2.2.2.2.2.1 | exact lX.2.2.2.2.2.2.1 | exact Ne.symm lX.2.2.2.2.2.2.2.1 | exact lX.2.2.2.2.2.2.2.1 | exact Ne.symm lX.2.2.2.2.2.2.2.2.1 | exact lX.2.2.2.2.2.2.2.2.1 | exact Ne.symm lX.2.2.2.2.2.2.2.2.2.1 | exact lX.2.2.2.2.2.2.2.2.2.1 | exact Ne.symm lX.2.2.2.2.2.2.2.2.2.2.1 | exact lX.2.2.2.2.2.2.2.2.2.2.1 | exact Ne.symm lX.2.2.2.2.2.2.2.2.2.2.2.1 | exact lX.2.2.2.2.2.2.2.2.2.2.2.1 | (clear lX; k_extra "k_nf"))
  k_with "call ref" => ((with_reducible show wpAny _ _ (call (Value.ref 73) _) _ _ _); (k_dflt (refine words_spec (by k_asm) (by k_asm) (by k_asm) (by k_asm) (by k_asm) (by first | exact rfl | assumption) (List.mem_cons_self) (List.mem_cons_of_mem _ List.mem_cons_self) hom' hf hl (by first | exact dpA (k := 1) hdp | (simp only [depth_deeper]; omega)) (fun n9 h' tk' tv hn1 hn2 F N => ?_))))
  k_dflt ktr_enter
  k_steps
  all_goals ((rename News h₀ _ _ _ => kN); exact ret _ _ _ _ (by omega) (by assumption) (news_sub kN fun p hp => .tail _ (.tail _ hp)))
end Mine
end

section
open PySem PySem.W PyProof.Rows PySem.Spec
set_option Elab.async false
namespace Mine
theorem fill16 : PySem.Challenge.rw_sj0034_01 = PySem.Challenge.rw_sj0034_01 ∧ Mine.hd.heap_39 = Mine.hd.heap_39 := by
  k_fill
  exact ⟨rfl, rfl⟩
set_option maxRecDepth 100000 in
set_option maxHeartbeats 8000000 in
theorem addsig_spec {w : World} {mean : ExcName → Option Value} {mg mb : Str → Option Value} {dp un : Nat} {gd : Option (List Code)} {cn : Str} {cs : Scope} {L a : Addr} {ccd : Value} {cl : List (Str × Addr)} {outer : List Env}
   {A₀ : Around} {base h₀ : Heap} {m : Str → Option Value} {s : Shared} {Q E : Value → Shared → Prop}
   {rest : List (Addr × Obj)} {P SG D dd : Addr} {oP od : Obj} {n k : Nat} {vs : List Value} {path kind : Str} {tp tk tz tm tl ta : Tok} {z ms ls ati : Int} {sg : Bool}
   (B : Below A₀ base outer h₀) (F : Fr h₀ L s.heap m) (X : (Mine.hd.heap_39 w.params).In h₀) (N : News h₀ L s.heap ((P, oP) :: (SG, listOf vs.toArray k) :: (D, instObj 153 dd) :: (dd, od) :: rest))
   (T : Top Mine.hd.view_39 (looseW Mine.hd.view_39 []) mean mg mb h₀) (hk : cs.kind = .function)
   (hod : DesObjP w SG P od) (hP : StrDict PySem.Challenge.rw_sj0034_01.row.prog w oP n) (hn : n ≤ 100) (hv : vs.length ≤ 100)
   (n1 : @Ne Nat P SG) (n2 : @Ne Nat D P) (n3 : @Ne Nat dd P) (n4 : @Ne Nat D SG) (n5 : @Ne Nat dd SG) (o1 : OwnOff rest [P]) (o2 : OwnOff rest [SG])
   (hdp : (dp : Int) ≤ 700) (hun : (un : Int) ≤ 3000)
   (ret : ∀ S d oS oP' h' tk', Fr h₀ L h' m → News h₀ L h' ((S, instObj 90 d) :: (d, oS) :: (P, oP') :: (SG, listOf (vs ++ [Value.ref S]).toArray (k + 1)) :: (D, instObj 153 dd) :: (dd, od) :: rest) →
      @LT.lt Nat _ d S → AllLt d ((P, oP) :: (SG, listOf vs.toArray k) :: (D, instObj 153 dd) :: (dd, od) :: rest) → SigObj w oS → StrDict PySem.Challenge.rw_sj0034_01.row.prog w oP' (n + 1) → Q (.ref S) { s with heap := h', toks := tk' }) :
   wpAny (model PySem.Challenge.rw_sj0034_01.row.prog w) (ktrTop dp un gd cn cs L a ccd cl outer) (call (.ref 115) [.ref D, .str path tp, .str kind tk, .int z tz, .bool sg, .int ms tm, .int ls tl, .int ati ta]) Q E s := by
  cases hod
  refine wpAny_call ?_
  have hroom : dp < recursionLimit := by simp only [recursionLimit]; omega
  w_top off
  k_with_none
  k_with "call builtin:len" => ((k_here; (with_reducible show wpAny _ _ (call (Value.builtin "len") [Value.ref _]) _ _ _); (refine' len_listN ?kN ?km ?kz ?_; (case kN => k_asm); (case km => k_mem); (case kz => omega); k_whole)))
  k_with "call builtin:list.append" => ((k_here; (refine' append_K ?kF ?kN ?kU ?_ ?kz; (case kF => k_asm); (case kN => k_asm); (case kU => k_upd); (case kz => ((try simp only [List.size_toArray, Array.size_push]); rw [sizeLine_eq]; omega)); intro h' F' N'; (try simp only [List.push_toArray] at N'); (try k_sweep))))
  k_with "k_room" => ((simp only [depth_under_make, depth_under_kw, depth_in1, depth_deeper, depth_caller, recursionLimit] at *; omega))
  k_with "k_all" => (exact ownOff_ne (by assumption))
  k_with "execs cons" => ((rename Fr _ _ _ _ => zF); k_dflt (refine st_to (s := s) zF (by with_reducible rfl) (fun tk => ?_)); (try k_made); (refine wpAny_execs_cons ?_); (try dsimp only))
  k_with "k_ne" => (refine neN ?_; (try dsimp only); first | with_reducible assumption | (refine Ne.symm ?_; with_reducible assumption) | (refine Nat.ne_of_lt ?_; with_reducible assumption) | (refine Nat.ne_of_gt ?_; with_reducible assumption) | k_extra "k_nf")
  k_with "k_nf" => ((rename _ ∧ _ => lX); first | exact Nat.ne_of_gt lX.1 | exact Nat.ne_of_lt lX.1 | exact Nat.ne_of_gt lX.2.1 | exact Nat.ne_of_lt lX.2.1 | exact Nat.ne_of_gt lX.2.2.1 | exact Nat.ne_of_lt lX.2.2.1 | exact Nat.ne_of_gt lX.2.2.2.1 | exact Nat.ne_of_lt lX.2.2.2.1 | exact Nat.ne_of_gt lX.2.2.2.2.1 | exact Nat.ne_of_lt lX.2.2.2.2.1 | exact Nat.ne_of_gt lX.2.2.2.2.2.1 | exact Nat.ne_of_lt lX.2.2.2.2.2.1 | exact Nat.ne_of_gt lX.2.2.2.2.2.2.1 | exact Nat.ne_of_lt lX.2.2.2.2.2.2.1 | exact Nat.ne_of_gt lX.2.2.2.2.2.2.2.1 | exact Nat.ne_of_lt lX.2.2.2.2.2.2.2.1 | exact Nat.ne_of_gt lX.2.2.2.2.2.2.2.2.1 | exact Nat.ne_of_lt lX.2.2.2.2.2.2.2.2.1 | exact Nat.ne_of_gt lX.2.2.2.2.2.2.2.2.2.1 | exact Nat.ne_of_lt lX.2.2.2.2.2.2.2.2.2.1 | exact Nat.ne_of_gt lX.2.2.2.2.2.2.2.2.2.2.1 | exact Nat.ne_of_lt lX.2.2.2.2.2.2.2.2.2.2.1 | exact Nat.ne_of_gt lX.2.2.2.2.2.2.2.2.2.2.2.1 | exact Nat.ne_of_lt lX.2.2.2.2.2.2.2.2.2.2.2.1 | exact Nat.ne_of_gt lX.2 | exact Nat.ne_of_lt lX.2 | exact Nat.ne_of_gt lX.2.2 | exact Nat.ne_of_lt lX.2.2 | exact Nat.ne_of_gt lX.2.2.2 | exact Nat.ne_of_lt lX.2.2.2 | exact Nat.ne_of_gt lX.2.2.2.2 | exact Nat.ne_of_lt lX.2.2.2.2 | exact Nat.ne_of_gt lX.2.2.2.2.2 | exact Nat.ne_of_lt lX.2.2.2.2.2 | exact Nat.ne_of_gt lX.2.2.2.2.2.2 | exact Nat.ne_of_lt lX.2.2.2.2.2.2 | exact Nat.ne_of_gt lX.2.2.2.2.2.2.2 | exact Nat.ne_of_lt lX.2.2.2.2.2.2.2 | exact Nat.ne_of_gt lX.2.2.2.2.2.2.2.2 | exact Nat.ne_of_lt lX.2.2.2.2.2.2.2.2 | exact Nat.ne_of_gt lX.2.2.2.2.2.2.2.2.2 | exact Nat.ne_of_lt lX.2.2.2.2.2.2.2.2.2 | exact Nat.ne_of_gt lX.2.2.2.2.2.2.2.2.2.2 | exact Nat.ne_of_lt lX.2.2.2.2.2.2.2.2.2.2 | exact Nat.ne_of_gt lX.2.2.2.2.2.2.2.2.2.2.2 | exact Nat.ne_of_lt lX.2.2.2.2.2.2.2.2.2.2.2 | exact Ne.symm lX.1 | exact lX.1 | exact Ne.symm lX.2.1 | exact lX.2.1 | exact Ne.symm lX.2.2.1 | exact lX.2.2.1 | exact Ne.symm lX.2.2.2.1 | exact lX.2.2.2.1 | exact Ne.symm lX.2.2.2.2.1 | exact lX.2.2.2.2.1 | exact Ne.symm lX.2.2.2.2.2.1 | exact lX.2.2.2.2.2.1 | exact Ne.symm lX.2.2.2.2.2.2.1 | exact lX.2.2.2.2.2.2.1 | exact Ne.symm lX.2.2.2.2.2.2.2.1 | exact lX.2.2.2.2.2.2.2.1 | exact Ne.symm lX.2.2.2.2.2.2.2.2.1 | exact lX.2.2.2.2.2.2.2.2.1 | exact Ne.symm lX.2.2.2.2.2.2.2.2.2.1 | exact lX.2.2.2.2.2.2.2.2.2.1 | exact Ne.symm lX.2.2.2.2.2.2.2.2.2.2.1 | exact lX.2.2.2.2.2.2.2.2.2.2.1 | exact Ne.symm lX.2.2.2.2.2.2.2.2.2.2.2.1 | exact lX.2.2.2.2.2.2.2.2.2.2.2.1 | (clear lX; k_extra "k_nf"))
  k_with "setItem ref str" => ((k_dflt (refine' strd_set ?kF ?kN ?kU ?kD ?kz ?_; (case kF => k_asm); (case kN => k_asm); (case kU => k_updF); (case kD => exact hP); (case kz => omega); intro h' o' F' N' hD'; (try dsimp only at N'))))
  k_dflt ktr_enter
  k_steps
  (rename News h₀ _ _ _ => kN)
  (rename Fr h₀ _ _ _ => kF)
  (rename _ ∧ _ ∧ _ ∧ _ ∧ AllLt _ rest => l1)
  (rename @LT.lt Addr _ _ _ => l2)
  exact ret _ _ _ _ _ _ kF kN l2 l1 .mk hD'
end Mine
end

section
open PySem PySem.W PyProof.Rows PySem.Spec
set_option Elab.async false
namespace Mine
theorem fill18 : PySem.Challenge.rw_sj0034_01 = PySem.Challenge.rw_sj0034_01 ∧ Mine.hd.heap_39 = Mine.hd.heap_39 := by
  k_fill
  exact ⟨rfl, rfl⟩
theorem news_sub2 {h₀ h : Heap} {L : Addr} {l l' : List (Addr × Obj)} (N : News h₀ L h l) (hs : ∀ p ∈ l', p ∈ l) : News h₀ L h l' := fun p hp => N p (hs p hp)
set_option maxRecDepth 100000 in
set_option maxHeartbeats 8000000 in
theorem design_spec {w : World} {mean : ExcName → Option Value} {mg mb : Str → Option Value} {dp un : Nat} {gd : Option (List Code)} {cn : Str} {cs : Scope} {L a : Addr} {ccd : Value} {cl : List (Str × Addr)} {outer : List Env}
   {A₀ : Around} {base h₀ : Heap} {m : Str → Option Value} {s : Shared} {Q E : Value → Shared → Prop}
   {rest : List (Addr × Obj)}
   (B : Below A₀ base outer h₀) (F : Fr h₀ L s.heap m) (X : (Mine.hd.heap_39 w.params).In h₀) (N : News h₀ L s.heap rest)
   (T : Top Mine.hd.view_39 (looseW Mine.hd.view_39 []) mean mg mb h₀) (hk : cs.kind = .function)
   (hdp : (dp : Int) ≤ 700) (hun : (un : Int) ≤ 3000)
   (ret : ∀ D dd SG P od oP h' tk', Fr h₀ L h' m → News h₀ L h' ((P, oP) :: (SG, listOf #[] 0) :: (D, instObj 153 dd) :: (dd, od) :: rest) →
      DesObjP w SG P od → StrDict PySem.Challenge.rw_sj0034_01.row.prog w oP 0 → AllLt P ((SG, listOf #[] 0) :: (D, instObj 153 dd) :: (dd, od) :: rest) → AllLt SG ((D, instObj 153 dd) :: (dd, od) :: rest) → @LT.lt Nat _ dd D → AllLt dd rest → Q (.ref D) { s with heap := h', toks := tk' }) :
   wpAny (model PySem.Challenge.rw_sj0034_01.row.prog w) (ktrTop dp un gd cn cs L a ccd cl outer) (call (.ref 153) []) Q E s := by
  have hroom : dp < recursionLimit := by simp only [recursionLimit]; omega
  w_top off
  k_with_none
  k_with "k_room" => ((simp only [depth_under_make, depth_under_kw, depth_in1, depth_deeper, depth_caller, recursionLimit] at *; omega))
  k_with "k_ne" => (refine neN ?_; (try dsimp only); first | with_reducible assumption | (refine Ne.symm ?_; with_reducible assumption) | (refine Nat.ne_of_lt ?_; with_reducible assumption) | (refine Nat.ne_of_gt ?_; with_reducible assumption) | k_extra "k_nf")
  k_with "k_nf" => ((rename _ ∧ _ => lX); first | exact Nat.ne_of_gt lX.1 | exact Nat.ne_of_lt lX.1 | exact Nat.ne_of_gt lX.2.1 | exact Nat.ne_of_lt lX.2.1 | exact Nat.ne_of_gt lX.2.2.1 | exact Nat.ne_of_lt lX.2.2.1 | exact Nat.ne_of_gt lX.2.2.2.1 | exact Nat.ne_of_lt lX.2.2.2.1 | exact Nat.ne_of_gt lX.2.2.2.2.1 | exact Nat.ne_of_lt lX.2.2.2.2.1 | exact Nat.ne_of_gt lX.2.2.2.2.2.1 | exact Nat.ne_of_lt lX.2.2.2.2.2.1 | exact Nat.ne_of_gt lX.2.2.2.2.2.2.1 | exact Nat.ne_of_lt lX.2.2.2.2.2.2.1 | exact Nat.ne_of_gt lX.2.2.2.2.2.2.2.1 | exact Nat.ne_of_lt lX.2.2.2.2.2.2.2.1 | exact Nat.ne_of_gt lX.2.2.2.2.2.2.2.2.1 | exact Nat.ne_of_lt lX.2.2.2.2.2.2.2.2.1 | exact Nat.ne_of_gt lX.2.2.2.2.2.2.2.2.2.1 | exact Nat.ne_of_lt lX.2.2.2.2.2.2.2.2.2.1 | exact Nat.ne_of_gt lX.2.2.2.2.2.2.2.2.2.2.1 | exact Nat.ne_of_lt lX.2.2.2.2.2.2.2.2.2.2.1 | exact Nat.ne_of_gt lX.2.2.2.2.2.2.2.2.2.2.2.1 | exact Nat.ne_of_lt lX.2.2.2.2.2.2.2.2.2.2.2.1 | exact Nat.ne_of_gt lX.2 | exact Nat.ne_of_lt lX.2 | exact Nat.ne_of_gt lX.2.2 | exact Nat.ne_of_lt lX.2.2 | exact Nat.ne_of_gt lX.2.2.2 | exact Nat.ne_of_lt lX.2.2.2 | exact Nat.ne_of_gt lX.2.2.2.2 | exact Nat.ne_of_lt lX.2.2.2.2 | exact Nat.ne_of_gt lX.2.2.2.2.2 | exact Nat.ne_of_lt lX.2.2.2.2.2 | exact Nat.ne_of_gt lX.2.2.2.2.2.2 | exact Nat.ne_of_lt lX.2.2.2.2.2.2 | exact Nat.ne_of_gt lX.2.2.2.2.2.2.2 | exact Nat.ne_of_lt lX.2.2.2.2.2.2.2 | exact Nat.ne_of_gt lX.2.2.2.2.2.2.2.2 | exact Nat.ne_of_lt lX.2.2.2.2.2.2.2.2 | exact Nat.ne_of_gt lX.2.2.2.2.2.2.2.2.2 | exact Nat.ne_of_lt lX.2.2.2.2.2.2.2.2.2 | exact Nat.ne_of_gt lX.2.2.2.2.2.2.2.2.2.2 | exact Nat.ne_of_lt lX.2.2.2.2.2.2.2.2.2.2 | exact Nat.ne_of_gt lX.2.2.2.2.2.2.2.2.2.2.2 | exact Nat.ne_of_lt lX.2.2.2.2.2.2.2.2.2.2.2 | exact Ne.symm lX.1 | exact lX.1 | exact Ne.symm lX.2.1 | exact lX.2.1 | exact Ne.symm lX.2.2.1 | exact lX.2.2.1 | exact Ne.symm lX.2.2.2.1 | exact lX.2.2.2.1 | exact Ne.symm lX.2.2.2.2.1 | exact lX.2.2.2.2.1 | exact Ne.symm lX.2.2.2.2.2.1 | exact lX.2.2.2.2.2.1 | exact Ne.symm lX.2.2.2.2.2.2.1 | exact lX.2.2.2.2.2.2.1 | exact Ne.symm lX.2.2.2.2.2.2.2.1 | exact lX.2.2.2.2.2.2.2.1 | exact Ne.symm lX.2.2.2.2.2.2.2.2.1 | exact lX.2.2.2.2.2.2.2.2.1 | exact Ne.symm lX.2.2.2.2.2.2.2.2.2.1 | exact lX.2.2.2.2.2.2.2.2.2.1 | exact Ne.symm lX.2.2.2.2.2.2.2.2.2.2.1 | exact lX.2.2.2.2.2.2.2.2.2.2.1 | exact Ne.symm lX.2.2.2.2.2.2.2.2.2.2.2.1 | exact lX.2.2.2.2.2.2.2.2.2.2.2.1 | (clear lX; k_extra "k_nf"))
  k_with "execs cons" => ((rename Fr _ _ _ _ => zF); k_dflt (refine st_to (s := s) zF rfl (fun tk => ?_)); (try k_made); (refine wpAny_execs_cons ?_); (try dsimp only))
  k_dflt (refine' call_cls ?k1 ?k2 ?k3 ?k4 ?k5 ?k6 ?_; (case k1 => k_asm); (case k2 => k_asm); (case k3 => k_asm); (case k4 => k_is); (case k5 => k_is); (case k6 => k_is); k_whole; intro x' d' h' F' N' l1 l2; (try k_lt l1); (try k_lt2 l2); ktr_enter)
  k_steps
  (rename News h₀ _ _ _ => kN)
  (rename Fr h₀ _ _ _ => kF)
  (rename _ ∧ _ ∧ _ ∧ _ ∧ _ ∧ _ ∧ _ ∧ _ ∧ _ ∧ _ ∧ _ ∧ AllLt _ rest => lP)
  (rename _ ∧ _ ∧ AllLt _ rest => lS)
  (rename @LT.lt Addr _ _ _ => l2)
  (rename ∀ p ∈ rest, _ => l3)
  (rename Obj.IsDictOf (PySem.strKind _ _) _ [] => hP)
  have hs : ∀ {a0 a1 a2 a3 a4 a5 a6 a7 a8 a9 : Addr × Obj} {r : List (Addr × Obj)}, ∀ p ∈ a0 :: a9 :: r, p ∈ a0 :: a1 :: a2 :: a3 :: a4 :: a5 :: a6 :: a7 :: a8 :: a9 :: r := by
    intro a0 a1 a2 a3 a4 a5 a6 a7 a8 a9 r p hp
    rcases List.mem_cons.mp hp with rfl | hp
    · exact .head _
    · exact .tail _ (.tail _ (.tail _ (.tail _ (.tail _ (.tail _ (.tail _ (.tail _ (.tail _ hp))))))))
  exact ret _ _ _ _ _ _ _ _ kF (news_sub2 kN hs) .mk ⟨_, hP, Nat.le_refl _⟩ lP.2.2.2.2.2.2.2.2 lS l2 (allLt_of l3)
end Mine
end

section
open PySem PySem.W PyProof.Rows PySem.Spec
set_option Elab.async false
namespace Mine
theorem fill14 : PySem.Challenge.rw_sj0034_01 = PySem.Challenge.rw_sj0034_01 ∧ Mine.hd.heap_39 = Mine.hd.heap_39 := by
  k_fill
  exact ⟨rfl, rfl⟩

theorem at_bound {idx : Int} {sg : Bool} (h : 0 ≤ idx ∧ idx < 8) : -10 ≤ Ev.at idx sg ∧ Ev.at idx sg ≤ 10 := by unfold Ev.at; split <;> omega
theorem nodup_le : ∀ (a b : List Int), a.Nodup → (∀ x ∈ a, x ∈ b) → a.length ≤ b.length
  | [], b, _, _ => Nat.zero_le _
  | x :: r, b, hn, hs => by
    have hx := hs x (.head _)
    have h1 := nodup_le r (b.erase x) (List.nodup_cons.mp hn).2 fun y hy => by
      refine (List.mem_erase_of_ne fun e => ?_).mpr (hs y (.tail _ hy))
      exact (List.nodup_cons.mp hn).1 (e ▸ hy)
    rw [List.length_erase_of_mem hx] at h1
    have := List.length_pos_of_mem hx
    rw [List.length_cons]; omega
theorem named_four {order : List Int} {f l : Int} (h : OrdIs order f l) (hf : -1 ≤ f ∧ f ≤ 2) (hl : -1 ≤ l ∧ l ≤ 2) (es : List Ev) : (named order es).length ≤ 4 := by
  have hs := named_sub order es [] (fun _ h => nomatch h)
  have hn := named_nodup order es [] List.nodup_nil
  have hsub : (named order es) ⊆ [-1, 0, 1, 2] := fun x hx => by
    have hx := (h.mem x).mp (hs x hx)
    have : x = -1 ∨ x = 0 ∨ x = 1 ∨ x = 2 := by omega
    simpa using this
  exact nodup_le _ _ hn hsub
set_option maxRecDepth 100000 in
set_option maxHeartbeats 8000000 in
theorem awaitD {w : World} {mean : ExcName → Option Value} {mg mb : Str → Option Value} {dp un : Nat} {gd : Option (List Code)} {cn : Str} {cs : Scope} {L a : Addr} {ccd : Value} {cl : List (Str × Addr)} {outer : List Env}
   {A₀ : Around} {base h₀ : Heap} {m : Str → Option Value} {s : Shared} {Q E : Value → Shared → Prop}
   {rest : List (Addr × Obj)} {TR D dd SG S0 S1 S2 S3 d3 : Addr} {od om : Obj} {kS : Nat} {evs : List Value} {es : List Ev} {order : List Int} {f l : Int}
   (B : Below A₀ base outer h₀) (F : Fr h₀ L s.heap m) (X : (Mine.hd.heap_39 w.params).In h₀) (N : News h₀ L s.heap ((D, instObj 153 dd) :: (dd, od) :: (SG, listOf #[.ref S0, .ref S1, .ref S2, .ref S3] kS) :: (S3, instObj 90 d3) :: (d3, om) :: rest))
   (T : Top Mine.hd.view_39 (looseW Mine.hd.view_39 []) mean mg mb h₀) (hk : cs.kind = .function)
   (hod : DesObj w SG od) (hom : MemObj w f l om) (hord : OrdIs order f l) (hf : -1 ≤ f ∧ f ≤ 2) (hl : -1 ≤ l ∧ l ≤ 2)
   (hTR : (TR, tupO evs.toArray) ∈ rest) (hE : Each (EvIn rest) evs es) (hg : ∀ e ∈ es, EvFine e) (hw : ∀ idx unk sg, Ev.word idx unk sg ∈ es → 0 ≤ idx ∧ idx < 8) (hle : (es.flatMap Ev.keys).length ≤ 60) (hel : es.length ≤ 60)
   (hdp : (dp : Int) ≤ 400) (hun : (un : Int) ≤ 1000)
   (ret : ∀ K oK h' tk', Fr h₀ L h' m → News h₀ L h' ((K, oK) :: (D, instObj 153 dd) :: (dd, od) :: (SG, listOf #[.ref S0, .ref S1, .ref S2, .ref S3] kS) :: (S3, instObj 90 d3) :: (d3, om) :: rest) → AllLt K ((D, instObj 153 dd) :: (dd, od) :: (SG, listOf #[.ref S0, .ref S1, .ref S2, .ref S3] kS) :: (S3, instObj 90 d3) :: (d3, om) :: rest) → (K == sysModules) = false → IntDict PySem.Challenge.rw_sj0034_01.row.prog w oK (fullKeys order es) → Q (.ref K) { s with heap := h', toks := tk' }) :
   wpAny (model PySem.Challenge.rw_sj0034_01.row.prog w) (ktrTop dp un gd cn cs L a ccd cl outer) (call (.ref (ktn_at% "awaited_keys")) [.ref TR, .ref D]) Q E s := by
  have hom' := hom
  refine wpAny_call ?_
  have hroom : dp < recursionLimit := by simp only [recursionLimit]; omega
  w_top off
  k_with_none
  k_with "k_all" => (exact ownOff_ne (by assumption))
  k_with "storeName int" => (((k_dflt (refine' storeX_C ?F ?N ?c ?U ?d ?_ ?a ?b; (case a => rfl); (case b => rfl); (case F => k_asm); (case N => k_asm); (case c => rfl); (case U => k_updF); (case d => k_asm); k_whole; intro h' o' F' N' d'; (try dsimp only at N'); (try k_sweep)))))
  k_with "k_room" => ((simp only [depth_under_make, depth_under_kw, depth_in1, depth_deeper, depth_caller, recursionLimit] at *; omega))
  k_with "subscriptTail Name Constant ref int" => ((k_here; (refine' item_tupN ?kN ?km ?k0 ?k1 ?kx ?_; (case kN => k_asm); (case km => k_mem); (case k0 => decide); (case k1 => decide); (case kx => first | exact rfl | assumption); k_whole)))
  k_with "subscriptTail Subscript" => ((k_here; (with_reducible show wpAny _ _ (subscriptTail _ _ (Value.ref _) (Value.int _ _)) _ _ _); (refine' item_tupN ?kN ?km ?k0 ?k1 ?kx ?_; (case kN => k_asm); (case km => k_mem); (case k0 => decide); (case k1 => decide); (case kx => first | exact rfl | assumption); k_whole)))
  k_with "subscriptTail Subscript Name Constant Constant ref int" => ((k_here; (with_reducible show wpAny _ _ (subscriptTail _ _ (Value.ref _) (Value.int _ _)) _ _ _); (refine' item_tupN ?kN ?km ?k0 ?k1 ?kx ?_; (case kN => k_asm); (case km => k_mem); (case k0 => decide); (case k1 => decide); (case kx => first | exact rfl | assumption); k_whole)))
  k_with "subscriptTail Attribute Name Subscript ref int" => ((k_here; (refine' item_listN ?kN ?km ?k0 ?k1 ?kx ?_; (case kN => k_asm); (case km => k_mem); (case k0 => decide); (case k1 => decide); (case kx => exact rfl); k_whole)))
  k_with "subscriptTail Attribute Name Name ref int" => ((k_here; (refine' item_listN ?kN ?km ?k0 ?k1 ?kx ?_; (case kN => k_asm); (case km => k_mem); (case k0 => decide); (case k1 => decide); (case kx => exact rfl); k_whole)))
  k_with "eval ListComp" => ((k_here; lct_look; k_dflt (refine ListComp_raw (_F₀ := by k_asm) (by with_unfolding_all rfl) (by decide) (by rfl) (by decide) (by rfl) ?_)))
  k_with "execs cons" => ((rename Fr _ _ _ _ => zF); k_dflt (refine st_to (s := s) zF (by with_reducible rfl) (fun tk => ?_)); (try k_made); (refine wpAny_execs_cons ?_); (try dsimp only))
  k_with "k_ne" => (refine neN ?_; (try dsimp only); first | with_reducible assumption | (refine Ne.symm ?_; with_reducible assumption) | (refine Nat.ne_of_lt ?_; with_reducible assumption) | (refine Nat.ne_of_gt ?_; with_reducible assumption) | k_extra "k_nf")
  k_with "k_nf" => ((rename _ ∧ _ => lX); first | exact Nat.ne_of_gt lX.1 | exact Nat.ne_of_lt lX.1 | exact Nat.ne_of_gt lX.2.1 | exact Nat.ne_of_lt lX.2.1 | exact Nat.ne_of_gt lX.2.2.1 | exact Nat.ne_of_lt lX.2.2.1 | exact Nat.ne_of_gt lX.2.2.2.1 | exact Nat.ne_of_lt lX.2.2.2.1 | exact Nat.ne_of_gt lX.2.2.2.2.1 | exact Nat.ne_of_lt lX.2.2.2.2.1 | exact Nat.ne_of_gt lX.2.2.2.2.2.1 | exact Nat.ne_of_lt lX.2.2.2.2.2.1 | exact Nat.ne_of_gt lX.2.2.2.2.2.2.1 | exact Nat.ne_of_lt lX.2.2.2.2.2.2.1 | exact Nat.ne_of_gt lX.2.2.2.2.2.2.2.1 | exact Nat.ne_of_lt lX.2.2.2.2.2.2.2.1 | exact Nat.ne_of_gt lX.2.2.2.2.2.2.2.2.1 | exact Nat.ne_of_lt lX.2.2.2.2.2.2.2.2.1 | exact Nat.ne_of_gt lX.2.2.2.2.2.2.2.2.2.1 | exact Nat.ne_of_lt lX.2.2.2.2.2.2.2.2.2.1 | exact Nat.ne_of_gt lX.2.2.2.2.2.2.2.2.2.2.1 | exact Nat.ne_of_lt lX.2.2.2.2.2.2.2.2.2.2.1 | exact Nat.ne_of_gt lX.2.2.2.2.2.2.2.2.2.2.2.1 | exact Nat.ne_of_lt lX.2.2.2.2.2.2.2.2.2.2.2.1 | exact Nat.ne_of_gt lX.2 | exact Nat.ne_of_lt lX.2 | exact Nat.ne_of_gt lX.2.2 | exact Nat.ne_of_lt lX.2.2 | exact Nat.ne_of_gt lX.2.2.2 | exact Nat.ne_of_lt lX.2.2.2 | exact Nat.ne_of_gt lX.2.2.2.2 | exact Nat.ne_of_lt lX.2.2.2.2 | exact Nat.ne_of_gt lX.2.2.2.2.2 | exact Nat.ne_of_lt lX.2.2.2.2.2 | exact Nat.ne_of_gt lX.2.2.2.2.2.2 | exact Nat.ne_of_lt lX.2.2.2.2.2.2 | exact Nat.ne_of_gt lX.2.2.2.2.2.2.2 | exact Nat.ne_of_lt lX.2.2.2.2.2.2.2 | exact Nat.ne_of_gt lX.2.2.2.2.2.2.2.2 | exact Nat.ne_of_lt lX.2.2.2.2.2.2.2.2 | exact Nat.ne_of_gt lX.2.2.2.2.2.2.2.2.2 | exact Nat.ne_of_lt lX.2.2.2.2.2.2.2.2.2 | exact Nat.ne_of_gt lX.2.2.2.2.2.2.2.2.2.2 | exact Nat.ne_of_lt lX.2.2.2.2.2.2.2.2.2.2 | exact Nat.ne_of_gt lX.2.2.2.2.2.2.2.2.2.2.2 | exact Nat.ne_of_lt lX.2.2.2.2.2.2.2.2.2.2.2 | exact Ne.symm lX.1 | exact lX.1 | exact Ne.symm lX.2.1 | exact lX.2.1 | exact Ne.symm lX.2.2.1 | exact lX.2.2.1 | exact Ne.symm lX.2.2.2.1 | exact lX.2.2.2.1 | exact Ne.symm lX.2.2.2.2.1 | exact lX.2.2.2.2.1 | exact Ne.symm lX.2.2.2.2.2.1 | exact lX.2.2.2.2.2.1 | exact Ne.symm lX.2.2.2.2.2.2.1 | exact lX.2.2.2.2.2.2.1 | exact Ne.symm lX.2.2.2.2.2.2.2.1 | exact lX.2.2.2.2.2.2.2.1 | exact Ne.symm lX.2.2.2.2.2.2.2.2.1 | exact lX.2.2.2.2.2.2.2.2.1 | exact Ne.symm lX.2.2.2.2.2.2.2.2.2.1 | exact lX.2.2.2.2.2.2.2.2.2.1 | exact Ne.symm lX.2.2.2.2.2.2.2.2.2.2.1 | exact lX.2.2.2.2.2.2.2.2.2.2.1 | exact Ne.symm lX.2.2.2.2.2.2.2.2.2.2.2.1 | exact lX.2.2.2.2.2.2.2.2.2.2.2.1 | (clear lX; k_extra "k_nf"))
  k_with "getAttr ref" => ((k_dflt (refine' get_opq ?k1 ?k2 ?k3 ?m1 ?m2 hod.signals ?k4 ?k5 ?k6 ?k7 ?k8 ?_; (case k1 => k_asm); (case k2 => k_asm); (case k3 => k_asm); (case m1 => k_mem); (case m2 => k_mem); (case k4 => k_is); (case k5 => k_is); (case k6 => k_is); (case k7 => k_is); (case k8 => exact rfl))))
  k_with "newTuple" => (k_dflt (refine' kup_newTuple ?F ?N ?_ ?z; (case F => k_asm); (case N => k_asm); (case z => kmk_size)); intro D' h' F' N' l1; (try k_lt l1); (try k_sweep))
  k_with "getMethod ref" => ((first
    | ((with_reducible show wpAny _ _ (getMethod _ (Str.ofString "place") _) _ _ _); k_dflt (refine' method_opq ?k1 ?k2 ?k3 ?m1 ?m2 hom.place ?k4 ?k5 ?k6 ?_; (case k1 => k_asm); (case k2 => k_asm); (case k3 => k_asm); (case m1 => k_mem); (case m2 => k_mem); (case k4 => k_is); (case k5 => k_is); (case k6 => k_is)))
    | ((with_reducible show wpAny _ _ (getMethod _ (Str.ofString "words") _) _ _ _); k_dflt (refine' method_opq ?k1 ?k2 ?k3 ?m1 ?m2 hom.words ?k4 ?k5 ?k6 ?_; (case k1 => k_asm); (case k2 => k_asm); (case k3 => k_asm); (case m1 => k_mem); (case m2 => k_mem); (case k4 => k_is); (case k5 => k_is); (case k6 => k_is)))))
  k_with "setItem ref int" => ((k_dflt (refine' intd_set ?kF ?kN ?kU ?kD ?kz ?_; (case kF => k_asm); (case kN => k_asm); (case kU => k_updF); (case kD => assumption); (case kz => first | exact key_bound he hle | (have := rowKeys_len (full := (named order es).length = order.length) (allKeys es) i; have := allKeys_len es; omega)); intro h' o' F' N' hD'; (try dsimp only at N'))))
  k_with "exec For Tuple Name cons nil" => (((rename Fr _ _ _ _ => lF); k_dflt (refine For_IF lF ?_)))
  k_with "exec For Tuple Call cons nil" => (((rename Fr _ _ _ _ => lF); k_dflt (refine For_IF lF ?_)))
  k_with "exec For Name Call cons nil" => (((rename Fr _ _ _ _ => lF); k_dflt (refine For_IF lF ?_)))
  k_with "call builtin:sorted" => ((k_dflt (refine rows_sorted (by rfl) (by k_asm) (by k_asm) (by assumption) (by k_mem) hW (by rw [hwo.len]; have := named_four hord hf hl es; omega) (fun x hx => (hwo.rows x hx).mono fun p hp => by k_mem) (fun D2 h' tk' c vs' F' N' l1 hz hr => ?_)) <;> (have l2' := allLt_of l1) <;> (simp only [AllLt] at l2')))
  k_with "call ref" => ((first
    | (with_reducible show wpAny _ _ (call (Value.ref (ktn_at% "whole_keys")) _) _ _ _); k_dflt (refine keys_all w mean mg mb _ _ _ _ _ _ _ _ _ _ _ _ _ _ _ _ _ _ _ _ (by k_asm) (by k_asm) (by k_asm) (by k_asm) (by k_asm) (by first | exact rfl | assumption) (ht.mono fun p hp => by k_mem) (hg _ (List.mem_of_getElem? he)).1 (by have := (hg _ (List.mem_of_getElem? he)).2; simp only [depth_deeper]; omega) (by have := (hg _ (List.mem_of_getElem? he)).2; simp only [units_deeper]; omega) (fun b bvs bk h' tk' F N hlb hJ => ?_))
    | (with_reducible show wpAny _ _ (call (Value.ref (ktn_at% "whole_keys")) _) _ _ _); k_dflt (refine keys_word (by k_asm) (by k_asm) (by k_asm) (by k_asm) (by k_asm) (by first | exact rfl | assumption) (by k_mem) (by first | exact dpA (k := 1) hdp | (simp only [depth_deeper]; omega)) (by first | exact dpA (k := 3) hun | (simp only [units_deeper]; omega)) (fun b bvs bk h' tk' F N hlb hJ => ?_))
    | (with_reducible show wpAny _ _ (call (Value.ref (ktn_at% "to_int")) _) _ _ _); k_dflt (refine to_int_spec (by k_asm) (by k_asm) (by k_asm) (by k_asm) (by k_asm) (by first | exact rfl | assumption) (hw _ _ _ (List.mem_of_getElem? he)).1 (hw _ _ _ (List.mem_of_getElem? he)).2 (by first | exact dpA (k := 1) hdp | (simp only [depth_deeper]; omega)) (by first | exact dpA (k := 3) hun | (simp only [units_deeper]; omega)) (fun h' tk' hun0 F N => ?_) (fun h' tk' tv hun0 F N => ?_))
    | (with_reducible show wpAny _ _ (call (Value.ref 87) _) _ _ _); k_dflt (refine place_spec (by k_asm) (by k_asm) (by k_asm) (by k_asm) (by k_asm) (by first | exact rfl | assumption) (by k_mem) (by k_mem) hom' hf hl (at_bound (hw _ _ _ (List.mem_of_getElem? he))) (by first | exact dpA (k := 1) hdp | (simp only [depth_deeper]; omega)) (fun p9 h' tk' tv hp9 F N => ?_))
    | (with_reducible show wpAny _ _ (call (Value.ref 73) _) _ _ _); k_dflt (refine words_spec (by k_asm) (by k_asm) (by k_asm) (by k_asm) (by k_asm) (by first | exact rfl | assumption) (by k_mem) (by k_mem) hom' hf hl (by first | exact dpA (k := 1) hdp | (simp only [depth_deeper]; omega)) (fun n9 h' tk' tv hn1 hn2 F N => ?_))))
  k_with "pyIter ref" => ((first
    | (k_dflt (refine key_loop [(_, _), (_, _), (_, _)] [] (by rfl) (by k_asm) (by k_asm) (by k_mem) (by exact hJ) (by exact hI) (by exact hc) (fun i2 j2 t2 u2 oK2 oc2 cv2 h2 tk2 I2 oI2 hj2 hI2 hc2 ho2 F2 N2 => gen_T (fun QT hQT => ?_)) (fun u2 oK2 oc2 cv2 h2 tk2 hI2 hc2 F2 N2 => ?_)) <;> (simp only [List.cons_append, List.nil_append] at N2) <;> (simp only [AllLt] at hlb) <;> (try (have hq1 := off_ne_nat ho2 (List.mem_append_right _ List.mem_cons_self); have hq2 := off_ne_nat ho2 (List.mem_append_right _ (List.mem_cons_of_mem _ List.mem_cons_self)); simp only [List.cons_append, List.nil_append] at ho2)))
    | (k_dflt (refine awr_loop [(_, _), (_, _)] [(_, _), (_, _), (_, _), (_, _), (_, _)] ((named order es).length = order.length) [Str.ofString "index"] (by rfl) (by k_asm) (by k_asm) (by k_mem) (fun v hv => by obtain ⟨x, hx, rfl⟩ := hr v hv; exact hwo.rows x hx) (by exact hI) (by exact hc) (fun i a t t' j u oK oc cv h tk I oI hi hrm hI hc ho F N => gen_T (fun QT hQT => ?_)) (fun u oK oc cv h tk hI hc F N => ?_)) <;> (simp only [List.cons_append, List.nil_append] at N) <;> (try (simp only [List.cons_append, List.nil_append] at ho; (have hp0 := off_ne_nat ho List.mem_cons_self; have hp1 := off_ne_nat ho (List.mem_cons_of_mem _ List.mem_cons_self); have hp2 := off_ne_nat ho (List.mem_cons_of_mem _ (List.mem_cons_of_mem _ List.mem_cons_self)); have hp3 := off_ne_nat ho (List.mem_cons_of_mem _ (List.mem_cons_of_mem _ (List.mem_cons_of_mem _ List.mem_cons_self)))))))
    | ((rename _ ∧ _ ∧ _ ∧ _ ∧ _ ∧ _ ∧ _ ∧ AllLt _ rest => l2); (rename _ ∧ _ ∧ _ ∧ _ ∧ _ ∧ _ ∧ AllLt _ rest => l3); k_dflt (refine awd_loop [(_, _), (_, _), (_, _), (_, _), (_, _)] (order := order) [Str.ofString "edge", Str.ofString "e", Str.ofString "index"] (by rfl) (by k_asm) (by k_asm) hTR hE (intd_nil (by assumption)) (tupd_nil (by assumption)) (by assumption) (off_lt (allLt_mem l2.2.2.2.2.2.2.2)) (off_lt (allLt_mem l3.2.2.2.2.2.2)) hoC (fun i e v u oW oK oc cv rs xs h tk I oI he hP hI hc hW hwo hs o1 o2 o3 ho F N => gen_T (fun QT hQT => ?_)) (fun u oW oK oc cv rs xs h tk hI hc hW hwo hs o1 o2 o3 F N => ?_)) <;> (simp only [List.cons_append, List.nil_append] at N) <;> (try (simp only [List.cons_append, List.nil_append] at ho; (have hp0 := off_ne_nat ho List.mem_cons_self; have hp1 := off_ne_nat ho (List.mem_cons_of_mem _ List.mem_cons_self); have hp2 := off_ne_nat ho (List.mem_cons_of_mem _ (List.mem_cons_of_mem _ List.mem_cons_self)); have hp3 := off_ne_nat ho (List.mem_cons_of_mem _ (List.mem_cons_of_mem _ (List.mem_cons_of_mem _ List.mem_cons_self)))); rcases hP with ⟨hh, ht⟩ | ⟨hh, he2, hc2⟩))  <;> (try (obtain ⟨ta, its, tag, ttk, rfl, htm, hti, htg, htn⟩ := tr_tag ht)))))
  k_with "RawSrcT" => ((k_dflt (refine rawSrc_words (by rfl) (by k_asm) (by k_asm) (by k_mem) hW hwo (by have := named_four hord hf hl es; omega) (by assumption) (fun g i a t u j ys I oI C oC D m₂ h tk E' hy hr hC hx F N off ne => ?_) (fun g ys hy => ?_))))
  k_with "call builtin:len" => ((k_dflt (refine len_lstN (by k_asm) hy (by have := named_four hord hf hl es; omega) ?_)))
  k_with "setItem ref ref" => ((k_dflt (refine' tupd_set ?ku ?kF ?kN ?kU ?kD ?kk ?ka ?ki ?kz ?_; (case ku => first | (show un + 3 + 1 < cLine; rw [cLine_is]; omega) | ((fail "KU"))); (case kF => k_asm); (case kN => k_asm); (case kU => k_updF); (case kD => exact hW); (case kk => exact fun x hx => by obtain ⟨its, hm, hi⟩ := hwo.keys x hx; exact ⟨its, by k_mem, hi⟩); (case ka => k_mem); (case ki => exact items_pair _ _ _ _ _); (case kz => (have := hwo.len; have := named_four hord hf hl (es.take i); first | (rw [sizeLine_eq]; omega) | ((fail "KZ")))); intro h' o' tk' F' N' hD'; (try dsimp only at N'))))
  k_with "subscriptTail Name Slice ref ref" => ((rename News _ _ _ _ => N9); (rename Fr _ _ _ _ => F9); (k_dflt (refine slice_tupN (a := 1) F9 N9 (News.isTup N9 (by k_mem)) (Nat.le_refl _) (Nat.le_of_ble_eq_true rfl) (fun D9 h9 F9 N9 l9 => ?_)) <;> (simp only [AllLt] at l9)))
  k_dflt k_enter
  refine gen_L (fun QL EL hQL hEL => ?_)
  (rename _ ∧ _ ∧ _ ∧ _ ∧ _ ∧ AllLt _ rest => hl0)
  have hoC := off_lt (fun p hp => Nat.lt_add_one_of_lt (allLt_mem hl0.2.2.2.2.2 p hp))
  have hC0 := Nat.lt_add_one_of_lt hl0.1
  have hC1 := Nat.lt_add_one_of_lt hl0.2.1
  have hC2 := Nat.lt_add_one_of_lt hl0.2.2.1
  have hC3 := Nat.lt_add_one_of_lt hl0.2.2.2.1
  have hC4 := Nat.lt_add_one_of_lt hl0.2.2.2.2.1
  k_steps
  all_goals first | (with_reducible refine hQT _ _ ?_) | ((with_reducible refine hQL _ _ ?_); (try dsimp only); k_steps) | skip
  all_goals first
    | exact key_turn (pre := [(_, _), (_, _), (_, _)]) (by assumption) (by assumption) ho2 hj2 (by assumption) (by assumption) (fun z hz => by rfl)
    | cases hj2
    | exact awd_turn (q := [(_, _), (_, _), (_, _), (_, _), (_, _)]) (by assumption) (by assumption) (.tail _ (.head _)) (fun p hp => .tail _ (.tail _ hp)) ho (fun p hp => ho p (.tail _ (.tail _ (.tail _ (.tail _ (.tail _ (.tail _ (.tail _ (.tail _ hp))))))))) (by rw [allKeys_step he]; exact hI2) hc2 hW (words_tree he hwo) hs o1 o2 o3 (fun z hz => by dsimp only; simp at hz; simp [hz])
    | exact awd_turn (q := [(_, _), (_, _), (_, _), (_, _), (_, _)]) (by assumption) (by assumption) (.tail _ (.tail _ (.head _))) (fun p hp => .tail _ (.tail _ (.tail _ hp))) ho (fun p hp => ho p (.tail _ (.tail _ (.tail _ (.tail _ (.tail _ (.tail _ (.tail _ (.tail _ hp))))))))) (by rw [allKeys_step he]; exact hI2) hc2 hW (words_keep he hwo (fun q => hun0 q.1)) hs o1 o2 o3 (fun z hz => by dsimp only; simp at hz; simp [hz])
    | exact awd_turn (q := [(_, _), (_, _), (_, _), (_, _), (_, _)]) (by assumption) (by assumption) (.tail _ (.tail _ (.head _))) (fun p hp => .tail _ (.tail _ (.tail _ hp))) ho (fun p hp => ho p (.tail _ (.tail _ (.tail _ (.tail _ (.tail _ (.tail _ (.tail _ (.tail _ hp))))))))) (by rw [allKeys_step he]; exact hI2) hc2 hW (words_keep he hwo (fun q => by have := hp9.mpr ((hord.mem _).mp q.2); omega)) hs o1 o2 o3 (fun z hz => by dsimp only; simp at hz; simp [hz])
    | skip
  · (rename _ ∧ _ ∧ _ ∧ _ ∧ _ ∧ _ ∧ _ ∧ _ ∧ _ ∧ _ ∧ _ ∧ AllLt _ rs => l7)
    (rename News _ _ _ _ => N8)
    exact awd_turn6 (q := [(_, _), (_, _), (_, _), (_, _), (_, _)]) (by assumption) N8 ho l7.2.2.1 l7.2.2.2.1 l7.2.2.2.2.1 l7.2.2.2.2.2.1 (by rw [allKeys_step he]; exact hI2) hc2 hD' (words_add he hwo hun0 ((hord.mem _).mpr (hp9.mp (by omega))) (fun p hp => .tail _ hp) (.head _)) hs o1 o2 o3 (fun z hz => by dsimp only; simp at hz; simp [hz])
  · exact EltAt.mk _ (by assumption) (by assumption) (fun p hp => hp) off (by k_mem) ⟨rfl, by simp [hy]⟩
  · have hfull : (named order es).length = order.length := by have := hord.up; have := hord.down; omega
    exact awr_turn (d2 := [(_, _), (_, _)]) (q := [(_, _), (_, _), (_, _), (_, _), (_, _)]) (by assumption) (by assumption) (.tail _ (.head _)) (fun p hp => .tail _ (.tail _ hp)) ho (rowKeys_yes hfull _ _ ▸ hD') (by assumption) (fun z hz => by dsimp only; simp at hz; simp [hz])
  · have hfull : ¬ (named order es).length = order.length := by have := hord.up; have := hord.down; omega
    exact awr_turn (d2 := [(_, _), (_, _)]) (q := [(_, _), (_, _), (_, _), (_, _), (_, _)]) (by assumption) (by assumption) (.tail _ (.head _)) (fun p hp => .tail _ (.tail _ hp)) ho (rowKeys_no hfull _ _ _ ▸ hI) (by assumption) (fun z hz => by dsimp only; simp at hz; simp [hz])
  · rw [hz, hwo.len, rowKeys_full hord.pos] at hI
    (rename News h₀ _ _ _ => kN)
    exact ret _ _ _ _ (by assumption) (news_sub kN (awd_ret (q := [_, _, _, _, _]) hs)) l3.2 (by assumption) hI
end Mine
end

section
open PySem PySem.W PySem.SeqAt PyProof.Rows PySem.Spec PySem.Calls
set_option maxRecDepth 100000
namespace Mine
section
variable {prog : Program} {w : World} {A : Around} {E : Value → Shared → Prop} {s : Shared} {h₀ : Heap} {L : Addr} {news base : List (Addr × Obj)}
theorem item_intsN {value slice : Expr} {l : Addr} {vs : List Value} {zs : List Int} {n : Nat} {k : Int} {u : Tok} {Q : Value → Shared → Prop} (N : News h₀ L s.heap news) (hm : (l, listOf vs.toArray n) ∈ news) (hI : IntsAre vs zs)
    (h0 : 0 ≤ k) (hk : k < zs.length) (hz : zs.length ≤ 1000) (h : ∀ z t, zs[k.toNat]? = some z → Q (.int z t) s)
    (hs : subscripted slice false (.ref l) (.int k u) = operate [.ref l, .int k u] (getItem (.ref l) (.int k u)) := by with_unfolding_all rfl) :
    wpAny (model prog w) A (subscriptTail value slice (.ref l) (.int k u)) Q E s := by
  have hl := hI.length
  obtain ⟨v, hv⟩ : ∃ v, vs[k.toNat]? = some v := ⟨vs[k.toNat]'(by omega), List.getElem?_eq_getElem _⟩
  obtain ⟨z, t, rfl, hz'⟩ := hI.at _ _ hv
  exact item_listN N hm h0 (by omega) hv (h z t hz') hs
theorem item_ints_last {value slice : Expr} {l : Addr} {vs : List Value} {zs : List Int} {n : Nat} {u : Tok} {Q : Value → Shared → Prop} (N : News h₀ L s.heap news) (hm : (l, listOf vs.toArray n) ∈ news) (hI : IntsAre vs zs)
    (hk : 0 < zs.length) (h : ∀ z t, zs[zs.length - 1]? = some z → Q (.int z t) s)
    (hs : subscripted slice false (.ref l) (.int (-1) u) = operate [.ref l, .int (-1) u] (getItem (.ref l) (.int (-1) u)) := by with_unfolding_all rfl) :
    wpAny (model prog w) A (subscriptTail value slice (.ref l) (.int (-1) u)) Q E s := by
  have hl := hI.length
  obtain ⟨v, hv⟩ : ∃ v, vs[vs.length - 1]? = some v := ⟨vs[vs.length - 1]'(by omega), List.getElem?_eq_getElem _⟩
  obtain ⟨z, t, rfl, hz'⟩ := hI.at _ _ hv
  refine tail_any (News.isList N hm).typeIs slot_list_getitem.lookup (wpAny_getItem_list_neg (News.isList N hm) (by decide) (by rw [List.size_toArray]; omega) (by decide) ?_ (h z t (by rw [← hl]; exact hz'))) hs
  rw [List.size_toArray, show ((-1 : Int) + (vs.length : Int)).toNat = vs.length - 1 by omega]
  simpa using hv
theorem each_any {R : Value → Int × Int → Prop} {e : Value → Bool} {p : Int × Int} (h : ∀ v q, R v q → e v = decide (q = p)) : ∀ {vs : List Value} {bs : List (Int × Int)}, Each R vs bs → vs.any e = decide (p ∈ bs)
  | [], [], _ => by simp
  | v :: vs, q :: bs, hE => by
    rw [List.any_cons, h v q hE.1, each_any h hE.2, Bool.eq_iff_iff]
    simp only [Bool.or_eq_true, decide_eq_true_eq, List.mem_cons]
    constructor
    · rintro (a | a)
      · exact .inl a.symm
      · exact .inr a
    · rintro (a | a)
      · exact .inl a.symm
      · exact .inr a
theorem pair_same {v : Value} {p q : Int × Int} (N : News h₀ L s.heap news) (hb : ∀ p ∈ base, p ∈ news) (h1 : PairIn base v p) (h2 : PairIn base v q) : p = q := by
  obtain ⟨a, t, u, rfl, ha⟩ := h1
  obtain ⟨a', t', u', e, hb'⟩ := h2
  cases e
  have e1 := (N _ (hb _ ha)).1
  have e2 := (N _ (hb _ hb')).1
  rw [e1] at e2
  simp only [Option.some.injEq, Obj.mk.injEq, Data.seq.injEq] at e2
  simp at e2
  exact Prod.ext e2.1.1 e2.2.1
/-- `(x, y) in l` for a list of pairs -/
theorem in_pairsN {l T : Addr} {vs : List Value} {bs : List (Int × Int)} {n : Nat} {x y : Int} {t u : Tok} {Q : Value → Shared → Prop} (hu : A.units + 1 < cLine) (N : News h₀ L s.heap news) (hm : (l, listOf vs.toArray n) ∈ news) (hE : Each (PairIn base) vs bs) (hb : ∀ p ∈ base, p ∈ news)
    (hT : (T, tupO #[.int x t, .int y u]) ∈ news) (hTb : ∀ p ∈ base, p.1 ≠ T) (h : Q (.bool (decide ((x, y) ∈ bs))) s) : wpAny (model prog w) A (compareOp .In (.ref T) (.ref l)) Q E s := by
  have tup : ∀ v q, PairIn base v q → EqAt A.in1 s v (.ref T) (decide (q = (x, y))) := fun v q hv => by
    obtain ⟨a, t', u', rfl, ha⟩ := hv
    refine EqAt.of_refs (hTb _ ha) ?_
    have r := RcAt.tuples (A := A.in1) (e := fun j => if j = 0 then (q.1 == x) else (q.2 == y)) (News.isTup N (hb _ ha)) (News.isTup N hT) (by show A.units + 1 < cLine; exact hu) (fun j h1 h2 => by
      match j, h1 with
      | 0, _ => exact EqAt.int_int _ _ _ _
      | 1, _ => exact EqAt.int_int _ _ _ _)
    have e : ((List.range (min (#[Value.int q.1 t', Value.int q.2 u'] : Array Value).size (#[Value.int x t, Value.int y u] : Array Value).size)).all (fun j => if j = 0 then (q.1 == x) else (q.2 == y)) && (#[Value.int q.1 t', Value.int q.2 u'] : Array Value).size == (#[Value.int x t, Value.int y u] : Array Value).size) = decide (q = (x, y)) := by
      show ((List.range 2).all _ && (2 == 2)) = _
      rw [Bool.eq_iff_iff]
      simp [List.range_succ, Prod.ext_iff]
    rw [e] at r
    exact r
  have he : ∀ v q, PairIn base v q → @decide (PairIn base v (x, y)) (Classical.propDecidable _) = decide (q = (x, y)) := fun v q hv => by
    rw [Bool.eq_iff_iff]
    simp only [decide_eq_true_eq]
    constructor
    · intro h'; exact pair_same N hb hv h'
    · rintro rfl; exact hv
  have hany := each_any (R := PairIn base) (e := fun v => @decide (PairIn base v (x, y)) (Classical.propDecidable _)) (p := (x, y)) he hE
  refine in_listAt (fun v => @decide (PairIn base v (x, y)) (Classical.propDecidable _)) (News.isList N hm) (fun v hv => ?_) ?_
  · obtain ⟨i, hi⟩ := List.mem_iff_getElem?.mp (show v ∈ vs by simpa using hv)
    obtain ⟨q, hq, hP⟩ := hE.get hi
    rw [he v q hP]
    exact tup v q hP
  · rw [List.any_toArray, hany]; exact h
end

/-- what the sure and the may rows say -/
def SureOk (su : List Bool) (es : List Ev) : Prop := ∀ r : Int, 0 ≤ r → su.getD r.toNat false = true → ∃ t, Ev.tree t ∈ es ∧ r ∈ t.keys
def MayOk (ma : List Bool) (es : List Ev) : Prop := ∀ t, Ev.tree t ∈ es → ∀ r ∈ t.keys, ma.getD r.toNat false = true
def MayUp (ma : List Bool) (os : List (Int × Int × Bool)) : Prop := ∀ r n, (r, n, true) ∈ os → ma.getD r.toNat false = true
theorem getD_set {l : List Bool} {i j : Nat} : (l.set i true).getD j false = true ↔ ((i = j ∧ j < l.length) ∨ l.getD j false = true) := by
  simp only [List.getD_eq_getElem?_getD, List.getElem?_set]
  split
  · rename_i h
    subst h
    split
    · rename_i h; simp [h]
    · rename_i h; rw [List.getElem?_eq_none (by omega)]; simp [h]
  · rename_i h; simp [h]
theorem SureOk.set {su : List Bool} {es : List Ev} {r n : Int} {t : Tr} (h : SureOk su es) (h0 : 0 ≤ r) (ht : Ev.tree t ∈ es) (ho : (r, n, true) ∈ t.occs true) : SureOk (su.set r.toNat true) es := fun r' h' e => by
  rcases getD_set.mp e with ⟨e1, _⟩ | e1
  · exact ⟨t, ht, (t.keys_iff r').mpr ⟨n, by have : r = r' := by omega
                                             exact this ▸ ho⟩⟩
  · exact h r' h' e1
theorem MayOk.set {ma : List Bool} {es : List Ev} {i : Nat} (h : MayOk ma es) : MayOk (ma.set i true) es := fun t ht r hr => getD_set.mpr (.inr (h t ht r hr))
theorem MayUp.set {ma : List Bool} {os : List (Int × Int × Bool)} {i : Nat} (h : MayUp ma os) : MayUp (ma.set i true) os := fun r n hr => getD_set.mpr (.inr (h r n hr))
theorem MayUp.add {ma : List Bool} {os : List (Int × Int × Bool)} {j : Nat} {r n : Int} {c : Bool} (h : MayUp ma (os.take j)) (hj : os[j]? = some (r, n, c)) (hc : c = true → ma.getD r.toNat false = true) : MayUp ma (os.take (j + 1)) := fun r' n' hm => by
  rw [List.take_add_one, hj] at hm
  rcases List.mem_append.mp hm with hm | hm
  · exact h r' n' hm
  · simp only [Option.toList_some, List.mem_singleton, Prod.mk.injEq] at hm
    rw [hm.1]; exact hc hm.2.2.symm
theorem MayUp.nil {ma : List Bool} {os : List (Int × Int × Bool)} : MayUp ma (os.take 0) := fun _ _ h => by simp at h
theorem MayOk.tree {ma : List Bool} {es : List Ev} {i : Nat} {t : Tr} (he : es[i]? = some (.tree t)) (h : MayOk ma (es.take i)) (hu : MayUp ma (t.occs true)) : MayOk ma (es.take (i + 1)) := fun t' ht' r hr => by
  rw [List.take_add_one, he] at ht'
  rcases List.mem_append.mp ht' with ht' | ht'
  · exact h t' ht' r hr
  · simp only [Option.toList_some, List.mem_singleton, Ev.tree.injEq] at ht'
    subst ht'
    obtain ⟨n, hn⟩ := (t'.keys_iff r).mp hr
    exact hu r n hn
theorem MayOk.word {ma : List Bool} {es : List Ev} {i : Nat} {idx unk : Int} {sg : Bool} (he : es[i]? = some (.word idx unk sg)) (h : MayOk ma (es.take i)) : MayOk ma (es.take (i + 1)) := fun t' ht' r hr => by
  rw [List.take_add_one, he] at ht'
  rcases List.mem_append.mp ht' with ht' | ht'
  · exact h t' ht' r hr
  · simp at ht'
theorem occs_range {sz : Int → Int} : ∀ {t : Tr}, t.Good sz → ∀ (c : Bool) (p : Int × Int × Bool), p ∈ t.occs c → 0 ≤ p.1 ∧ p.1 < 3 ∧ 1 ≤ p.2.1 ∧ p.2.1 ≤ 4
  | .sig n r, h, c, p, hp => by rw [List.mem_singleton.mp hp]; exact ⟨h.1, h.2.1, h.2.2.2.1, h.2.2.2.2⟩
  | .ext _ e _, h, c, p, hp => occs_range (t := e) h.2.2 _ p hp
  | .slice _ e _, h, c, p, hp => occs_range (t := e) h.2.2.2.2 _ p hp
  | .cat _ x y, h, c, p, hp => by
    rcases List.mem_append.mp hp with hp | hp
    · exact occs_range (t := y) h.2.2 _ p hp
    · exact occs_range (t := x) h.2.1 _ p hp
theorem keys_range {sz : Int → Int} {t : Tr} (h : t.Good sz) {r : Int} (hr : r ∈ t.keys) : 0 ≤ r ∧ r < 3 := by
  obtain ⟨n, hn⟩ := (t.keys_iff r).mp hr
  exact ⟨(occs_range h _ _ hn).1, (occs_range h _ _ hn).2.1⟩
section
variable {prog : Program} {w : World} {A : Around} {s : Shared} {env : Env} {h₀ : Heap} {E : Value → Shared → Prop} {Q : Flow → Shared → Prop} {target : Expr} {body : List Stmt} {m₀ : Str → Option Value}
/-- the making of the design's vectors -/
def DesInv (prog : Program) (w : World) (SG P D dd : Addr) (od : Obj) (c1 base : List (Addr × Obj)) (xs : List Addr) (i : Nat) (nx : List (Addr × Obj)) : Prop :=
  ∃ oP as k rs, nx = (P, oP) :: (SG, listOf (List.map Value.ref as).toArray k) :: (D, instObj 153 dd) :: (dd, od) :: (c1 ++ rs) ∧ as.length = i ∧ StrDict prog w oP i ∧ (∀ p ∈ base, p ∈ rs) ∧ ∀ x ∈ xs, OwnOff rs [x]
theorem des_loop {r SG P D dd : Addr} {od oP : Obj} {t u v : Tok} (c1 : List (Addr × Obj)) {base news : List (Addr × Obj)} (xs : List Addr) (stored : List Str)
    (hh : A.handled = none) (hr : IsRange s.heap r 0 3 1 t u v) (F : Fr h₀ env.locals s.heap m₀) (N : News h₀ env.locals s.heap news)
    (hsub : ∀ p ∈ (P, oP) :: (SG, listOf #[] 0) :: (D, instObj 153 dd) :: (dd, od) :: (c1 ++ base), p ∈ news) (hP : StrDict prog w oP 0) (hx : ∀ x ∈ xs, OwnOff base [x])
    (turn : ∀ i tt (u : Str → Option Value) oP as k rs h tk I oI, i < 3 → as.length = i → StrDict prog w oP i → (∀ p ∈ base, p ∈ rs) → (∀ x ∈ xs, OwnOff rs [x]) → OwnOff ((P, oP) :: (SG, listOf (List.map Value.ref as).toArray k) :: (D, instObj 153 dd) :: (dd, od) :: (c1 ++ rs)) [I] →
      Fr h₀ env.locals h (fun y => if stored.contains y then u y else m₀ y) → News h₀ env.locals h ((I, oI) :: (P, oP) :: (SG, listOf (List.map Value.ref as).toArray k) :: (D, instObj 153 dd) :: (dd, od) :: (c1 ++ rs)) →
      wpAny (model prog w) A (assign target env (.int (0 + (i : Int)) tt)) (fun _ s₃ => wpAny (model prog w) A (execs body env) (TurnAt h₀ env.locals I oI (JN stored m₀ (DesInv prog w SG P D dd od c1 base xs (i + 1))) { s with heap := h, toks := tk } Q) E s₃) E { s with heap := h, toks := tk })
    (done : ∀ (u : Str → Option Value) oP as k rs h tk, as.length = 3 → StrDict prog w oP 3 → (∀ p ∈ base, p ∈ rs) → (∀ x ∈ xs, OwnOff rs [x]) →
      Fr h₀ env.locals h (fun y => if stored.contains y then u y else m₀ y) → News h₀ env.locals h ((P, oP) :: (SG, listOf (List.map Value.ref as).toArray k) :: (D, instObj 153 dd) :: (dd, od) :: (c1 ++ rs)) → Q .next { s with heap := h, toks := tk }) :
    wpAny (model prog w) A (pyIter (.ref r)) (fun it s₂ => LoopI prog w A h₀ env target body Q E it s₂) E s := by
  refine loop_range (n := 3) stored (DesInv prog w SG P D dd od c1 base xs) hh hr (by decide) (by decide) F (news_sub N hsub) ⟨oP, [], 0, base, rfl, rfl, hP, fun _ h => h, hx⟩ ?_ ?_
  · rintro i tt u nx h tk I oI hi ⟨oP, as, k, rs, rfl, ha, hP, hs, hx⟩ ho F N
    exact turn i tt u oP as k rs h tk I oI hi ha hP hs hx ho F N
  · rintro u h tk nx ⟨oP, as, k, rs, rfl, ha, hP, hs, hx⟩ F N
    exact done u oP as k rs h tk ha hP hs hx F N
theorem news_rot {h : Heap} {L : Addr} {i a b c d : Addr × Obj} {r : List (Addr × Obj)} (N : News h₀ L h (i :: a :: b :: c :: d :: r)) : News h₀ L h (a :: b :: c :: d :: i :: r) := news_sub N (sub_mid (X := []) (T := [i]) (M := [a, b, c, d]) (R := r))
theorem des_turn {L I SG P D dd S d : Addr} {oS1 oS oI od oP oP' : Obj} {c1 base rs : List (Addr × Obj)} {xs as : List Addr} {k k' i : Nat} {stored : List Str} {s₁ : Shared} {h' : Heap} {tk : Nat} {m' : Str → Option Value}
    (F : Fr h₀ L h' m') (N : News h₀ L h' ((S, oS1) :: (d, oS) :: (P, oP) :: (SG, listOf (List.map Value.ref as ++ [Value.ref S]).toArray k) :: (D, instObj 153 dd) :: (dd, od) :: (I, oI) :: (c1 ++ rs)))
    (ha : as.length = i) (hP : StrDict prog w oP (i + 1)) (hs : ∀ p ∈ base, p ∈ rs) (hx : ∀ x ∈ xs, OwnOff rs [x]) (ho : OwnOff ((P, oP') :: (SG, listOf (List.map Value.ref as).toArray k') :: (D, instObj 153 dd) :: (dd, od) :: (c1 ++ rs)) [I])
    (l2 : @LT.lt Nat _ d S) (lI : @LT.lt Nat _ I d) (lx : ∀ x ∈ xs, @LT.lt Nat _ x d) (hm : ∀ z, stored.contains z = false → m' z = m₀ z) :
    TurnAt h₀ L I oI (JN stored m₀ (DesInv prog w SG P D dd od c1 base xs (i + 1))) s₁ Q .next { s₁ with heap := h', toks := tk } := by
  refine TurnAt.mk ((P, oP) :: (SG, listOf (List.map Value.ref (as ++ [S])).toArray k) :: (D, instObj 153 dd) :: (dd, od) :: (c1 ++ (S, oS1) :: (d, oS) :: rs)) F N (.tail _ (.tail _ (.tail _ (.tail _ (.tail _ (.tail _ (.head _))))))) (fun p hp => ?_) (fun p hp => ?_)
    ⟨⟨oP, as ++ [S], k, (S, oS1) :: (d, oS) :: rs, rfl, by simp [ha], hP, fun p hp => .tail _ (.tail _ (hs p hp)), fun x hx' => ownOff_lt (Nat.lt_trans (lx x hx') l2) (ownOff_lt (lx x hx') (hx x hx'))⟩, hm⟩
  · rw [List.map_append] at hp
    exact sub_skip (X := [(S, oS1), (d, oS), (P, oP), (SG, listOf (List.map Value.ref as ++ [Value.ref S]).toArray k), (D, instObj 153 dd), (dd, od)]) (T := [(I, oI)]) (R := c1 ++ rs) _ (sub_mid (X := []) (T := [(S, oS1), (d, oS)]) (M := [(P, oP), (SG, listOf (List.map Value.ref as ++ [Value.ref S]).toArray k), (D, instObj 153 dd), (dd, od)] ++ c1) (R := rs) p hp)
  · simp only [List.mem_cons, List.mem_append] at hp
    rcases hp with rfl | rfl | rfl | rfl | h | rfl | rfl | h
    · exact ho (P, oP') (.head _)
    · exact ho (SG, listOf (List.map Value.ref as).toArray k') (.tail _ (.head _))
    · exact ho _ (.tail _ (.tail _ (.head _)))
    · exact ho _ (.tail _ (.tail _ (.tail _ (.head _))))
    · exact ho p (.tail _ (.tail _ (.tail _ (.tail _ (List.mem_append_left _ h)))))
    · intro b hb e; rw [List.mem_singleton.mp hb] at e; exact Nat.ne_of_gt (Nat.lt_trans lI l2) e
    · intro b hb e; rw [List.mem_singleton.mp hb] at e; exact Nat.ne_of_gt lI e
    · exact ho p (.tail _ (.tail _ (.tail _ (.tail _ (List.mem_append_right _ h)))))
end
section
open LSm
variable {prog : Program} {w : World} {A : Around} {s : Shared} {env : Env} {h₀ : Heap} {E : Value → Shared → Prop} {Q : Flow → Shared → Prop} {target : Expr} {body : List Stmt} {m₀ : Str → Option Value}
/-- the events' loop -/
def CaseInv (es : List Ev) (q : List (Addr × Obj)) (MA SU CB CN : Addr) (rs : List (Addr × Obj)) (i : Nat) (nx : List (Addr × Obj)) : Prop :=
  ∃ mvs svs ma su km ks oB oN cb cn, nx = (MA, listOf (List.toArray mvs) km) :: (SU, listOf (List.toArray svs) ks) :: (q ++ (CB, oB) :: (CN, oN) :: rs) ∧ oB.data = Data.cell cb ∧ oN.data = Data.cell cn ∧ BoolsAre mvs ma ∧ BoolsAre svs su ∧ ma.length = 3 ∧ su.length = 3 ∧ SureOk su es ∧ MayOk ma (es.take i)
theorem off_case {I MA SU CB CN : Addr} {oM oM' oS oS' oB oB' oN oN' : Obj} {q rs : List (Addr × Obj)} (h : OwnOff ((MA, oM) :: (SU, oS) :: (q ++ (CB, oB) :: (CN, oN) :: rs)) [I]) : OwnOff ((MA, oM') :: (SU, oS') :: (q ++ (CB, oB') :: (CN, oN') :: rs)) [I] := fun p hp => by
  simp only [List.mem_cons, List.mem_append] at hp
  rcases hp with rfl | rfl | hp | rfl | rfl | hp
  · exact h (MA, oM) (.head _)
  · exact h (SU, oS) (.tail _ (.head _))
  · exact h p (.tail _ (.tail _ (List.mem_append_left _ hp)))
  · exact h (CB, oB) (.tail _ (.tail _ (List.mem_append_right _ (.head _))))
  · exact h (CN, oN) (.tail _ (.tail _ (List.mem_append_right _ (.tail _ (.head _)))))
  · exact h p (.tail _ (.tail _ (List.mem_append_right _ (.tail _ (.tail _ hp)))))
theorem case_loop {EV MA SU CB CN : Addr} (q : List (Addr × Obj)) {evs : List Value} {ke : Nat} {es : List Ev} {mvs svs : List Value} {ma su : List Bool} {km ks : Nat} {oB oN : Obj} {cb cn : Option Value} {rs : List (Addr × Obj)} (stored : List Str)
    (hh : A.handled = none) (F : Fr h₀ env.locals s.heap m₀) (N : News h₀ env.locals s.heap ((MA, listOf mvs.toArray km) :: (SU, listOf svs.toArray ks) :: (q ++ (CB, oB) :: (CN, oN) :: rs))) (hm : (EV, listOf evs.toArray ke) ∈ rs) (hE : Each (EvIn rs) evs es)
    (hcb : oB.data = Data.cell cb) (hcn : oN.data = Data.cell cn) (bm : BoolsAre mvs ma) (bs : BoolsAre svs su) (lm : ma.length = 3) (ls : su.length = 3) (hs : SureOk su es)
    (turn : ∀ i e v (u : Str → Option Value) mvs svs ma su km ks oB oN cb cn h tk I oI, es[i]? = some e → EvIn rs v e → oB.data = Data.cell cb → oN.data = Data.cell cn → BoolsAre mvs ma → BoolsAre svs su → ma.length = 3 → su.length = 3 → SureOk su es → MayOk ma (es.take i) →
      OwnOff ((MA, listOf (List.toArray mvs) km) :: (SU, listOf (List.toArray svs) ks) :: (q ++ (CB, oB) :: (CN, oN) :: rs)) [I] → Fr h₀ env.locals h (fun y => if stored.contains y then u y else m₀ y) → News h₀ env.locals h ((I, oI) :: (MA, listOf (List.toArray mvs) km) :: (SU, listOf (List.toArray svs) ks) :: (q ++ (CB, oB) :: (CN, oN) :: rs)) →
      wpAny (model prog w) A (assign target env v) (fun _ s₃ => wpAny (model prog w) A (execs body env) (TurnAt h₀ env.locals I oI (JN stored m₀ (CaseInv es q MA SU CB CN rs (i + 1))) { s with heap := h, toks := tk } Q) E s₃) E { s with heap := h, toks := tk })
    (done : ∀ (u : Str → Option Value) mvs svs ma su km ks oB oN cb cn h tk, oB.data = Data.cell cb → oN.data = Data.cell cn → BoolsAre mvs ma → BoolsAre svs su → ma.length = 3 → su.length = 3 → SureOk su es → MayOk ma es →
      Fr h₀ env.locals h (fun y => if stored.contains y then u y else m₀ y) → News h₀ env.locals h ((MA, listOf (List.toArray mvs) km) :: (SU, listOf (List.toArray svs) ks) :: (q ++ (CB, oB) :: (CN, oN) :: rs)) → Q .next { s with heap := h, toks := tk }) :
    wpAny (model prog w) A (pyIter (.ref EV)) (fun it s₂ => LoopI prog w A h₀ env target body Q E it s₂) E s := by
  refine loop_list (items := evs.toArray) (k := ke) stored (CaseInv es q MA SU CB CN rs) hh F N ⟨mvs, svs, ma, su, km, ks, oB, oN, cb, cn, rfl, hcb, hcn, bm, bs, lm, ls, hs, fun t ht => by simp at ht⟩ ?_ ?_ ?_
  · rintro i nx ⟨mvs, svs, ma, su, km, ks, oB, oN, cb, cn, rfl, _⟩
    exact .tail _ (.tail _ (List.mem_append_right _ (.tail _ (.tail _ hm))))
  · rintro i v u nx h tk I oI hv ⟨mvs, svs, ma, su, km, ks, oB, oN, cb, cn, rfl, hcb, hcn, bm, bs, lm, ls, hs, hy⟩ ho F N
    obtain ⟨e, he, hP⟩ := hE.get (i := i) (a := v) (by simpa using hv)
    exact turn i e v u mvs svs ma su km ks oB oN cb cn h tk I oI he hP hcb hcn bm bs lm ls hs hy ho F N
  · rintro u h tk nx ⟨mvs, svs, ma, su, km, ks, oB, oN, cb, cn, rfl, hcb, hcn, bm, bs, lm, ls, hs, hy⟩ F N
    rw [List.size_toArray, hE.length, List.take_length] at hy
    exact done u mvs svs ma su km ks oB oN cb cn h tk hcb hcn bm bs lm ls hs hy F N
theorem case_turn {L I MA SU CB CN : Addr} {q pre rs news' : List (Addr × Obj)} {es : List Ev} {i : Nat} {mvs svs mvs' svs' : List Value} {ma su : List Bool} {km ks km' ks' : Nat} {oI oB oN oB' oN' : Obj} {cb cn : Option Value} {stored : List Str} {s₁ : Shared} {h' : Heap} {tk : Nat} {m' : Str → Option Value}
    (F : Fr h₀ L h' m') (N : News h₀ L h' news') (hI' : (I, oI) ∈ news') (hsub : ∀ p ∈ (MA, listOf (List.toArray mvs) km) :: (SU, listOf (List.toArray svs) ks) :: (q ++ (CB, oB) :: (CN, oN) :: rs), p ∈ news')
    (ho : OwnOff ((MA, listOf (List.toArray mvs') km') :: (SU, listOf (List.toArray svs') ks') :: (q ++ (CB, oB') :: (CN, oN') :: rs)) [I])
    (hcb : oB.data = Data.cell cb) (hcn : oN.data = Data.cell cn) (bm : BoolsAre mvs ma) (bs : BoolsAre svs su) (lm : ma.length = 3) (ls : su.length = 3) (hs : SureOk su es) (hy : MayOk ma (es.take (i + 1))) (hm : ∀ z, stored.contains z = false → m' z = m₀ z) :
    TurnAt h₀ L I oI (JN stored m₀ (CaseInv es q MA SU CB CN rs (i + 1))) s₁ Q .next { s₁ with heap := h', toks := tk } :=
  TurnAt.mk _ F N hI' hsub (off_case ho) ⟨⟨mvs, svs, ma, su, km, ks, oB, oN, cb, cn, rfl, hcb, hcn, bm, bs, lm, ls, hs, hy⟩, hm⟩
/-- the loop over a trace's notes -/
def InnInv (es : List Ev) (i₀ : Nat) (t : Tr) (pre q : List (Addr × Obj)) (MA SU CB CN : Addr) (oB : Obj) (rs : List (Addr × Obj)) (i : Nat) (nx : List (Addr × Obj)) : Prop :=
  ∃ mvs svs ma su km ks oN cn, nx = pre ++ (MA, listOf (List.toArray mvs) km) :: (SU, listOf (List.toArray svs) ks) :: (q ++ (CN, oN) :: (CB, oB) :: rs) ∧ oN.data = Data.cell cn ∧ BoolsAre mvs ma ∧ BoolsAre svs su ∧ ma.length = 3 ∧ su.length = 3 ∧ SureOk su es ∧ MayOk ma (es.take i₀) ∧ MayUp ma ((t.occs true).take i)
theorem off_inn {I MA SU CB CN : Addr} {oM oM' oS oS' oB oN oN' : Obj} {pre q rs : List (Addr × Obj)} (h : OwnOff (pre ++ (MA, oM) :: (SU, oS) :: (q ++ (CN, oN) :: (CB, oB) :: rs)) [I]) : OwnOff (pre ++ (MA, oM') :: (SU, oS') :: (q ++ (CN, oN') :: (CB, oB) :: rs)) [I] :=
  ownOff_app (fun p hp => h p (List.mem_append_left _ hp)) (off_case fun p hp => h p (List.mem_append_right _ hp))
theorem inn_loop {r MA SU CB CN : Addr} (pre q : List (Addr × Obj)) {i₀ : Nat} {t : Tr} {es : List Ev} {b : Int} {n : Nat} {t1 t2 t3 : Tok} {mvs svs : List Value} {ma su : List Bool} {km ks : Nat} {oB oN : Obj} {cn : Option Value} {rs : List (Addr × Obj)} (stored : List Str)
    (hh : A.handled = none) (hr : IsRange s.heap r 0 b 1 t1 t2 t3) (hb : b = (n : Int)) (hn : n = (t.occs true).length) (hnz : n ≤ 100) (F : Fr h₀ env.locals s.heap m₀) (N : News h₀ env.locals s.heap (pre ++ (MA, listOf mvs.toArray km) :: (SU, listOf svs.toArray ks) :: (q ++ (CN, oN) :: (CB, oB) :: rs)))
    (hcn : oN.data = Data.cell cn) (bm : BoolsAre mvs ma) (bs : BoolsAre svs su) (lm : ma.length = 3) (ls : su.length = 3) (hs : SureOk su es) (hy : MayOk ma (es.take i₀))
    (turn : ∀ i tt (u : Str → Option Value) mvs svs ma su km ks oN cn h tk I oI, i < n → oN.data = Data.cell cn → BoolsAre mvs ma → BoolsAre svs su → ma.length = 3 → su.length = 3 → SureOk su es → MayOk ma (es.take i₀) → MayUp ma ((t.occs true).take i) →
      OwnOff (pre ++ (MA, listOf (List.toArray mvs) km) :: (SU, listOf (List.toArray svs) ks) :: (q ++ (CN, oN) :: (CB, oB) :: rs)) [I] → Fr h₀ env.locals h (fun y => if stored.contains y then u y else m₀ y) → News h₀ env.locals h ((I, oI) :: (pre ++ (MA, listOf (List.toArray mvs) km) :: (SU, listOf (List.toArray svs) ks) :: (q ++ (CN, oN) :: (CB, oB) :: rs))) →
      wpAny (model prog w) A (assign target env (.int (0 + (i : Int)) tt)) (fun _ s₃ => wpAny (model prog w) A (execs body env) (TurnAt h₀ env.locals I oI (JN stored m₀ (InnInv es i₀ t pre q MA SU CB CN oB rs (i + 1))) { s with heap := h, toks := tk } Q) E s₃) E { s with heap := h, toks := tk })
    (done : ∀ (u : Str → Option Value) mvs svs ma su km ks oN cn h tk, oN.data = Data.cell cn → BoolsAre mvs ma → BoolsAre svs su → ma.length = 3 → su.length = 3 → SureOk su es → MayOk ma (es.take i₀) → MayUp ma (t.occs true) →
      Fr h₀ env.locals h (fun y => if stored.contains y then u y else m₀ y) → News h₀ env.locals h (pre ++ (MA, listOf (List.toArray mvs) km) :: (SU, listOf (List.toArray svs) ks) :: (q ++ (CN, oN) :: (CB, oB) :: rs)) → Q .next { s with heap := h, toks := tk }) :
    wpAny (model prog w) A (pyIter (.ref r)) (fun it s₂ => LoopI prog w A h₀ env target body Q E it s₂) E s := by
  refine loop_range (n := n) stored (InnInv es i₀ t pre q MA SU CB CN oB rs) hh hr (rangeSmall_of (by omega) (by omega) (by omega) (by omega)) (rangeSize_of (by omega)) F N ⟨mvs, svs, ma, su, km, ks, oN, cn, rfl, hcn, bm, bs, lm, ls, hs, hy, .nil⟩ ?_ ?_
  · rintro i tt u nx h tk I oI hi ⟨mvs, svs, ma, su, km, ks, oN, cn, rfl, hcn, bm, bs, lm, ls, hs, hy, hu⟩ ho F N
    exact turn i tt u mvs svs ma su km ks oN cn h tk I oI hi hcn bm bs lm ls hs hy hu ho F N
  · rintro u h tk nx ⟨mvs, svs, ma, su, km, ks, oN, cn, rfl, hcn, bm, bs, lm, ls, hs, hy, hu⟩ F N
    rw [hn, List.take_length] at hu
    exact done u mvs svs ma su km ks oN cn h tk hcn bm bs lm ls hs hy hu F N
theorem inn_turn {L I MA SU CB CN : Addr} {pre q rs news' : List (Addr × Obj)} {es : List Ev} {i₀ i : Nat} {t : Tr} {mvs svs mvs' svs' : List Value} {ma su : List Bool} {km ks km' ks' : Nat} {oI oB oN oN' : Obj} {cn : Option Value} {stored : List Str} {s₁ : Shared} {h' : Heap} {tk : Nat} {m' : Str → Option Value}
    (F : Fr h₀ L h' m') (N : News h₀ L h' news') (hI' : (I, oI) ∈ news') (hsub : ∀ p ∈ pre ++ (MA, listOf (List.toArray mvs) km) :: (SU, listOf (List.toArray svs) ks) :: (q ++ (CN, oN) :: (CB, oB) :: rs), p ∈ news')
    (ho : OwnOff (pre ++ (MA, listOf (List.toArray mvs') km') :: (SU, listOf (List.toArray svs') ks') :: (q ++ (CN, oN') :: (CB, oB) :: rs)) [I])
    (hcn : oN.data = Data.cell cn) (bm : BoolsAre mvs ma) (bs : BoolsAre svs su) (lm : ma.length = 3) (ls : su.length = 3) (hs : SureOk su es) (hy : MayOk ma (es.take i₀)) (hu : MayUp ma ((t.occs true).take (i + 1))) (hm : ∀ z, stored.contains z = false → m' z = m₀ z) :
    TurnAt h₀ L I oI (JN stored m₀ (InnInv es i₀ t pre q MA SU CB CN oB rs (i + 1))) s₁ Q .next { s₁ with heap := h', toks := tk } :=
  TurnAt.mk _ F N hI' hsub (off_inn ho) ⟨⟨mvs, svs, ma, su, km, ks, oN, cn, rfl, hcn, bm, bs, lm, ls, hs, hy, hu⟩, hm⟩
end
section
variable {prog : Program} {w : World} {A : Around} {s : Shared} {env : Env} {h₀ : Heap} {E : Value → Shared → Prop} {Q : Flow → Shared → Prop} {target : Expr} {body : List Stmt} {m₀ : Str → Option Value}
theorem des_loop2 {r SG P D dd CA CB : Addr} {od oP oA oB : Obj} {t u v : Tok}{base : List (Addr × Obj)} (stored : List Str)
    (hh : A.handled = none) (hr : IsRange s.heap r 0 3 1 t u v) (F : Fr h₀ env.locals s.heap m₀)
    (N : News h₀ env.locals s.heap ((P, oP) :: (SG, listOf #[] 0) :: (D, instObj 153 dd) :: (dd, od) :: (CA, oA) :: (CB, oB) :: base))
    (hP : StrDict prog w oP 0) (p1 : OwnOff base [P]) (p2 : OwnOff base [SG]) (p3 : OwnOff base [CA]) (p4 : OwnOff base [CB])
    (turn : ∀ i tt (u : Str → Option Value) oP as k rs h tk I oI, i < 3 → as.length = i → StrDict prog w oP i → (∀ p ∈ base, p ∈ rs) → OwnOff rs [P] → OwnOff rs [SG] → OwnOff rs [CA] → OwnOff rs [CB] → OwnOff ((P, oP) :: (SG, listOf (List.map Value.ref as).toArray k) :: (D, instObj 153 dd) :: (dd, od) :: (CA, oA) :: (CB, oB) :: rs) [I] →
      Fr h₀ env.locals h (fun y => if stored.contains y then u y else m₀ y) → News h₀ env.locals h ((I, oI) :: (P, oP) :: (SG, listOf (List.map Value.ref as).toArray k) :: (D, instObj 153 dd) :: (dd, od) :: (CA, oA) :: (CB, oB) :: rs) →
      wpAny (model prog w) A (assign target env (.int (0 + (i : Int)) tt)) (fun _ s₃ => wpAny (model prog w) A (execs body env) (TurnAt h₀ env.locals I oI (JN stored m₀ (DesInv prog w SG P D dd od [(CA, oA), (CB, oB)] base [P, SG, CA, CB] (i + 1))) { s with heap := h, toks := tk } Q) E s₃) E { s with heap := h, toks := tk })
    (done : ∀ (u : Str → Option Value) oP x0 x1 x2 k rs h tk, StrDict prog w oP 3 → (∀ p ∈ base, p ∈ rs) → OwnOff rs [P] → OwnOff rs [SG] → OwnOff rs [CA] → OwnOff rs [CB] →
      Fr h₀ env.locals h (fun y => if stored.contains y then u y else m₀ y) → News h₀ env.locals h ((P, oP) :: (SG, listOf (List.map Value.ref [x0, x1, x2]).toArray k) :: (D, instObj 153 dd) :: (dd, od) :: (CA, oA) :: (CB, oB) :: rs) → Q .next { s with heap := h, toks := tk }) :
    wpAny (model prog w) A (pyIter (.ref r)) (fun it s₂ => LoopI prog w A h₀ env target body Q E it s₂) E s := by
  refine des_loop (P := P) (oP := oP) (SG := SG) (D := D) (dd := dd) (od := od) [(CA, oA), (CB, oB)] (base := base) [P, SG, CA, CB] stored hh hr F N (fun p hp => ?_) hP (fun x hx => ?_) ?_ ?_
  · simp only [List.mem_cons, List.cons_append, List.nil_append] at hp ⊢
    rcases hp with h | h | h | h | h | h | h <;> simp only [h, true_or, or_true]
  · simp only [List.mem_cons, List.not_mem_nil, or_false] at hx
    rcases hx with rfl | rfl | rfl | rfl <;> assumption
  · intro i tt u oP as k rs h tk I oI hi ha hP hs hx ho F N
    exact turn i tt u oP as k rs h tk I oI hi ha hP hs (hx _ (.head _)) (hx _ (.tail _ (.head _))) (hx _ (.tail _ (.tail _ (.head _)))) (hx _ (.tail _ (.tail _ (.tail _ (.head _))))) ho F N
  · intro u oP as k rs h tk ha hP hs hx F N
    match as, ha with
    | [x0, x1, x2], _ => exact done u oP x0 x1 x2 k rs h tk hP hs (hx _ (.head _)) (hx _ (.tail _ (.head _))) (hx _ (.tail _ (.tail _ (.head _)))) (hx _ (.tail _ (.tail _ (.tail _ (.head _))))) F N
theorem des_turn2 {L I SG P D dd S d CA CB : Addr} {oS1 oS oI od oP oP' oA oB : Obj} {base rs : List (Addr × Obj)} {as : List Addr} {k k' i : Nat} {stored : List Str} {s₁ : Shared} {h' : Heap} {tk : Nat} {m' : Str → Option Value}
    (F : Fr h₀ L h' m') (N : News h₀ L h' ((S, oS1) :: (d, oS) :: (P, oP) :: (SG, listOf (List.map Value.ref as ++ [Value.ref S]).toArray k) :: (D, instObj 153 dd) :: (dd, od) :: (I, oI) :: (CA, oA) :: (CB, oB) :: rs))
    (ha : as.length = i) (hP : StrDict prog w oP (i + 1)) (hs : ∀ p ∈ base, p ∈ rs) (p1 : OwnOff rs [P]) (p2 : OwnOff rs [SG]) (p3 : OwnOff rs [CA]) (p4 : OwnOff rs [CB]) (ho : OwnOff ((P, oP') :: (SG, listOf (List.map Value.ref as).toArray k') :: (D, instObj 153 dd) :: (dd, od) :: (CA, oA) :: (CB, oB) :: rs) [I])
    (l2 : @LT.lt Nat _ d S) (l1 : AllLt d ((P, oP') :: (SG, listOf (List.map Value.ref as).toArray k') :: (D, instObj 153 dd) :: (dd, od) :: (I, oI) :: (CA, oA) :: (CB, oB) :: rs)) (hm : ∀ z, stored.contains z = false → m' z = m₀ z) :
    TurnAt h₀ L I oI (JN stored m₀ (DesInv prog w SG P D dd od [(CA, oA), (CB, oB)] base [P, SG, CA, CB] (i + 1))) s₁ Q .next { s₁ with heap := h', toks := tk } := by
  have lt := allLt_mem l1
  refine des_turn (c1 := [(CA, oA), (CB, oB)]) F N ha hP hs (fun x hx => ?_) ho l2 (lt (I, oI) (.tail _ (.tail _ (.tail _ (.tail _ (.head _)))))) (fun x hx => ?_) hm
  · simp only [List.mem_cons, List.not_mem_nil, or_false] at hx
    rcases hx with rfl | rfl | rfl | rfl <;> assumption
  · simp only [List.mem_cons, List.not_mem_nil, or_false] at hx
    rcases hx with rfl | rfl | rfl | rfl
    · exact lt (_, oP') (.head _)
    · exact lt (_, listOf (List.map Value.ref as).toArray k') (.tail _ (.head _))
    · exact lt (_, oA) (.tail _ (.tail _ (.tail _ (.tail _ (.tail _ (.head _))))))
    · exact lt (_, oB) (.tail _ (.tail _ (.tail _ (.tail _ (.tail _ (.tail _ (.head _)))))))
end
theorem ownOff_c {T W : Addr} {o : Obj} {rs : List (Addr × Obj)} (h : @Ne Nat T W) (k : OwnOff rs [W]) : OwnOff ((T, o) :: rs) [W] := ownOff_cons (fun b hb e => by rw [List.mem_singleton.mp hb] at e; exact h e) k
theorem strd_nil {prog : Program} {w : World} {o : Obj} (h : o.IsDictOf (PySem.strKind prog w) []) : StrDict prog w o 0 := ⟨[], h, Nat.le_refl _⟩
theorem sure_nil {es : List Ev} : SureOk [false, false, false] es := fun r _ e => by
  have : ∀ n : Nat, [false, false, false].getD n false = false := fun n => by
    match n with
    | 0 => rfl
    | 1 => rfl
    | 2 => rfl
    | n + 3 => rfl
  rw [this] at e; cases e
section
variable {prog : Program} {w : World} {A : Around} {E : Value → Shared → Prop} {s : Shared} {h₀ : Heap} {L : Addr} {news base : List (Addr × Obj)}
theorem item_occs {value slice : Expr} {l : Addr} {vs : List Value} {n : Nat} {k : Int} {u : Tok} {ps : List (Int × Int × Bool)} {Q : Value → Shared → Prop} (N : News h₀ L s.heap news) (hm : (l, listOf vs.toArray n) ∈ news) (hE : Each (OccIn base) vs ps) (hz : vs.length ≤ 1000)
    (h0 : 0 ≤ k) (hk : k < vs.length) (h : ∀ a r n c t u, ps[k.toNat]? = some (r, n, c) → (a, tupO #[.int r t, .int n u, .bool c]) ∈ base → Q (.ref a) s)
    (hs : subscripted slice false (.ref l) (.int k u) = operate [.ref l, .int k u] (getItem (.ref l) (.int k u)) := by with_unfolding_all rfl) :
    wpAny (model prog w) A (subscriptTail value slice (.ref l) (.int k u)) Q E s := by
  obtain ⟨v, hv⟩ : ∃ v, vs[k.toNat]? = some v := ⟨vs[k.toNat]'(by omega), List.getElem?_eq_getElem _⟩
  obtain ⟨⟨r, n', c⟩, hp, hP⟩ := hE.get hv
  obtain ⟨a, t, u', rfl, hm'⟩ := hP
  exact item_listN N hm h0 (by omega) hv (h a r n' c t u' hp hm') hs
theorem apart_off {X tl : List (Addr × Obj)} {b x : Addr} {ob o : Obj} (hA : Apart X ((b, ob) :: tl)) (hm : (x, o) ∈ X) : OwnOff tl [x] := fun p hp c hc e => by
  rw [List.mem_singleton.mp hc] at e
  exact hA _ hm p (.tail _ hp) e.symm
theorem apart_ne {X tl : List (Addr × Obj)} {b x : Addr} {ob o : Obj} (hA : Apart X ((b, ob) :: tl)) (hm : (x, o) ∈ X) : @Ne Nat x b := hA _ hm _ (.head _)
theorem news_tr {h : Heap} {a b c d e f g i j k l m n : Addr × Obj} {tl rs : List (Addr × Obj)} (N : News h₀ L h (a :: b :: (tl ++ c :: d :: e :: f :: g :: i :: j :: k :: l :: m :: n :: rs))) : News h₀ L h (a :: b :: c :: d :: e :: f :: g :: i :: j :: k :: l :: m :: n :: (tl ++ rs)) := news_sub N (sub_mid (X := [a, b]) (T := tl) (M := [c, d, e, f, g, i, j, k, l, m, n]) (R := rs))
end
def CntOk (bs : List (Int × Int)) (num : Int) (i : Nat) (ys : List Value) : Prop := ys.length ≤ i ∧ ((∀ b : Int, 0 ≤ b → b < i → (num, b) ∈ bs) → ys.length = i)
theorem CntOk.zero {bs : List (Int × Int)} {num : Int} : CntOk bs num 0 [] := ⟨Nat.le_refl _, fun _ => rfl⟩
theorem CntOk.yes {bs : List (Int × Int)} {num : Int} {i : Nat} {ys : List Value} {y : Value} (h : CntOk bs num i ys) : CntOk bs num (i + 1) (ys ++ [y]) :=
  ⟨by rw [List.length_append, List.length_singleton]; exact Nat.succ_le_succ h.1, fun q => by rw [List.length_append, List.length_singleton, h.2 fun b h0 h1 => q b h0 (by omega)]⟩
theorem CntOk.no {bs : List (Int × Int)} {num : Int} {i : Nat} {ys : List Value} (h : CntOk bs num i ys) (hn : ¬ (num, 0 + (i : Int)) ∈ bs) : CntOk bs num (i + 1) ys :=
  ⟨Nat.le_succ_of_le h.1, fun q => absurd (q (0 + (i : Int)) (by omega) (by omega)) hn⟩
theorem CntOk.full {bs : List (Int × Int)} {i : Nat} {n r : Int} {ys : List Value} {os : List (Int × Int × Bool)} (h : CntOk bs (0 + (i : Int)) n.toNat ys) (hC : Cover os ([] : List Value).length bs) (ho : os[i]? = some (r, n, true)) (hn : 1 ≤ n) : (ys.length : Int) = n := by
  rw [h.2 fun b h0 h1 => by
    have := hC i r n ho b h0 (by omega)
    simp only [List.length_nil, Nat.zero_add] at this
    rw [Int.zero_add]; exact this]
  omega
section
open LCg
variable {prog : Program} {w : World} {A : Around} {h₀ : Heap} {L : Addr} {m : Str → Option Value} {env : Env} {s₁ : Shared}
theorem cnt_src {ct elt : Expr} {x : Str} {scope : Scope} {cl : List (Str × Addr)} {Fin : Shared → List Value → List (Addr × Obj) → Prop} {r : Addr} {size : Int} {t u v : Tok} {news : List (Addr × Obj)} (bs : List (Int × Int)) (num : Int)
    (hh : A.handled = none) (F : Fr h₀ L s₁.heap m) (N : News h₀ L s₁.heap news) (hr : IsRange s₁.heap r 0 size 1 t u v) (h1 : 1 ≤ size) (h4 : size ≤ 4)
    (turn : ∀ g (i : Nat) tt ys I oI C oC D m₂ h tk (E' : Value → Shared → Prop), (i : Int) < size → CntOk bs num i ys → NsObj oC m₂ → m₂ x = some (.int (0 + (i : Int)) tt) → Fr h₀ L h m → News h₀ L h ((I, oI) :: (C, oC) :: (D, lst ys) :: news) → Off3 I C D news → ((@Ne Nat I C) ∧ (@Ne Nat I D) ∧ (@Ne Nat C D)) →
      wpAny (model prog w) A (isTrue ct (compEnvC scope cl C env) (eval ct (compEnvC scope cl C env))) (fun ok s' => if ok = true then
        wpAny (model prog w) A (eval elt (compEnvC scope cl C env)) (EltAt h₀ L m { { s₁ with heap := g } with heap := h, toks := tk } I oI C oC D (lst ys) (fun _ => True) (fun y nx => nx = news ∧ CntOk bs num (i + 1) (ys ++ [y]))) E' s'
        else EltAt h₀ L m { { s₁ with heap := g } with heap := h, toks := tk } I oI C oC D (lst ys) (fun _ => True) (fun _ nx => nx = news ∧ CntOk bs num (i + 1) ys) Value.none s') E' { { s₁ with heap := g } with heap := h, toks := tk })
    (fin : ∀ g ys, CntOk bs num size.toNat ys → Fin { s₁ with heap := g } ys news) : LCt.CompSrcT prog w A h₀ L m env ct elt x scope cl Fin (.ref r) s₁ := by
  refine LCt.CompSrcT.range (n := size.toNat) hh F N hr (rangeSmall_of (by omega) (by omega) (by omega) (by omega)) (rangeSize_of (by omega)) (by rw [sizeLine_eq]; omega) fun g => ?_
  refine compRestT_inv size.toNat (fun i ys nx => nx = news ∧ CntOk bs num i ys) (fun i v ys nx I oI C oC D m₂ h tk E' hi hP hI hC hx F9 N9 off ne => ?_) (fun ys nx hI => ?_) size.toNat 0 [] news (by omega) ⟨rfl, .zero⟩
  · obtain ⟨rfl, hl⟩ := hI
    obtain ⟨tt, rfl⟩ := hP
    exact turn g i tt ys I oI C oC D m₂ h tk E' (by omega) hl hC hx F9 N9 off ne
  · obtain ⟨rfl, hl⟩ := hI
    exact fin g ys hl
end
end Mine
end

section
open PySem PySem.W PySem.SeqAt PyProof.Rows PySem.Spec PySem.Calls
set_option maxRecDepth 100000
namespace Mine
theorem addKey_in {ks : List Int} {k x : Int} : x ∈ addKey ks k ↔ x ∈ ks ∨ x = k := by
  unfold addKey; split
  · rename_i h
    constructor
    · exact .inl
    · rintro (a | rfl)
      · exact a
      · exact h
  · simp
theorem full_in {order : List Int} {es : List Ev} {x : Int} : x ∈ fullKeys order es ↔ x ∈ allKeys es ∨ (x = 3 ∧ (named order es).length = order.length) := by
  unfold fullKeys; split
  · rename_i h; rw [addKey_in]; simp [h]
  · rename_i h; simp [h]
theorem full_len {order : List Int} {es : List Ev} (h : (es.flatMap Ev.keys).length ≤ 60) : (fullKeys order es).length < 64 := by
  have h1 := allKeys_len es
  unfold fullKeys addKey
  split
  · split
    · omega
    · simp; omega
  · omega
theorem three_out {es : List Ev} (hg : ∀ t, Ev.tree t ∈ es → ∃ sz, t.Good sz) {x : Int} (h : x ∈ allKeys es) : 0 ≤ x ∧ x < 3 := by
  obtain ⟨t, ht, hx⟩ := allKeys_mem.mp h
  obtain ⟨sz, hs⟩ := hg t ht
  exact keys_range hs hx
theorem told1 {su : List Bool} {order ns : List Int} {es : List Ev} {r : Int} (hs : SureOk su es) (hp : ns.Perm (fullKeys order es)) (h0 : 0 ≤ r) (h : su.getD r.toNat false = true) : r ∈ ns := by
  obtain ⟨t, ht, hr⟩ := hs r h0 h
  exact hp.mem_iff.mpr (full_in.mpr (.inl (allKeys_mem.mpr ⟨t, ht, hr⟩)))
theorem told2 {ma : List Bool} {order ns : List Int} {es : List Ev} {r : Int} (hm : MayOk ma es) (hp : ns.Perm (fullKeys order es)) (h3 : r < 3) (h : r ∈ ns) : ma.getD r.toNat false = true := by
  rcases full_in.mp (hp.mem_iff.mp h) with h | h
  · obtain ⟨t, ht, hr⟩ := allKeys_mem.mp h
    exact hm t ht r hr
  · omega
theorem told3 {order ns : List Int} {es : List Ev} (hg : ∀ t, Ev.tree t ∈ es → ∃ sz, t.Good sz) (hp : ns.Perm (fullKeys order es)) : decide ((3 : Int) ∈ ns) = decide ((named order es).length = order.length) := by
  rw [Bool.eq_iff_iff, decide_eq_true_eq, decide_eq_true_eq, hp.mem_iff, full_in]
  constructor
  · rintro (h | h)
    · exact absurd (three_out hg h).2 (by decide)
    · exact h.2
  · intro h; exact .inr ⟨rfl, h⟩
theorem sorted_eq : ∀ {a b : List Int}, a.Perm b → a.Pairwise (· ≤ ·) → b.Pairwise (· ≤ ·) → a = b
  | [], b, hp, _, _ => (List.Perm.nil_eq hp)
  | x :: a, [], hp, _, _ => by have := hp.length_eq; simp at this
  | x :: a, y :: b, hp, ha, hb => by
    have hx : x ∈ y :: b := hp.mem_iff.mp (.head _)
    have hy : y ∈ x :: a := hp.mem_iff.mpr (.head _)
    have hxy : x = y := by
      have h1 : y ≤ x := by
        rcases List.mem_cons.mp hx with h | h
        · omega
        · exact (List.pairwise_cons.mp hb).1 x h
      have h2 : x ≤ y := by
        rcases List.mem_cons.mp hy with h | h
        · omega
        · exact (List.pairwise_cons.mp ha).1 y h
      omega
    subst hxy
    rw [sorted_eq (List.Perm.cons_inv hp) (List.pairwise_cons.mp ha).2 (List.pairwise_cons.mp hb).2]
theorem told4 {order ns us : List Int} {es : List Ev} (hg : ∀ t, Ev.tree t ∈ es → ∃ sz, t.Good sz) (hp : ns.Perm (fullKeys order es)) (hw : ns.Pairwise (· ≤ ·)) (hp' : us.Perm (allKeys es)) (hw' : us.Pairwise (· ≤ ·)) : us = ns.filter (fun x => decide (x < 3)) := by
  refine sorted_eq ?_ hw' (hw.filter _)
  refine hp'.trans (.trans ?_ (hp.filter _).symm)
  have hall : (allKeys es).filter (fun x => decide (x < 3)) = allKeys es := List.filter_eq_self.mpr fun x hx => by simpa using (three_out hg hx).2
  unfold fullKeys
  split
  · unfold addKey
    split
    · rw [hall]
    · rw [List.filter_append, hall]; simp
  · rw [hall]
section
open LCg
variable {prog : Program} {w : World} {A : Around} {h₀ : Heap} {L : Addr} {m : Str → Option Value} {env : Env} {s₁ : Shared}
theorem filt_src {ct elt : Expr} {x : Str} {scope : Scope} {cl : List (Str × Addr)} {Fin : Shared → List Value → List (Addr × Obj) → Prop} {l : Addr} {k : Nat} {vs : List Value} {ns : List Int} {news : List (Addr × Obj)}
    (hh : A.handled = none) (F : Fr h₀ L s₁.heap m) (N : News h₀ L s₁.heap news) (hm : (l, listOf vs.toArray k) ∈ news) (hI : IntsAre vs ns) (hz : ns.length ≤ 1000)
    (turn : ∀ g (i : Nat) z tt ys I oI C oC D m₂ h tk (E' : Value → Shared → Prop), ns[i]? = some z → IntsAre ys ((ns.take i).filter (fun x => decide (x < 3))) → NsObj oC m₂ → m₂ x = some (.int z tt) → Fr h₀ L h m → News h₀ L h ((I, oI) :: (C, oC) :: (D, lst ys) :: news) → Off3 I C D news → ((@Ne Nat I C) ∧ (@Ne Nat I D) ∧ (@Ne Nat C D)) →
      wpAny (model prog w) A (isTrue ct (compEnvC scope cl C env) (eval ct (compEnvC scope cl C env))) (fun ok s' => if ok = true then
        wpAny (model prog w) A (eval elt (compEnvC scope cl C env)) (EltAt h₀ L m { { s₁ with heap := g } with heap := h, toks := tk } I oI C oC D (lst ys) (SrcAt h₀ l vs.toArray) (fun y nx => nx = news ∧ IntsAre (ys ++ [y]) ((ns.take (i + 1)).filter (fun x => decide (x < 3))))) E' s'
        else EltAt h₀ L m { { s₁ with heap := g } with heap := h, toks := tk } I oI C oC D (lst ys) (SrcAt h₀ l vs.toArray) (fun _ nx => nx = news ∧ IntsAre ys ((ns.take (i + 1)).filter (fun x => decide (x < 3)))) Value.none s') E' { { s₁ with heap := g } with heap := h, toks := tk })
    (fin : ∀ g ys, IntsAre ys (ns.filter (fun x => decide (x < 3))) → Fin { s₁ with heap := g } ys news) : LCt.CompSrcT prog w A h₀ L m env ct elt x scope cl Fin (.ref l) s₁ := by
  have hl := hI.length
  refine LCt.CompSrcT.ledger hh F N hm (by rw [List.size_toArray, sizeLine_eq]; omega) fun g => ?_
  refine compRestT_inv vs.toArray.size (fun i ys nx => nx = news ∧ IntsAre ys ((ns.take i).filter (fun x => decide (x < 3)))) (fun i v ys nx I oI C oC D m₂ h tk E' hi hP hI' hC hx F9 N9 off ne => ?_) (fun ys nx hI' => ?_) vs.toArray.size 0 [] news (by omega) ⟨rfl, .nil⟩
  · obtain ⟨rfl, hl⟩ := hI'
    obtain ⟨z, t, rfl, hz'⟩ := hI.at i v (by simpa using hP)
    exact turn g i z t ys I oI C oC D m₂ h tk E' hz' hl hC hx F9 N9 off ne
  · obtain ⟨rfl, hl'⟩ := hI'
    rw [List.size_toArray, hl, List.take_length] at hl'
    exact fin g ys hl'
theorem filt_yes {ns : List Int} {i : Nat} {z : Int} {t : Tok} {ys : List Value} (h : IntsAre ys ((ns.take i).filter (fun x => decide (x < 3)))) (hz : ns[i]? = some z) (h3 : z < 3) : IntsAre (ys ++ [.int z t]) ((ns.take (i + 1)).filter (fun x => decide (x < 3))) := by
  rw [List.take_add_one, hz, List.filter_append]
  simp only [Option.toList_some, List.filter_cons, h3, decide_true, if_true, List.filter_nil]
  exact IntsAre.append' h (.cons _ _ .nil)
theorem filt_no {ns : List Int} {i : Nat} {z : Int} {ys : List Value} (h : IntsAre ys ((ns.take i).filter (fun x => decide (x < 3)))) (hz : ns[i]? = some z) (h3 : ¬ z < 3) : IntsAre ys ((ns.take (i + 1)).filter (fun x => decide (x < 3))) := by
  rw [List.take_add_one, hz, List.filter_append]
  have e : (Option.toList (some z)).filter (fun x => decide (x < 3)) = [] := by simp; omega
  rw [e, List.append_nil]
  exact h
end
section
variable {prog : Program} {w : World} {A : Around} {E : Value → Shared → Prop} {s : Shared} {h₀ : Heap} {L : Addr} {news : List (Addr × Obj)}
theorem eq_intsN {l b : Addr} {vs us : List Value} {ns : List Int} {n n' : Nat} {Q : Value → Shared → Prop} (hu : A.units < cLine) (N : News h₀ L s.heap news) (hm : (l, listOf vs.toArray n) ∈ news) (hm' : (b, ({ cls := .type "list", data := .seq us.toArray n' } : Obj)) ∈ news) (hv : IntsAre vs ns) (hw : IntsAre us ns)
    (h : Q (.bool true) s) : wpAny (model prog w) A (compareOp .Eq (.ref l) (.ref b)) Q E s := by
  have h1 := hv.length
  have h2 := hw.length
  refine eq_listAt (e := fun _ => true) (News.isList N hm) (News.isList N hm') (by rw [List.size_toArray, List.size_toArray]; omega) hu (fun j a1 a2 => ?_) ?_
  · have e1 : vs[j]? = some (vs.toArray[j]) := by simp
    have e2 : us[j]? = some (us.toArray[j]) := by simp
    obtain ⟨z, t, ez, hz⟩ := hv.at j _ e1
    obtain ⟨z', t', ez', hz'⟩ := hw.at j _ e2
    rw [ez, ez']
    rw [hz] at hz'; cases hz'
    have := EqAt.int_int (A := A.in1) (s := s) z t z t'
    rwa [beq_self_eq_true] at this
  · rw [show ((List.range vs.toArray.size).all fun _ => true) = true from by simp]
    exact h
end
section
variable {prog : Program} {w : World} {A : Around} {s : Shared} {env : Env} {h₀ : Heap} {E : Value → Shared → Prop} {Q : Flow → Shared → Prop} {target : Expr} {body : List Stmt} {m₀ : Str → Option Value} {news : List (Addr × Obj)}
theorem still_loop {r : Addr} {t u v : Tok} (stored : List Str)
    (hh : A.handled = none) (hr : IsRange s.heap r 0 3 1 t u v) (F : Fr h₀ env.locals s.heap m₀) (N : News h₀ env.locals s.heap news)
    (turn : ∀ (i : Nat) tt (u : Str → Option Value) h tk I oI, i < 3 → OwnOff news [I] → Fr h₀ env.locals h (fun y => if stored.contains y then u y else m₀ y) → News h₀ env.locals h ((I, oI) :: news) →
      wpAny (model prog w) A (assign target env (.int (0 + (i : Int)) tt)) (fun _ s₃ => wpAny (model prog w) A (execs body env) (TurnAt h₀ env.locals I oI (JN stored m₀ (fun nx => nx = news)) { s with heap := h, toks := tk } Q) E s₃) E { s with heap := h, toks := tk })
    (done : ∀ (u : Str → Option Value) h tk, Fr h₀ env.locals h (fun y => if stored.contains y then u y else m₀ y) → News h₀ env.locals h news → Q .next { s with heap := h, toks := tk }) :
    wpAny (model prog w) A (pyIter (.ref r)) (fun it s₂ => LoopI prog w A h₀ env target body Q E it s₂) E s := by
  refine loop_range (n := 3) stored (fun _ nx => nx = news) hh hr (by decide) (by decide) F N rfl ?_ ?_
  · rintro i tt u nx h tk I oI hi rfl ho F N
    exact turn i tt u h tk I oI hi ho F N
  · rintro u h tk nx rfl F N
    exact done u h tk F N
theorem still_turn {L I : Addr} {oI : Obj} {stored : List Str} {s₁ : Shared} {h' : Heap} {tk : Nat} {m' : Str → Option Value}
    (F : Fr h₀ L h' m') (N : News h₀ L h' ((I, oI) :: news)) (ho : OwnOff news [I]) (hm : ∀ z, stored.contains z = false → m' z = m₀ z) :
    TurnAt h₀ L I oI (JN stored m₀ (fun nx => nx = news)) s₁ Q .next { s₁ with heap := h', toks := tk } :=
  TurnAt.mk news F N (.head _) (fun _ h => .tail _ h) ho ⟨rfl, hm⟩
theorem news_aw {h : Heap} {L : Addr} {a b c d e f g i j k l : Addr × Obj} {rs : List (Addr × Obj)} (N : News h₀ L h (a :: b :: c :: d :: e :: f :: g :: i :: j :: k :: l :: rs)) : News h₀ L h (i :: j :: g :: d :: e :: a :: b :: c :: f :: k :: l :: rs) := news_sub (news_sub (news_sub N (sub_mid (X := []) (T := [a, b, c, d, e, f, g]) (M := [i, j]) (R := k :: l :: rs))) (sub_mid (X := [i, j]) (T := [a, b, c, d, e, f]) (M := [g]) (R := k :: l :: rs))) (sub_mid (X := [i, j, g]) (T := [a, b, c]) (M := [d, e]) (R := f :: k :: l :: rs))
end
theorem case_sub {x y z m s q1 q2 q3 q4 q5 q6 a b : Addr × Obj} {tl rs : List (Addr × Obj)} : ∀ p ∈ m :: s :: ([q1, q2, q3, q4, q5, q6] ++ a :: b :: rs), p ∈ x :: y :: z :: m :: s :: q1 :: q2 :: q3 :: q4 :: q5 :: q6 :: a :: b :: (tl ++ rs) := fun p hp => List.mem_append_right [x, y, z] (sub_skip (X := [m, s, q1, q2, q3, q4, q5, q6, a, b]) (T := tl) (R := rs) p hp)
end Mine
end

section
open PySem PySem.W PyProof.Rows PySem.Spec
set_option Elab.async false
namespace Mine
theorem fill17 : PySem.Challenge.rw_sj0034_01 = PySem.Challenge.rw_sj0034_01 ∧ Mine.hd.heap_39 = Mine.hd.heap_39 := by
  k_fill
  exact ⟨rfl, rfl⟩
set_option maxRecDepth 100000 in
set_option maxHeartbeats 8000000 in
theorem case_spec {w : World} {mean : ExcName → Option Value} {mg mb : Str → Option Value} {dp un : Nat} {gd : Option (List Code)} {cn : Str} {cs : Scope} {L a : Addr} {ccd : Value} {cl : List (Str × Addr)} {outer : List Env}
   {A₀ : Around} {base h₀ : Heap} {m : Str → Option Value} {s : Shared} {Q E : Value → Shared → Prop}
   {news : List (Addr × Obj)} {SZ OR EV : Addr} {zvs ovs evs : List Value} {kz ko ke : Nat} {zs order : List Int} {es : List Ev} {f l : Int}
   (B : Below A₀ base outer h₀) (F : Fr h₀ L s.heap m) (X : (Mine.hd.heap_39 w.params).In h₀) (N : News h₀ L s.heap news)
   (T : Top Mine.hd.view_39 (looseW Mine.hd.view_39 []) mean mg mb h₀) (hk : cs.kind = .function)
   (hSZ : (SZ, listOf zvs.toArray kz) ∈ news) (hOR : (OR, listOf ovs.toArray ko) ∈ news) (hEV : (EV, listOf evs.toArray ke) ∈ news)
   (hz : IntsAre zvs zs) (hzl : zs.length = 3) (hoi : IntsAre ovs order) (hE : Each (EvIn news) evs es)
   (hord : OrdIs order f l) (hf : -1 ≤ f ∧ f ≤ 2) (hl : -1 ≤ l ∧ l ≤ 2) (hof : order[0]? = some f) (hol : order[order.length - 1]? = some l)
   (hgood : ∀ t, Ev.tree t ∈ es → ∃ sz, t.Good sz) (hg : ∀ e ∈ es, EvFine e) (hw : ∀ idx unk sg, Ev.word idx unk sg ∈ es → 0 ≤ idx ∧ idx < 8) (hle : (es.flatMap Ev.keys).length ≤ 60) (hel : es.length ≤ 60)
   (hdp : (dp : Int) ≤ 310) (hun : (un : Int) ≤ 500)
   (ret : ∀ h' tk', Fr h₀ L h' m → News h₀ L h' news → Q (.bool true) { s with heap := h', toks := tk' }) :
   wpAny (model PySem.Challenge.rw_sj0034_01.row.prog w) (ktrTop dp un gd cn cs L a ccd cl outer) (call (.ref (ktn_at% "_law_case")) [.ref SZ, .ref OR, .ref EV]) Q E s := by
  have hol4 : order.length ≤ 4 := by have := hord.up; have := hord.down; omega
  have hop := hord.pos
  refine wpAny_call ?_
  have hroom : dp < recursionLimit := by simp only [recursionLimit]; omega
  w_top off
  k_with_none
  k_with "k_all" => (exact ownOff_ne (by assumption))
  k_with "storeName int" => (((k_dflt (refine' storeX_C ?F ?N ?c ?U ?d ?_ ?a ?b; (case a => rfl); (case b => rfl); (case F => k_asm); (case N => k_asm); (case c => rfl); (case U => k_updF); (case d => k_asm); k_whole; intro h' o' F' N' d'; (try dsimp only at N'); (try k_sweep)))))
  k_with "k_room" => ((simp only [depth_under_make, depth_under_kw, depth_in1, depth_deeper, depth_caller, recursionLimit] at *; omega))
  k_with "subscriptTail Name Constant ref int" => ((k_here; (refine' item_tupN ?kN ?km ?k0 ?k1 ?kx ?_; (case kN => k_asm); (case km => k_mem); (case k0 => decide); (case k1 => decide); (case kx => first | exact rfl | assumption); k_whole)))
  k_with "eval ListComp" => ((k_here; lct_look; k_dflt (refine LCt.ListComp_T (F₀ := by k_asm) (by with_unfolding_all rfl) (by decide) (by rfl) (by decide) (by rfl) ?_); k_dflt lct_toSrc))
  k_with "k_ne" => (refine neN ?_; (try dsimp only); first | with_reducible assumption | (refine Ne.symm ?_; with_reducible assumption) | (refine Nat.ne_of_lt ?_; with_reducible assumption) | (refine Nat.ne_of_gt ?_; with_reducible assumption) | k_extra "k_nf")
  k_with "k_nf" => ((rename _ ∧ _ => lX); first | exact Nat.ne_of_gt lX.1 | exact Nat.ne_of_lt lX.1 | exact Nat.ne_of_gt lX.2.1 | exact Nat.ne_of_lt lX.2.1 | exact Nat.ne_of_gt lX.2.2.1 | exact Nat.ne_of_lt lX.2.2.1 | exact Nat.ne_of_gt lX.2.2.2.1 | exact Nat.ne_of_lt lX.2.2.2.1 | exact Nat.ne_of_gt lX.2.2.2.2.1 | exact Nat.ne_of_lt lX.2.2.2.2.1 | exact Nat.ne_of_gt lX.2.2.2.2.2.1 | exact Nat.ne_of_lt lX.2.2.2.2.2.1 | exact Nat.ne_of_gt lX.2.2.2.2.2.2.1 | exact Nat.ne_of_lt lX.2.2.2.2.2.2.1 | exact Nat.ne_of_gt lX.2.2.2.2.2.2.2.1 | exact Nat.ne_of_lt lX.2.2.2.2.2.2.2.1 | exact Nat.ne_of_gt lX.2.2.2.2.2.2.2.2.1 | exact Nat.ne_of_lt lX.2.2.2.2.2.2.2.2.1 | exact Nat.ne_of_gt lX.2.2.2.2.2.2.2.2.2.1 | exact Nat.ne_of_lt lX.2.2.2.2.2.2.2.2.2.1 | exact Nat.ne_of_gt lX.2.2.2.2.2.2.2.2.2.2.1 | exact Nat.ne_of_lt lX.2.2.2.2.2.2.2.2.2.2.1 | exact Nat.ne_of_gt lX.2.2.2.2.2.2.2.2.2.2.2.1 | exact Nat.ne_of_lt lX.2.2.2.2.2.2.2.2.2.2.2.1 | exact Nat.ne_of_gt lX.2 | exact Nat.ne_of_lt lX.2 | exact Nat.ne_of_gt lX.2.2 | exact Nat.ne_of_lt lX.2.2 | exact Nat.ne_of_gt lX.2.2.2 | exact Nat.ne_of_lt lX.2.2.2 | exact Nat.ne_of_gt lX.2.2.2.2 | exact Nat.ne_of_lt lX.2.2.2.2 | exact Nat.ne_of_gt lX.2.2.2.2.2 | exact Nat.ne_of_lt lX.2.2.2.2.2 | exact Nat.ne_of_gt lX.2.2.2.2.2.2 | exact Nat.ne_of_lt lX.2.2.2.2.2.2 | exact Nat.ne_of_gt lX.2.2.2.2.2.2.2 | exact Nat.ne_of_lt lX.2.2.2.2.2.2.2 | exact Nat.ne_of_gt lX.2.2.2.2.2.2.2.2 | exact Nat.ne_of_lt lX.2.2.2.2.2.2.2.2 | exact Nat.ne_of_gt lX.2.2.2.2.2.2.2.2.2 | exact Nat.ne_of_lt lX.2.2.2.2.2.2.2.2.2 | exact Nat.ne_of_gt lX.2.2.2.2.2.2.2.2.2.2 | exact Nat.ne_of_lt lX.2.2.2.2.2.2.2.2.2.2 | exact Nat.ne_of_gt lX.2.2.2.2.2.2.2.2.2.2.2 | exact Nat.ne_of_lt lX.2.2.2.2.2.2.2.2.2.2.2 | exact Ne.symm lX.1 | exact lX.1 | exact Ne.symm lX.2.1 | exact lX.2.1 | exact Ne.symm lX.2.2.1 | exact lX.2.2.1 | exact Ne.symm lX.2.2.2.1 | exact lX.2.2.2.1 | exact Ne.symm lX.2.2.2.2.1 | exact lX.2.2.2.2.1 | exact Ne.symm lX.2.2.2.2.2.1 | exact lX.2.2.2.2.2.1 | exact Ne.symm lX.2.2.2.2.2.2.1 | exact lX.2.2.2.2.2.2.1 | exact Ne.symm lX.2.2.2.2.2.2.2.1 | exact lX.2.2.2.2.2.2.2.1 | exact Ne.symm lX.2.2.2.2.2.2.2.2.1 | exact lX.2.2.2.2.2.2.2.2.1 | exact Ne.symm lX.2.2.2.2.2.2.2.2.2.1 | exact lX.2.2.2.2.2.2.2.2.2.1 | exact Ne.symm lX.2.2.2.2.2.2.2.2.2.2.1 | exact lX.2.2.2.2.2.2.2.2.2.2.1 | exact Ne.symm lX.2.2.2.2.2.2.2.2.2.2.2.1 | exact lX.2.2.2.2.2.2.2.2.2.2.2.1 | (clear lX; k_extra "k_nf"))
  k_with "exec For Name Call cons nil" => (((rename Fr _ _ _ _ => lF); k_dflt (refine For_IF lF ?_)))
  k_with "exec For Tuple Name cons nil" => (((rename Fr _ _ _ _ => lF); k_dflt (refine For_IF lF ?_)))
  k_with "subscriptTail Name Name ref int" => ((first
    | ((with_reducible show wpAny _ _ (subscriptTail (Expr.Name (Str.ofString "sizes") _) _ _ _) _ _ _); k_dflt (refine item_intsN (by k_asm) (by have hq := hs _ hSZ; k_mem) hz (by omega) (by omega) (by omega) (fun z tz hzz => ?_)))
    | ((with_reducible show wpAny _ _ (subscriptTail (Expr.Name (Str.ofString "sure") _) _ _ _) _ _ _); k_dflt (refine kbo_sub (by k_asm) (by k_mem) bsv (by omega) (by omega) (by omega) ?_))
    | ((with_reducible show wpAny _ _ (subscriptTail (Expr.Name (Str.ofString "may") _) _ _ _) _ _ _); k_dflt (refine kbo_sub (by k_asm) (by k_mem) bm (by omega) (by omega) (by omega) ?_))
    | ((with_reducible show wpAny _ _ (subscriptTail (Expr.Name (Str.ofString "seen") _) _ _ _) _ _ _); k_dflt (refine item_occs (by k_asm) (by k_mem) hO (by omega) (by omega) (by omega) (fun a9 r9 n9 c9 t9 u9 hoc hom => ?_)) <;> (rw [show (0 + (i2 : Int)).toNat = i2 by omega] at hoc) <;> (obtain ⟨hr0, hr1, hn0, hn1⟩ := occs_range hgz _ _ (List.mem_of_getElem? hoc)))))
  k_with "execs cons" => ((rename Fr _ _ _ _ => zF); k_dflt (refine st_to (s := s) zF rfl (fun tk => ?_)); (try k_made); (refine wpAny_execs_cons ?_); (try dsimp only))
  k_with "execs cons" => ((with_reducible show wpAny _ _ (execs (Stmt.Assign [Expr.Name (Str.ofString "sure") _] _ _ :: _) _) _ _ _); (rename Fr _ _ _ _ => zF); (rename News _ _ _ _ => zN); k_dflt (refine led_opq1 (Pr := MemObj w f l) zN .mk (fun om hMO N => ?_)); (clear zN); k_dflt (refine st_to (s := s) zF rfl (fun tk => ?_)); (refine wpAny_execs_cons ?_); (try dsimp only))
  k_with "getMethod ref" => (k_dflt (refine' method_opq ?k1 ?k2 ?k3 ?m1 ?m2 hDP.add ?k4 ?k5 ?k6 ?_; (case k1 => k_asm); (case k2 => k_asm); (case k3 => k_asm); (case m1 => k_mem); (case m2 => k_mem); (case k4 => k_is); (case k5 => k_is); (case k6 => k_is)))
  k_with "CompSrcT" => ((first | k_dflt (refine filt_src (by rfl) (by k_asm) (by k_asm) (by k_mem) hIT (by have := hpT.length_eq; have := full_len (order := order) hle; omega) (fun g iF zF tF ysF I3 oI3 C3 oC3 D3 m3 h3 tk3 E3 hzF hyF hC3 hx3 F3 N3 off3 ne3 => ?_) (fun g ysF hyF => ?_)) | k_dflt (refine cnt_src bs (0 + (i2 : Int)) (by rfl) (by k_asm) (by k_asm) (by k_asm) hn0 hn1 (fun g i3 t3 ys I3 oI3 C3 oC3 D3 m3 h3 tk3 E3 hi3 hct hC3 hx3 F3 N3 off3 ne3 => ?_) (fun g ys hct => ?_))))
  k_with "compareOp In ref ref" => (((rename _ ∧ _ ∧ _ ∧ _ ∧ _ ∧ _ ∧ _ ∧ _ ∧ _ ∧ _ ∧ _ ∧ _ ∧ _ ∧ _ ∧ _ ∧ _ ∧ _ ∧ AllLt _ (tl ++ rs) => lT); k_dflt (refine in_pairsN (by show un + 3 + 1 < cLine; rw [cLine_is]; omega) (by k_asm) (by k_mem) hP (fun p hp => by k_mem) (List.mem_cons_self) (fun p hp => Nat.ne_of_lt (allLt_mem lT.2.2.2.2.2.2.2.2.2.2.2.2.2.2.2.2.2 p (List.mem_append_left _ hp))) ?_)))
  k_with "call builtin:len" => ((first | k_dflt (refine len_lstN (by k_asm) rfl (Nat.le_trans hct.1 (by omega)) ?_) | (k_dflt (refine' len_listN ?kN ?km ?kz ?_; (case kN => k_asm); (case km => k_mem); (case kz => omega)))))
  k_with "setItem ref int" => ((k_dflt (refine' kbo_set ?k1 ?k2 ?k3 ?k4 ?k5 ?k6 ?k7 ?_; (case k1 => k_asm); (case k2 => k_asm); (case k3 => k_upd); (case k4 => with_reducible assumption); (case k5 => exact hr0); (case k6 => (first | (rw [lm2]; exact hr1) | (rw [ls2]; exact hr1))); (case k7 => exact Int.lt_trans hr1 (by decide)); intro h' F' N' hb' hl')))
  k_with "call type:tuple" => ((k_dflt (refine kde_tupleOf (zs := evs) (by k_asm) (by k_asm) (News.isList (by k_asm) (by have hq := hs _ hEV; k_mem)) (by rw [List.size_toArray, hE.length]; omega) rfl (fun TR h' F N lTR => ?_)) <;> (have lTR2 := allLt_of lTR) <;> (simp only [AllLt] at lTR2)))
  k_with "call builtin:sorted" => ((first
    | k_dflt (refine intd_sorted (by rfl) (by k_asm) (by k_asm) (by assumption) (by k_mem) hK2 (Nat.lt_of_le_of_lt (allKeys_len es) (by omega)) (fun U h' tk' cU vsU nsU F N lU hIU hpU hwU => ?_))
    | k_dflt (refine intd_sorted (by rfl) (by k_asm) (by k_asm) (by assumption) (by k_mem) hK (full_len hle) (fun U h' tk' cT vsT nsT F N lT hIT hpT hwT => ?_))))
  k_with "compareOp In int ref" => ((k_dflt (refine in_intsN (by k_asm) (by k_mem) hIT ?_)))
  k_with "compareOp NotIn int ref" => ((k_dflt (refine notin_intsN (by k_asm) (by k_mem) hIT ?_)))
  k_with "compareOp Eq ref ref" => ((k_dflt (refine eq_intsN (by show un + 3 < cLine; rw [cLine_is]; omega) (by k_asm) (by k_mem) (List.mem_cons_self) hIU (by rw [told4 hgood hpT hwT hpU hwU]; exact hyF) ?_)))
  k_with "subscriptTail Name UnaryOp" => ((k_dflt (refine item_ints_last (by k_asm) (by have hq := hs _ hOR; k_mem) hoi (by omega) (fun z tz hzl => ?_))) <;> (rw [hol] at hzl) <;> (cases hzl))
  k_with "subscriptTail Name Constant ref int" => ((first | ((with_reducible show wpAny _ _ (subscriptTail (Expr.Name (Str.ofString "order") _) _ _ _) _ _ _); k_dflt (refine item_intsN (by k_asm) (by have hq := hs _ hOR; k_mem) hoi (by decide) (by omega) (by omega) (fun z tz hzf => ?_)) <;> (rw [show (0 : Int).toNat = 0 from rfl, hof] at hzf) <;> (cases hzf)) | (refine' item_tupN ?kN ?km ?k0 ?k1 ?kx ?_; (case kN => k_asm); (case km => k_mem); (case k0 => decide); (case k1 => decide); (case kx => first | exact rfl | assumption); k_whole)))
  k_with "call ref" => ((first
    | (with_reducible show wpAny _ _ (call (Value.ref 153) _ _) _ _ _); k_dflt (refine design_spec (by k_asm) (by k_asm) (by k_asm) (by k_asm) (by k_asm) (by first | exact rfl | assumption) (by first | exact dpA (k := 1) hdp | (simp only [depth_deeper]; omega)) (by first | exact dpA (k := 3) hun | (simp only [units_deeper]; omega)) (fun D dd SG P od oP h' tk' F N hDP hP0 lP lSG ld ldd => ?_)) <;> (simp only [AllLt] at lP lSG ldd)
    | (with_reducible show wpAny _ _ (call (Value.ref (ktn_at% "awaited_keys")) [_, Value.ref _]) _ _ _); k_dflt (refine awaitD (by k_asm) (by k_asm) (by k_asm) (news_aw (by k_asm)) (by k_asm) (by first | exact rfl | assumption) hDP.des hMO hord hf hl List.mem_cons_self (hE.mono fun _ _ h => h.mono fun p hp => by have hq := hs p hp; k_mem) hg hw hle hel (by first | exact dpA (k := 1) hdp | (simp only [depth_deeper]; omega)) (by first | exact dpA (k := 3) hun | (simp only [units_deeper]; omega)) (fun K oK h' tk' F N lK loK hK => ?_))
    | (with_reducible show wpAny _ _ (call (Value.ref (ktn_at% "awaited_keys")) [_, Value.none]) _ _ _); k_dflt (refine awaitN (by k_asm) (by k_asm) (by k_asm) (by k_asm) (by k_asm) (by first | exact rfl | assumption) (by k_mem) (hE.mono fun _ _ h => h.mono fun p hp => by have hq := hs p hp; k_mem) hg hle (by first | exact dpA (k := 1) hdp | (simp only [depth_deeper]; omega)) (by first | exact dpA (k := 3) hun | (simp only [units_deeper]; omega)) (fun K2 oK2 h' tk' F N lK2 loK2 hK2 => ?_))
    | (with_reducible show wpAny _ _ (call (Value.ref (ktn_at% "_law_named")) _) _ _ _); k_dflt (refine named_spec (by k_asm) (by k_asm) (by k_asm) (by k_asm) (by k_asm) (by first | exact rfl | assumption) (by have hq := hs _ hEV; k_mem) (by have hq := hs _ hOR; k_mem) (hE.mono fun _ _ h => h.mono fun p hp => by have hq := hs p hp; k_mem) hoi hel (by omega) (by first | exact dpA (k := 1) hdp | (simp only [depth_deeper]; omega)) (fun h' tk' F N => ?_)) <;> (rw [← told3 hgood hpT])
    | (with_reducible show wpAny _ _ (call (Value.ref (ktn_at% "_law_trace")) _) _ _ _); (rename _ ∧ _ ∧ _ ∧ _ ∧ _ ∧ _ ∧ _ ∧ _ ∧ _ ∧ _ ∧ _ ∧ AllLt _ rs => lS); (obtain ⟨sz, hgz⟩ := hgood _ (List.mem_of_getElem? he)); (have hgv := hg _ (List.mem_of_getElem? he)); (simp only [EvFine] at hgv); (have hlv := hgv.1); (have hdv := hgv.2); k_dflt (refine trace_all w mean mg mb _ _ _ _ _ _ _ _ _ _ _ _ _ _ _ _ _ _ _ _ _ _ _ _ (by k_asm) (by k_asm) (by k_asm) (by k_asm) (by k_asm) (by first | exact rfl | assumption) (by exact off_lt (allLt_mem lS)) (by exact ht.mono fun p hp => by k_mem) hgz.fit (by show 0 + _ ≤ 60; omega) (by first | exact dpA (k := 1) hdp | (simp only [depth_deeper]; omega)) (by first | exact dpA (k := 3) hun | (simp only [units_deeper]; omega)) (fun b bvs bk svs' sk' tl bs h' tk' F N hA hB hP hO hbl hC => ?_)) <;> (have hOl := hO.length) <;> (rw [Tr.occs_len] at hOl) <;> (simp only [List.nil_append] at N) <;> (have N2 := news_tr N) <;> (clear N) <;> (refine apart12 hA (fun hb0 hb1 hb2 hb3 hb4 hb5 hb6 hb7 hb8 hb9 hb10 hb11 => ?_); (refine and12 lS (fun lS0 lS1 lS2 lS3 lS4 lS5 lS6 lS7 lS8 lS9 lS10 lS11 => ?_)); have hf2 := ownOff_app (apart_off hA (List.mem_cons_of_mem _ (List.mem_cons_of_mem _ (List.mem_cons_self)))) hoM; have hf3 := ownOff_app (apart_off hA (List.mem_cons_of_mem _ (List.mem_cons_of_mem _ (List.mem_cons_of_mem _ (List.mem_cons_self))))) hoS; have hf10 := ownOff_app (apart_off hA (List.mem_cons_of_mem _ (List.mem_cons_of_mem _ (List.mem_cons_of_mem _ (List.mem_cons_of_mem _ (List.mem_cons_of_mem _ (List.mem_cons_of_mem _ (List.mem_cons_of_mem _ (List.mem_cons_of_mem _ (List.mem_cons_of_mem _ (List.mem_cons_of_mem _ (List.mem_cons_self)))))))))))) p3; have hf11 := ownOff_app (apart_off hA (List.mem_cons_of_mem _ (List.mem_cons_of_mem _ (List.mem_cons_of_mem _ (List.mem_cons_of_mem _ (List.mem_cons_of_mem _ (List.mem_cons_of_mem _ (List.mem_cons_of_mem _ (List.mem_cons_of_mem _ (List.mem_cons_of_mem _ (List.mem_cons_of_mem _ (List.mem_cons_of_mem _ (List.mem_cons_self))))))))))))) p4)
    | (with_reducible show wpAny _ _ (call (Value.ref 115) _) _ _ _); k_dflt (refine addsig_spec (by k_asm) (by k_asm) (by k_asm) (news_rot (by k_asm)) (by k_asm) (by first | exact rfl | assumption) hDP hP (by omega) (by first | (rw [List.length_map]; omega) | decide) (by omega) (by omega) (by omega) (by omega) (by omega) (ownOff_c (by omega) (ownOff_c (by omega) (ownOff_c (by omega) p1))) (ownOff_c (by omega) (ownOff_c (by omega) (ownOff_c (by omega) p2))) (by first | exact dpA (k := 1) hdp | (simp only [depth_deeper]; omega)) (by first | exact dpA (k := 3) hun | (simp only [units_deeper]; omega)) (fun S d oS oP' h' tk' F N l2 l1 hS hP' => ?_))
    | (with_reducible show wpAny _ _ (call (Value.ref 115) _) _ _ _); k_dflt (refine addsig_spec (by k_asm) (by k_asm) (by k_asm) (by k_asm) (by k_asm) (by first | exact rfl | assumption) hDP hP (by omega) (Nat.le_of_ble_eq_true rfl) (by omega) (by omega) (by omega) (by omega) (by omega) (ownOff_c (by omega) (ownOff_c (by omega) p1)) (ownOff_c (by omega) (ownOff_c (by omega) p2)) (by first | exact dpA (k := 1) hdp | (simp only [depth_deeper]; omega)) (by first | exact dpA (k := 3) hun | (simp only [units_deeper]; omega)) (fun S d oS oP' h' tk' F N l2 l1 hS hP' => ?_)) <;> (cases hS) <;> (simp only [List.map_cons, List.map_nil, List.cons_append, List.nil_append] at N) <;> (simp only [AllLt] at l1) <;> (have hod := off_lt (allLt_mem l1.2.2.2.2.2.2))))
  k_with "pyIter ref" => ((first
    | ((have hq := hpT); k_dflt (refine still_loop [Str.ofString "ref"] (by rfl) (by k_asm) (by k_asm) (by k_asm) (fun i tt u h tk I oI hi ho F N => gen_T (fun QT hQT => ?_)) (fun u h tk F N => ?_)))
    | ((k_dflt (refine inn_loop [(_, _), (_, _), (_, _)] [(_, _), (_, _), (_, _), (_, _), (_, _), (_, _)] (i₀ := i) (es := es) [Str.ofString "ref", Str.ofString "size", Str.ofString "clear"] (by rfl) (by k_asm) rfl hO.length (by omega) (by k_asm) (by k_asm) (by assumption) bm bsv lm ls hsu hmy (fun i2 tt2 u2 mvs2 svs2 ma2 su2 km2 ks2 oN2 cn2 h2 tk2 I2 oI2 hi2 hcn2 bm2 bs2 lm2 ls2 hsu2 hmy2 hmu2 ho2 F2 N2 => gen_T (fun QT hQT => ?_)) (fun u2 mvs2 svs2 ma2 su2 km2 ks2 oN2 cn2 h2 tk2 hcn2 bm2 bs2 lm2 ls2 hsu2 hmy2 hmu2 F2 N2 => ?_)) <;> (simp only [List.cons_append, List.nil_append] at N2) <;> (try (simp only [List.cons_append, List.nil_append] at ho2; refine off13 ho2 (fun hq0 hq1 hq2 hq3 hq4 hq5 hq6 hq7 hq8 hq9 hq10 hq11 hq12 => ?_)))))
    | (((rename _ ∧ _ ∧ _ ∧ _ ∧ _ ∧ _ ∧ _ ∧ _ ∧ _ ∧ AllLt _ rs => lMA); (rename _ ∧ _ ∧ _ ∧ _ ∧ _ ∧ _ ∧ _ ∧ _ ∧ AllLt _ rs => lSU); (have hoM := off_lt (allLt_mem lMA.2.2.2.2.2.2.2.2.2)); (have hoS := off_lt (allLt_mem lSU.2.2.2.2.2.2.2.2)); k_dflt (refine case_loop [(_, _), (_, _), (_, _), (_, _), (_, _), (_, _)] [Str.ofString "edge", Str.ofString "e", Str.ofString "seen", Str.ofString "ref", Str.ofString "size", Str.ofString "clear"] (by rfl) (by k_asm) (by k_asm) (by exact hs _ hEV) (hE.mono fun _ _ h => h.mono hs) (by assumption) (by assumption) (.cons false (.cons false (.cons false .nil))) (.cons false (.cons false (.cons false .nil))) rfl rfl sure_nil (fun i e v u mvs svs ma su km ks oB oN cb cn h tk I oI he hP hcb hcn bm bsv lm ls hsu hmy ho F N => gen_T (fun QT hQT => ?_)) (fun u mvs svs ma su km ks oB oN cb cn h tk hcb hcn bm bsv lm ls hsu hmy F N => ?_)) <;> (refine and10 lMA (fun lMA0 lMA1 lMA2 lMA3 lMA4 lMA5 lMA6 lMA7 lMA8 lMA9 => ?_)) <;> (refine and9 lSU (fun lSU0 lSU1 lSU2 lSU3 lSU4 lSU5 lSU6 lSU7 lSU8 => ?_)) <;> (simp only [List.cons_append, List.nil_append] at N) <;> (try (simp only [List.cons_append, List.nil_append] at ho; refine off10 ho (fun hp0 hp1 hp2 hp3 hp4 hp5 hp6 hp7 hp8 hp9 => ?_); rcases hP with ⟨hh, ht⟩ | ⟨hh, he2, hc2⟩)) <;> (try (obtain ⟨ta, its, tag, ttk, rfl, htm, hti, htg, htn⟩ := tr_tag ht))))
    | ((k_dflt (refine des_loop2 [Str.ofString "ref"] (by rfl) (by k_asm) (by k_asm) (by k_asm) hP0 (off_lt (allLt_mem lP.2.2.2.2.2)) (off_lt (allLt_mem lSG.2.2.2.2)) hoA hoB (fun i tt u oP avs k rs h tk I oI hi ha hP hs p1 p2 p3 p4 ho F N => gen_T (fun QT hQT => ?_)) (fun u oP x0 x1 x2 k rs h tk hP hs p1 p2 p3 p4 F N => ?_)) <;> (try (refine off6 ho (fun hp0 hp1 hp2 hp3 hp4 hp5 => ?_)))))))
  k_dflt k_enter
  refine gen_L (fun QL EL hQL hEL => ?_)
  (rename ∀ p ∈ news, _ => hl0)
  have hoA := off_lt (fun p hp => Nat.lt_add_one_of_lt (Nat.lt_add_one_of_lt (hl0 p hp)))
  have hoB := off_lt (fun p hp => Nat.lt_add_one_of_lt (hl0 p hp))
  k_steps
  all_goals first | (with_reducible refine hQT _ _ ?_) | ((with_reducible refine hQL _ _ ?_); (try dsimp only); k_steps) | skip
  · exact des_turn2 (by assumption) N ha hP' hs p1 p2 p3 p4 ho l2 l1 (fun z hz => by (try dsimp only); simp at hz; simp [hz])
  all_goals first
    | ((with_reducible show EltAt _ _ _ _ _ _ _ _ _ _ _ _ _ _); first
      | exact EltAt.mk _ (by assumption) (by assumption) (fun p hp => .tail _ hp) off3 trivial ⟨rfl, hct.yes⟩
      | exact EltAt.mk _ (by assumption) (by assumption) (fun p hp => .tail _ hp) off3 trivial ⟨rfl, hct.no (by assumption)⟩
      | exact EltAt.mk _ (by assumption) (by assumption) (fun p hp => hp) off3 (.inr ⟨listOf vsT.toArray cT, by k_mem, rfl, _, rfl⟩) ⟨rfl, filt_yes hyF hzF (by assumption)⟩
      | exact EltAt.mk _ (by assumption) (by assumption) (fun p hp => hp) off3 (.inr ⟨listOf vsT.toArray cT, by k_mem, rfl, _, rfl⟩) ⟨rfl, filt_no hyF hzF (by assumption)⟩
      | fail "stop")
    | ((with_reducible show TurnAt _ _ _ _ (JN _ _ (InnInv _ _ _ _ _ _ _ _ _ _ _ _)) _ _ _ _); (rename Fr _ _ _ _ => kF); (rename News _ _ _ _ => kN); (have hr0' : 0 ≤ r9 := hr0); (have hr1' : r9 < 3 := hr1); (have hrl : r9.toNat < ma2.length := by omega); first
      | ((have hcT : c9 = true := by assumption); (have hoc2 := hoc); (rw [hcT] at hoc2); first
        | ((have hne : ¬ ((ys.length : Int) = n9) := by assumption); exact absurd (hct.full hC hoc2 hn0) hne)
        | exact inn_turn (pre := [(_, _), (_, _), (_, _)]) (q := [(_, _), (_, _), (_, _), (_, _), (_, _), (_, _)]) kF kN (List.Mem.tail _ (List.Mem.head _)) (fun p hp => List.Mem.tail _ (List.Mem.tail _ hp)) ho2 (by assumption) (by assumption) (by assumption) (by first | assumption | (simp only [List.length_set]; assumption)) (by first | assumption | (simp only [List.length_set]; assumption)) (SureOk.set hsu2 hr0' (List.mem_of_getElem? he) (List.mem_of_getElem? hoc2)) (MayOk.set (i := r9.toNat) hmy2) (MayUp.add (MayUp.set (i := r9.toNat) hmu2) hoc (fun hcc => getD_set.mpr (Or.inl (And.intro rfl hrl)))) (fun z hz => by (try dsimp only); simp at hz; simp [hz]))
      | ((have hcF : c9 = false := by assumption); first
        | exact inn_turn (pre := [(_, _), (_, _), (_, _)]) (q := [(_, _), (_, _), (_, _), (_, _), (_, _), (_, _)]) kF kN (List.Mem.tail _ (List.Mem.head _)) (fun p hp => List.Mem.tail _ (List.Mem.tail _ hp)) ho2 (by assumption) (by assumption) (by assumption) (by first | assumption | (simp only [List.length_set]; assumption)) (by first | assumption | (simp only [List.length_set]; assumption)) hsu2 (MayOk.set (i := r9.toNat) hmy2) (MayUp.add (MayUp.set (i := r9.toNat) hmu2) hoc (fun hcc => getD_set.mpr (Or.inl (And.intro rfl hrl)))) (fun z hz => by (try dsimp only); simp at hz; simp [hz])
        | exact inn_turn (pre := [(_, _), (_, _), (_, _)]) (q := [(_, _), (_, _), (_, _), (_, _), (_, _), (_, _)]) kF kN (List.Mem.tail _ (List.Mem.head _)) (fun p hp => List.Mem.tail _ (List.Mem.tail _ hp)) ho2 (by assumption) (by assumption) (by assumption) (by first | assumption | (simp only [List.length_set]; assumption)) (by first | assumption | (simp only [List.length_set]; assumption)) hsu2 hmy2 (MayUp.add hmu2 hoc (fun hcc => absurd hcc (by rw [hcF]; decide))) (fun z hz => by (try dsimp only); simp at hz; simp [hz]))
      | fail "stop")
    | ((with_reducible show TurnAt _ _ _ _ (JN _ _ (CaseInv _ _ _ _ _ _ _ _)) _ _ _ _); (rename Fr _ _ _ _ => kF); (rename News _ _ _ _ => kN); first
      | ((have hw0 : (tag != Str.ofString "word") = false := by assumption); (rw [bne, htg] at hw0); exact absurd hw0 (by decide))
      | ((have hq2 := bm2); exact case_turn (pre := []) (q := [(_, _), (_, _), (_, _), (_, _), (_, _), (_, _)]) kF kN (List.Mem.tail _ (List.Mem.tail _ (List.Mem.head _))) case_sub ho (by assumption) (by assumption) bm2 bs2 lm2 ls2 hsu2 (MayOk.tree he hmy2 hmu2) (fun z hz => by (try dsimp only); simp at hz; simp [hz]))
      | exact case_turn (pre := []) (q := [(_, _), (_, _), (_, _), (_, _), (_, _), (_, _)]) kF kN (List.Mem.head _) (fun p hp => List.Mem.tail _ hp) ho hcb hcn bm bsv lm ls hsu (MayOk.word he hmy) (fun z hz => by (try dsimp only); simp at hz; simp [hz])
      | fail "stop")
    | ((with_reducible show TurnAt _ _ _ _ _ _ _ (Flow.next) _); (rename Fr _ _ _ _ => kF); (rename News _ _ _ _ => kN); first
      | exact still_turn kF kN ho (fun z hz => by (try dsimp only); simp at hz; simp [hz])
      | fail "stop")
    | ((with_reducible show TurnAt _ _ _ _ _ _ _ (Flow.ret _) _); first
      | ((have hsF : su.getD (0 + (i : Int)).toNat false = true := by assumption); (have hsG : ¬ (0 + (i : Int)) ∈ nsT := by assumption); exact absurd (told1 hsu hpT (by omega) hsF) hsG)
      | ((have hsG : (0 + (i : Int)) ∈ nsT := by assumption); (have hsF : ma.getD (0 + (i : Int)).toNat false = false := by assumption); exact absurd ((told2 hmy hpT (by omega) hsG).symm.trans hsF) (by decide))
      | fail "stop")
    | ((have hx : (decide ((3 : Int) ∈ nsT) != decide ((3 : Int) ∈ nsT)) = true := by assumption); exact absurd hx (by rw [bne_self_eq_false]; decide))
    | ((rename News h₀ _ _ _ => kN); exact ret _ _ (by assumption) (news_sub kN fun p hp => by have hq := hs p hp; k_mem))
    | fail "stop"
end Mine
end

section
open PySem PySem.W PyProof.Rows PySem.Spec PySem.Calls
set_option maxRecDepth 100000
namespace Mine
section
open LCg
variable {prog : Program} {w : World} {A : Around} {h₀ : Heap} {L : Addr} {m : Str → Option Value} {env : Env} {s : Shared}
theorem len3 {l : List Int} (h : l.length = 3) : ∃ a b c, l = [a, b, c] := by
  rcases l with _ | ⟨a, _ | ⟨b, _ | ⟨c, _ | ⟨d, r⟩⟩⟩⟩ <;> simp at h
  exact ⟨a, b, c, rfl⟩
theorem ints1 {ys : List Value} {a : Int} {r : List Int} (h : IntsAre ys (a :: r)) : ∃ y vs, ys = .int a y :: vs ∧ IntsAre vs r := by
  cases h with
  | cons _ y k => exact ⟨y, _, rfl, k⟩
theorem ints3 {ys : List Value} {a b c : Int} (h : IntsAre ys [a, b, c]) : ∃ x y z, ys = [.int a x, .int b y, .int c z] := by
  obtain ⟨x, v1, rfl, h1⟩ := ints1 h
  obtain ⟨y, v2, rfl, h2⟩ := ints1 h1
  obtain ⟨z, v3, rfl, h3⟩ := ints1 h2
  cases h3
  exact ⟨x, y, z, rfl⟩
def SizesInv (P C : Addr) (rest : List (Addr × Obj)) (i : Nat) (ys : List Value) (nx : List (Addr × Obj)) : Prop :=
  ∃ zs j it, nx = (P, listOf #[.ref C, .int j it] 0) :: rest ∧ IntsAre ys zs ∧ zs.length = i ∧ (∀ z ∈ zs, 1 ≤ z ∧ z ≤ 4) ∧ -1 ≤ j ∧ j ≤ -1 + (i : Int)
theorem sizes_src {elt : Expr} {x : Str} {scope : Scope} {cl : List (Str × Addr)} {Fin : Shared → List Value → List (Addr × Obj) → Prop} {r P C : Addr} {t u v t0 : Tok} {rest : List (Addr × Obj)}
    (hh : A.handled = none) (F : Fr h₀ L s.heap m) (N : News h₀ L s.heap ((P, listOf #[.ref C, .int (-1) t0] 0) :: rest)) (hr : IsRange s.heap r 0 3 1 t u v)
    (turn : ∀ g i tt ys zs j it I oI Cc oC D m₂ h tk (E' : Value → Shared → Prop), i < 3 → IntsAre ys zs → zs.length = i → (∀ z ∈ zs, 1 ≤ z ∧ z ≤ 4) → -1 ≤ j → j ≤ -1 + (i : Int) → NsObj oC m₂ → m₂ x = some (.int (0 + (i : Int)) tt) → Fr h₀ L h m →
      News h₀ L h ((I, oI) :: (Cc, oC) :: (D, lst ys) :: (P, listOf #[.ref C, .int j it] 0) :: rest) → Off3 I Cc D ((P, listOf #[.ref C, .int j it] 0) :: rest) → ((@Ne Nat I Cc) ∧ (@Ne Nat I D) ∧ (@Ne Nat Cc D)) →
      wpAny (model prog w) A (eval elt (compEnvC scope cl Cc env)) (EltAt h₀ L m { { s with heap := g } with heap := h, toks := tk } I oI Cc oC D (lst ys) (fun _ => True) (fun y nx => SizesInv P C rest (i + 1) (ys ++ [y]) nx)) E' { s with heap := h, toks := tk })
    (fin : ∀ g j it z0 y0 z1 y1 z2 y2, (1 ≤ z0 ∧ z0 ≤ 4) → (1 ≤ z1 ∧ z1 ≤ 4) → (1 ≤ z2 ∧ z2 ≤ 4) → -1 ≤ j → j ≤ 2 → Fin { s with heap := g } [.int z0 y0, .int z1 y1, .int z2 y2] ((P, listOf #[.ref C, .int j it] 0) :: rest)) : CompSrc prog w A h₀ L m env elt x scope cl Fin (.ref r) s := by
  refine comp_range 3 (SizesInv P C rest) hh F N hr (by decide) (by decide) (by rw [sizeLine_eq]; omega) ⟨[], -1, t0, rfl, .nil, rfl, (fun _ h => nomatch h), by decide, by decide⟩ ?_ ?_
  · rintro g i tt ys nx I oI Cc oC D m₂ h tk E' hi ⟨zs, j, it, rfl, hI, hl, hz, hj, hj'⟩ hC hx F N off ne
    exact turn g i tt ys zs j it I oI Cc oC D m₂ h tk E' hi hI hl hz hj hj' hC hx F N off ne
  · rintro g ys nx ⟨zs, j, it, rfl, hI, hl, hz, hj, hj'⟩
    obtain ⟨z0, z1, z2, rfl⟩ := len3 hl
    obtain ⟨y0, y1, y2, rfl⟩ := ints3 hI
    exact fin g j it z0 y0 z1 y1 z2 y2 (hz _ (.head _)) (hz _ (.tail _ (.head _))) (hz _ (.tail _ (.tail _ (.head _)))) hj (by omega)
theorem off3_hd {I C D P : Addr} {o o' : Obj} {rest : List (Addr × Obj)} (h : Off3 I C D ((P, o) :: rest)) : Off3 I C D ((P, o') :: rest) := ⟨h.1, h.2⟩
theorem sizes_elt {P C I Cc D : Addr} {oI oC : Obj} {rest : List (Addr × Obj)} {ys : List Value} {zs : List Int} {i : Nat} {j j' r : Int} {it it' t : Tok} {s₁ : Shared} {h' : Heap} {tk' : Nat}
    (F : Fr h₀ L h' m) (N : News h₀ L h' ((I, oI) :: (Cc, oC) :: (D, lst ys) :: (P, listOf #[.ref C, .int j' it'] 0) :: rest)) (off : Off3 I Cc D ((P, listOf #[.ref C, .int j it] 0) :: rest))
    (hI : IntsAre ys zs) (hl : zs.length = i) (hz : ∀ z ∈ zs, 1 ≤ z ∧ z ≤ 4) (hj : -1 ≤ j) (hj' : j ≤ -1 + (i : Int)) (e : j' = j + 1) (h0 : 1 ≤ r) (h4 : r ≤ 4) :
    EltAt h₀ L m s₁ I oI Cc oC D (lst ys) (fun _ => True) (fun y nx => SizesInv P C rest (i + 1) (ys ++ [y]) nx) (.int r t) { s₁ with heap := h', toks := tk' } := by
  subst e
  refine EltAt.mk _ F N (fun p hp => hp) (off3_hd off) trivial ⟨zs ++ [r], j + 1, it', rfl, IntsAre.append' hI (.cons r t .nil), by rw [List.length_append, hl]; rfl, fun z h => ?_, by omega, by omega⟩
  rcases List.mem_append.mp h with h | h
  · exact hz z h
  · rw [List.mem_singleton.mp h]; exact ⟨h0, h4⟩
end
/-- the road from f to l as far as c -/
theorem OrdIs.one (f : Int) : OrdIs [f] f f := ⟨fun x => by rw [List.mem_singleton]; omega, fun _ => by show ((1 : Nat) : Int) = f - f + 1; omega, fun _ => by show ((1 : Nat) : Int) = f - f + 1; omega⟩
def Btw (f c l : Int) : Prop := (f ≤ c ∧ c ≤ l) ∨ (l ≤ c ∧ c ≤ f)
theorem OrdIs.up1 {ns : List Int} {f c l : Int} (h : OrdIs ns f c) (hb : Btw f c l) (hc : c < l) : OrdIs (ns ++ [c + 1]) f (c + 1) ∧ Btw f (c + 1) l := by
  have hfc : f ≤ c := by unfold Btw at hb; omega
  refine ⟨⟨fun x => ?_, fun _ => ?_, fun _ => ?_⟩, ?_⟩
  · rw [List.mem_append, List.mem_singleton, h.mem]; omega
  · have := h.up hfc; rw [List.length_append, List.length_singleton]; omega
  · have := h.up hfc; rw [List.length_append, List.length_singleton]; omega
  · unfold Btw; omega
theorem OrdIs.down1 {ns : List Int} {f c l : Int} (h : OrdIs ns f c) (hb : Btw f c l) (hc : l < c) : OrdIs (ns ++ [c + -1]) f (c + -1) ∧ Btw f (c + -1) l := by
  have hfc : c ≤ f := by unfold Btw at hb; omega
  refine ⟨⟨fun x => ?_, fun _ => ?_, fun _ => ?_⟩, ?_⟩
  · rw [List.mem_append, List.mem_singleton, h.mem]; omega
  · have := h.down hfc; rw [List.length_append, List.length_singleton]; omega
  · have := h.down hfc; rw [List.length_append, List.length_singleton]; omega
  · unfold Btw; omega
section
variable {prog : Program} {w : World} {A : Around} {s : Shared} {env : Env} {h₀ : Heap} {E : Value → Shared → Prop} {Q : Flow → Shared → Prop} {target : Expr} {body : List Stmt} {m₀ : Str → Option Value}
def OrdInv (m₀ : Str → Option Value) (pre : List (Addr × Obj)) (O : Addr) (post : List (Addr × Obj)) (f l : Int) (n : Nat) (m₁ : Str → Option Value) (nx : List (Addr × Obj)) : Prop :=
  ∃ vs k ns c, m₁ = m₀ ∧ nx = pre ++ (O, listOf (List.toArray vs) k) :: post ∧ IntsAre vs ns ∧ OrdIs ns f c ∧ Btw f c l ∧ ns[0]? = some f ∧ ns[ns.length - 1]? = some c ∧ n = (l - c).natAbs
theorem order_while {test : Expr} {pos : Pos} {L O : Addr} (pre : List (Addr × Obj)) {post : List (Addr × Obj)} {f l : Int} {vs : List Value} {k : Nat}
    (F : Fr h₀ L s.heap m₀) (N : News h₀ L s.heap (pre ++ (O, listOf vs.toArray k) :: post)) (hI : IntsAre vs [f])
    (turn : ∀ n vs k ns c h₁ tk₁, IntsAre vs ns → OrdIs ns f c → Btw f c l → ns[0]? = some f → ns[ns.length - 1]? = some c → n = (l - c).natAbs → Fr h₀ L h₁ m₀ → News h₀ L h₁ (pre ++ (O, listOf (List.toArray vs) k) :: post) →
      wpAny (model prog w) A (isTrue test env (eval test env)) (fun b s₂ =>
        if b = true then wpAny (model prog w) A (execs body env) (WhileStep2 h₀ L s (OrdInv m₀ pre O post f l) Q n) E s₂ else Q .next s₂) E { s with heap := h₁, toks := tk₁ })
    (hE : PassesOwn (model prog w) A env E := by passes_own) :
    wpAny (model prog w) A (exec (.While test body [] pos) env) Q E s := by
  refine While_inv2 (OrdInv m₀ pre O post f l) F N ⟨vs, k, [f], f, rfl, rfl, hI, .one f, by unfold Btw; omega, rfl, rfl, rfl⟩ ?_ hE
  rintro n m₁ news₁ h₁ tk₁ F₁ N₁ ⟨vs, k, ns, c, rfl, rfl, hI, hO, hb, h0, hc, hn⟩
  exact turn n vs k ns c h₁ tk₁ hI hO hb h0 hc hn F₁ N₁
theorem order_next {L O : Addr} {pre post : List (Addr × Obj)} {f l c d : Int} {n tk k : Nat} {h' : Heap} {vs : List Value} {ns : List Int} {t : Tok}
    (F : Fr h₀ L h' m₀) (N : News h₀ L h' (pre ++ (O, listOf (vs ++ [Value.int d t]).toArray k) :: post)) (hI : IntsAre vs ns) (hn : n = (l - c).natAbs) (h0 : ns[0]? = some f)
    (h : (OrdIs (ns ++ [d]) f d ∧ Btw f d l) ∧ (l - d).natAbs < (l - c).natAbs) :
    WhileStep2 h₀ L s (OrdInv m₀ pre O post f l) Q n .next { s with heap := h', toks := tk } := by
  refine ⟨h', tk, m₀, _, (l - d).natAbs, rfl, F, N, by omega, ⟨vs ++ [.int d t], k, ns ++ [d], d, rfl, rfl, IntsAre.append' hI (.cons d t .nil), h.1.1, h.1.2, ?_, ?_, rfl⟩⟩
  · rw [List.getElem?_append_left]
    · exact h0
    · rcases ns with _ | ⟨x, r⟩
      · simp at h0
      · simp
  · rw [List.length_append, List.length_singleton, Nat.add_sub_cancel, List.getElem?_append_right (Nat.le_refl _), Nat.sub_self]; rfl
end
end Mine
end

section
open PySem PySem.W PyProof.Rows PySem.Spec PySem.Calls
set_option Elab.async false
set_option maxRecDepth 100000
namespace Mine
theorem fill32 : PySem.Challenge.rw_sj0034_01 = PySem.Challenge.rw_sj0034_01 ∧ Mine.hd.heap_39 = Mine.hd.heap_39 := by
  k_fill
  exact ⟨rfl, rfl⟩
def OffAll (xs : List Addr) (tl : List (Addr × Obj)) : Prop := ∀ p ∈ tl, ∀ x ∈ xs, @Ne Nat p.1 x
theorem OffAll.own {xs : List Addr} {tl : List (Addr × Obj)} {x : Addr} (h : OffAll xs tl) (hx : x ∈ xs) : OwnOff tl [x] := fun p hp b hb => by rw [List.mem_singleton.mp hb]; exact h p hp x hx
theorem OffAll.app {xs : List Addr} {a b : List (Addr × Obj)} (h : OffAll xs a) (k : OffAll xs b) : OffAll xs (a ++ b) := fun p hp => by
  rcases List.mem_append.mp hp with hp | hp
  · exact h p hp
  · exact k p hp
theorem OffAll.sub {xs ys : List Addr} {a : List (Addr × Obj)} (h : OffAll xs a) (hs : ∀ x ∈ ys, x ∈ xs) : OffAll ys a := fun p hp x hx => h p hp x (hs x hx)
theorem OffAll.apart {xs : List Addr} {X tl : List (Addr × Obj)} (h : Apart X tl) (hs : ∀ x ∈ xs, ∃ o, (x, o) ∈ X) : OffAll xs tl := fun p hp x hx => by
  obtain ⟨o, ho⟩ := hs x hx
  exact Ne.symm (h _ ho p hp)
theorem OffAll.nil {xs : List Addr} : OffAll xs [] := fun _ h => nomatch h
theorem OffAll.six {I EV P a b c T : Addr} {o : Obj} {tl : List (Addr × Obj)} (h : OffAll [I, EV, P, a, b, c] tl) (h1 : @LT.lt Nat _ I T) (h2 : @LT.lt Nat _ EV T) (h3 : @LT.lt Nat _ P T) (h4 : @LT.lt Nat _ a T) (h5 : @LT.lt Nat _ b T) (h6 : @LT.lt Nat _ c T) : OffAll [I, EV, P, a, b, c] ((T, o) :: tl) := fun p hp x hx => by
  rcases List.mem_cons.mp hp with rfl | hp
  · simp only [List.mem_cons, List.not_mem_nil, or_false] at hx
    rcases hx with rfl | rfl | rfl | rfl | rfl | rfl
    · exact Nat.ne_of_gt h1
    · exact Nat.ne_of_gt h2
    · exact Nat.ne_of_gt h3
    · exact Nat.ne_of_gt h4
    · exact Nat.ne_of_gt h5
    · exact Nat.ne_of_gt h6
  · exact h p hp x hx
theorem OffAll.hd {I : Addr} {xs : List Addr} {a b c d e f g i : Addr × Obj} {tl : List (Addr × Obj)} (h : OffAll xs tl) (ho : OwnOff (a :: b :: c :: d :: e :: f :: g :: i :: tl) [I]) : OffAll (I :: xs) tl := fun p hp x hx => by
  rcases List.mem_cons.mp hx with rfl | hx
  · exact ho p (.tail _ (.tail _ (.tail _ (.tail _ (.tail _ (.tail _ (.tail _ (.tail _ hp)))))))) x (.head _)
  · exact h p hp x hx
theorem fmod8 (z : Int) : 0 ≤ z.fmod 8 ∧ z.fmod 8 < 8 := ⟨Int.fmod_nonneg_of_pos z (by decide), Int.fmod_lt_of_pos z (by decide)⟩
def EvsOk (sz : Int → Int) (es : List Ev) : Prop := (∀ t, Ev.tree t ∈ es → t.Good sz ∧ t.deep ≤ 3) ∧ ∀ idx unk sg, Ev.word idx unk sg ∈ es → 0 ≤ idx ∧ idx < 8
theorem EvsOk.nil {sz : Int → Int} : EvsOk sz [] := ⟨(fun _ h => nomatch h), fun _ _ _ h => nomatch h⟩
theorem EvsOk.app {sz : Int → Int} {a b : List Ev} (h : EvsOk sz a) (k : EvsOk sz b) : EvsOk sz (a ++ b) := by
  constructor
  · intro t ht
    rcases List.mem_append.mp ht with ht | ht
    · exact h.1 t ht
    · exact k.1 t ht
  · intro idx unk sg ht
    rcases List.mem_append.mp ht with ht | ht
    · exact h.2 idx unk sg ht
    · exact k.2 idx unk sg ht
theorem EvsOk.tree {sz : Int → Int} {t : Tr} (h : t.Good sz) (hd : t.deep ≤ 3) : EvsOk sz [.tree t] := by
  constructor
  · intro t' ht
    rw [List.mem_singleton] at ht; cases ht; exact ⟨h, hd⟩
  · intro idx unk sg ht
    rw [List.mem_singleton] at ht; cases ht
theorem EvsOk.word {sz : Int → Int} {idx unk : Int} {sg : Bool} (h0 : 0 ≤ idx) (h8 : idx < 8) : EvsOk sz [.word idx unk sg] := by
  constructor
  · intro t' ht
    rw [List.mem_singleton] at ht; cases ht
  · intro idx' unk' sg' ht
    rw [List.mem_singleton] at ht; cases ht; exact ⟨h0, h8⟩
theorem each_app {α β : Type} {R : α → β → Prop} : ∀ {a : List α} {b : List β} {c : List α} {d : List β}, Each R a b → Each R c d → Each R (a ++ c) (b ++ d)
  | [], [], _, _, _, k => k
  | _ :: _, _ :: _, _, _, h, k => ⟨h.1, each_app h.2 k⟩
theorem ord_len {ns : List Int} {f c l : Int} (h : OrdIs ns f c) (hf : -1 ≤ f ∧ f ≤ 2) (hl : -1 ≤ l ∧ l ≤ 2) (hb : Btw f c l) : ns.length ≤ 4 := by
  have h1 := h.up
  have h2 := h.down
  unfold Btw at hb
  omega
section
variable {prog : Program} {w : World} {A : Around} {s : Shared} {env : Env} {h₀ : Heap} {E : Value → Shared → Prop} {Q : Flow → Shared → Prop} {target : Expr} {body : List Stmt} {m₀ : Str → Option Value}
def LawInv (sz : Int → Int) (EV P C : Addr) (o s c q1 q2 q3 : Addr × Obj) (i : Nat) (nx : List (Addr × Obj)) : Prop :=
  ∃ j it evs k es tl, nx = (EV, listOf (List.toArray evs) k) :: o :: s :: (P, listOf #[.ref C, .int j it] 0) :: c :: q1 :: q2 :: q3 :: tl ∧ -1 ≤ j ∧ j ≤ 10 + 20 * (i : Int) ∧ es.length = i ∧ Each (EvIn tl) evs es ∧ EvsOk sz es ∧ OffAll [EV, P, q1.1, q2.1, q3.1] tl
theorem law_loop {r EV P C : Addr} {o s' c q1 q2 q3 : Addr × Obj} {j : Int} {it t u v : Tok} {n : Nat} {b : Int} (sz : Int → Int) (stored : List Str)
    (hh : A.handled = none) (hr : IsRange s.heap r 0 b 1 t u v) (hb : b = (n : Int)) (hn : n ≤ 100) (F : Fr h₀ env.locals s.heap m₀)
    (N : News h₀ env.locals s.heap [(EV, listOf #[] 0), o, s', (P, listOf #[.ref C, .int j it] 0), c, q1, q2, q3]) (hj : -1 ≤ j) (hj' : j ≤ 10)
    (turn : ∀ i tt (u : Str → Option Value) j it evs k es tl h tk I oI, i < n → -1 ≤ j → j ≤ 10 + 20 * (i : Int) → es.length = i → Each (EvIn tl) evs es → EvsOk sz es → OffAll [EV, P, q1.1, q2.1, q3.1] tl →
      OwnOff ((EV, listOf (List.toArray evs) k) :: o :: s' :: (P, listOf #[.ref C, .int j it] 0) :: c :: q1 :: q2 :: q3 :: tl) [I] → Fr h₀ env.locals h (fun y => if stored.contains y then u y else m₀ y) →
      News h₀ env.locals h ((I, oI) :: (EV, listOf (List.toArray evs) k) :: o :: s' :: (P, listOf #[.ref C, .int j it] 0) :: c :: q1 :: q2 :: q3 :: tl) →
      wpAny (model prog w) A (assign target env (.int (0 + (i : Int)) tt)) (fun _ s₃ => wpAny (model prog w) A (execs body env) (TurnAt h₀ env.locals I oI (JN stored m₀ (LawInv sz EV P C o s' c q1 q2 q3 (i + 1))) { s with heap := h, toks := tk } Q) E s₃) E { s with heap := h, toks := tk })
    (done : ∀ (u : Str → Option Value) j it evs k es tl h tk, -1 ≤ j → j ≤ 10 + 20 * (n : Int) → es.length = n → Each (EvIn tl) evs es → EvsOk sz es → OffAll [EV, P, q1.1, q2.1, q3.1] tl →
      Fr h₀ env.locals h (fun y => if stored.contains y then u y else m₀ y) → News h₀ env.locals h ((EV, listOf (List.toArray evs) k) :: o :: s' :: (P, listOf #[.ref C, .int j it] 0) :: c :: q1 :: q2 :: q3 :: tl) → Q .next { s with heap := h, toks := tk }) :
    wpAny (model prog w) A (pyIter (.ref r)) (fun it s₂ => LoopI prog w A h₀ env target body Q E it s₂) E s := by
  refine loop_range (n := n) stored (LawInv sz EV P C o s' c q1 q2 q3) hh hr (rangeSmall_of (by omega) (by omega) (by omega) (by omega)) (rangeSize_of (by omega)) F N ⟨j, it, [], 0, [], [], rfl, hj, by omega, rfl, trivial, .nil, .nil⟩ ?_ ?_
  · rintro i tt u nx h tk I oI hi ⟨j, it, evs, k, es, tl, rfl, h1, h2, h3, h4, h5, h6⟩ ho F N
    exact turn i tt u j it evs k es tl h tk I oI hi h1 h2 h3 h4 h5 h6 ho F N
  · rintro u h tk nx ⟨j, it, evs, k, es, tl, rfl, h1, h2, h3, h4, h5, h6⟩ F N
    exact done u j it evs k es tl h tk h1 h2 h3 h4 h5 h6 F N
theorem law_turn {L I EV P C : Addr} {o s' c q1 q2 q3 : Addr × Obj} {oI oP : Obj} {sz : Int → Int} {stored : List Str} {s₁ : Shared} {h' : Heap} {tk : Nat} {m' : Str → Option Value} {tl tl2 : List (Addr × Obj)} {i k k0 : Nat} {j : Int} {it : Tok} {evs : List Value} {es : List Ev} {v : Value} {e : Ev} (nw : List (Addr × Obj))
    (F : Fr h₀ L h' m') (N : News h₀ L h' (nw ++ (I, oI) :: (EV, listOf (evs ++ [v]).toArray k) :: o :: s' :: (P, listOf #[.ref C, .int j it] 0) :: c :: q1 :: q2 :: q3 :: tl2))
    (ho : OwnOff ((EV, listOf (List.toArray evs) k0) :: o :: s' :: (P, oP) :: c :: q1 :: q2 :: q3 :: tl) [I])
    (hj : -1 ≤ j) (hj' : j ≤ 10 + 20 * ((i + 1 : Nat) : Int)) (hl : es.length = i) (hE : Each (EvIn tl2) evs es) (hv : EvIn (nw ++ tl2) v e) (hok : EvsOk sz es) (hok' : EvsOk sz [e])
    (hoff : OffAll [I, EV, P, q1.1, q2.1, q3.1] (nw ++ tl2)) (hm : ∀ z, stored.contains z = false → m' z = m₀ z) :
    TurnAt h₀ L I oI (JN stored m₀ (LawInv sz EV P C o s' c q1 q2 q3 (i + 1))) s₁ Q .next { s₁ with heap := h', toks := tk } := by
  refine TurnAt.mk ((EV, listOf (evs ++ [v]).toArray k) :: o :: s' :: (P, listOf #[.ref C, .int j it] 0) :: c :: q1 :: q2 :: q3 :: (nw ++ tl2)) F N (List.mem_append_right _ (.head _)) (fun p hp => ?_) (fun p hp => ?_)
    ⟨⟨j, it, evs ++ [v], k, es ++ [e], nw ++ tl2, rfl, hj, hj', by rw [List.length_append, hl]; rfl, each_app (hE.mono fun _ _ h => h.mono fun p hp => List.mem_append_right _ hp) ⟨hv, trivial⟩, hok.app hok', hoff.sub fun x hx => .tail _ hx⟩, hm⟩
  · exact sub_skip (X := nw) (T := [(I, oI)]) (R := [(EV, listOf (evs ++ [v]).toArray k), o, s', (P, listOf #[.ref C, .int j it] 0), c, q1, q2, q3] ++ tl2) _ (sub_mid (X := []) (T := nw) (M := [(EV, listOf (evs ++ [v]).toArray k), o, s', (P, listOf #[.ref C, .int j it] 0), c, q1, q2, q3]) (R := tl2) p hp)
  · simp only [List.mem_cons] at hp
    rcases hp with rfl | rfl | rfl | rfl | rfl | rfl | rfl | rfl | hp
    · exact ho (EV, listOf (List.toArray evs) k0) (.head _)
    · exact ho _ (.tail _ (.head _))
    · exact ho _ (.tail _ (.tail _ (.head _)))
    · exact ho (P, oP) (.tail _ (.tail _ (.tail _ (.head _))))
    · exact ho _ (.tail _ (.tail _ (.tail _ (.tail _ (.head _)))))
    · exact ho _ (.tail _ (.tail _ (.tail _ (.tail _ (.tail _ (.head _))))))
    · exact ho _ (.tail _ (.tail _ (.tail _ (.tail _ (.tail _ (.tail _ (.head _)))))))
    · exact ho _ (.tail _ (.tail _ (.tail _ (.tail _ (.tail _ (.tail _ (.tail _ (.head _))))))))
    · exact (hoff.own (.head _)) p hp
end
theorem tree_law {w : World} {mean : ExcName → Option Value} {mg mb : Str → Option Value} {dp un : Nat} {gd : Option (List Code)} {cn : Str} {cs : Scope} {L a : Addr} {ccd : Value} {cl : List (Str × Addr)} {outer : List Env}
   {A₀ : Around} {base h₀ : Heap} {m : Str → Option Value} {s : Shared} {Q E : Value → Shared → Prop}
   {tl : List (Addr × Obj)} {I EV P C S : Addr} {oI oE : Obj} {o q1 q2 q3 : Addr × Obj} {vs : List Value} {ns : List Int} {nc ss : Nat} {i : Int} {tk dt : Tok} {z0 z1 z2 : Int} {y0 y1 y2 : Tok}
   (B : Below A₀ base outer h₀) (F : Fr h₀ L s.heap m) (X : (Mine.hd.heap_39 w.params).In h₀)
   (N : News h₀ L s.heap ((I, oI) :: (EV, oE) :: o :: (S, listOf #[.int z0 y0, .int z1 y1, .int z2 y2] ss) :: (P, listOf #[.ref C, .int i tk] 0) :: (C, listOf vs.toArray nc) :: q1 :: q2 :: q3 :: tl))
   (T : Top Mine.hd.view_39 (looseW Mine.hd.view_39 []) mean mg mb h₀) (hk : cs.kind = .function)
   (hoff : OffAll [EV, P, q1.1, q2.1, q3.1] tl) (hPI : @Ne Nat I P) (hPE : @Ne Nat EV P) (hPo : @Ne Nat o.1 P) (hP1 : @Ne Nat q1.1 P) (hP2 : @Ne Nat q2.1 P) (hP3 : @Ne Nat q3.1 P) (hPC : C ≠ P) (hPS : @Ne Nat S P) (hI : IntsAre vs ns) (hlen : ns.length ≤ 60) (hi : -1 ≤ i) (hi2 : i ≤ 1000)
   (hz0 : 1 ≤ z0 ∧ z0 ≤ 4) (hz1 : 1 ≤ z1 ∧ z1 ≤ 4) (hz2 : 1 ≤ z2 ∧ z2 ≤ 4)
   (hdp : (dp : Int) ≤ 500) (hun : (un : Int) ≤ 1000)
   (ret : ∀ t a tl' i' it h' tk', Fr h₀ L h' m → News h₀ L h' ((I, oI) :: (EV, oE) :: o :: (S, listOf #[.int z0 y0, .int z1 y1, .int z2 y2] ss) :: (P, listOf #[.ref C, .int i' it] 0) :: (C, listOf vs.toArray nc) :: q1 :: q2 :: q3 :: (tl' ++ tl)) →
      OffAll [I, EV, P, q1.1, q2.1, q3.1] tl' → OwnOff (tl' ++ tl) [EV] → i ≤ i' → i' ≤ i + 11 → TrIn tl' (.ref a) t → t.Good (fun r => if r = 0 then z0 else if r = 1 then z1 else z2) → t.deep ≤ 3 → Q (.ref a) { s with heap := h', toks := tk' }) :
   wpAny (model PySem.Challenge.rw_sj0034_01.row.prog w) (ktrTop dp un gd cn cs L a ccd cl outer) (call (.ref (ktn_at% "_law_tree")) [.ref P, .ref S, .int 0 dt]) Q E s := by
  refine tree_use (y0 := y0) (y1 := y1) (y2 := y2) (tk := tk) (ss := ss) (nc := nc) (rest := (I, oI) :: (EV, oE) :: o :: q1 :: q2 :: q3 :: tl) (tree0 w mean mg mb) B F X (news_sub N fun p hp => ?_) T hk ?_ hPC hPS hI hlen hi (by omega) hz0 hz1 hz2 (by omega) (by omega) ?_
  · simp only [List.mem_cons] at hp ⊢
    rcases hp with h | h | h | h | h | h | h | h | h | h <;> simp only [h, true_or, or_true]
  · intro p hp b hb
    rw [List.mem_singleton.mp hb]
    simp only [List.mem_cons] at hp
    rcases hp with rfl | rfl | rfl | rfl | rfl | rfl | hp
    · exact hPI
    · exact hPE
    · exact hPo
    · exact hP1
    · exact hP2
    · exact hP3
    · exact hoff p hp P (.tail _ (.head _))
  · intro t a its wt tl' i' it h' tk' F' N' hA _ _ h1 h2 hT _ _ hG hd
    have hO : OffAll [I, EV, P, q1.1, q2.1, q3.1] tl' := OffAll.apart hA fun x hx => by
      simp only [List.mem_cons, List.not_mem_nil, or_false] at hx
      rcases hx with rfl | rfl | rfl | rfl | rfl | rfl
      · exact ⟨oI, .tail _ (.tail _ (.tail _ (.head _)))⟩
      · exact ⟨oE, .tail _ (.tail _ (.tail _ (.tail _ (.head _))))⟩
      · exact ⟨_, .head _⟩
      · exact ⟨q1.2, .tail _ (.tail _ (.tail _ (.tail _ (.tail _ (.tail _ (.head _))))))⟩
      · exact ⟨q2.2, .tail _ (.tail _ (.tail _ (.tail _ (.tail _ (.tail _ (.tail _ (.head _)))))))⟩
      · exact ⟨q3.2, .tail _ (.tail _ (.tail _ (.tail _ (.tail _ (.tail _ (.tail _ (.tail _ (.head _))))))))⟩
    refine ret t a tl' i' it h' tk' F' (news_sub N' fun p hp => ?_) hO ((hO.own (.tail _ (.head _))) |> fun x => ownOff_app x (hoff.own (.head _))) h1 h2 hT hG (by omega)
    simp only [List.mem_cons, List.mem_append] at hp ⊢
    rcases hp with h | h | h | h | h | h | h | h | h | h | h <;> simp only [h, true_or, or_true]
end Mine
end

section
open PySem PySem.W PyProof.Rows PySem.Spec PySem.Calls
namespace Mine
theorem frame_two {m : Str → Option Value} {a b : Str} {x y : Option Value} (ha : m a = x) (hb : m b = y) : m = fun z => if z = a then x else if z = b then y else m z := by
  funext z
  by_cases h1 : z = a
  · subst h1; simp [ha]
  · by_cases h2 : z = b
    · subst h2; simp [h1, hb]
    · simp [h1, h2]
theorem mem4 {a b c d : Addr × Obj} {l : List (Addr × Obj)} (ha : a ∈ l) (hb : b ∈ l) (hc : c ∈ l) (hd : d ∈ l) : ∀ x ∈ [a, b, c, d], x ∈ l := by
  intro x hx
  simp only [List.mem_cons, List.not_mem_nil, or_false] at hx
  rcases hx with rfl | rfl | rfl | rfl <;> assumption
/-- the events drawn, whether words stand among them or not: the rest is walked once -/
theorem law_cut {M : Model} {A : Around} {c : Sem Flow} {T : Flow → Shared → Prop} {E : Value → Shared → Prop} {s : Shared} {h₀ : Heap} {L EV SZ : Addr} {oE oZ : Obj} {o p q q1 q2 q3 : Addr × Obj} {tl : List (Addr × Obj)} (sz : Int → Int)
    (_N : News h₀ L s.heap ((EV, oE) :: o :: (SZ, oZ) :: p :: q :: q1 :: q2 :: q3 :: tl))
    (k1 : ∀ QM : Flow → Shared → Prop, (∀ h tk m evs k es news, Fr h₀ L h m → m (Str.ofString "events") = some (.ref EV) → m (Str.ofString "sizes") = some (.ref SZ) → News h₀ L h news → (EV, listOf (List.toArray evs) k) ∈ news →
      (∀ x ∈ [o, (SZ, oZ), q2, q3], x ∈ news) → Each (EvIn news) evs es → EvsOk sz es → es.length ≤ 8 → QM .next { s with heap := h, toks := tk }) → wpAny M A c QM E s)
    (k2 : ∀ (u : Str → Option Value) h tk evs k es tl2, Each (EvIn tl2) evs es → EvsOk sz es → es.length ≤ 8 → Fr h₀ L h (fun z => if z = Str.ofString "events" then some (.ref EV) else if z = Str.ofString "sizes" then some (.ref SZ) else u z) →
      News h₀ L h ((EV, listOf (List.toArray evs) k) :: o :: (SZ, oZ) :: q2 :: q3 :: tl2) → T .next { s with heap := h, toks := tk }) : wpAny M A c T E s := by
  refine k1 T fun h tk m evs k es news F me ms N hEV hs hE hok hel => k2 m h tk evs k es news hE hok hel ?_ (fun x hx => ?_)
  · have e := frame_two me ms
    rw [← e]; exact F
  · rcases List.mem_cons.mp hx with rfl | hx
    · exact N _ hEV
    · have hx' : x ∈ [o, (SZ, oZ), q2, q3] ++ news := hx
      rcases List.mem_append.mp hx' with h1 | h1
      · exact N _ (hs _ h1)
      · exact N _ h1
end Mine
end

section
open PySem PySem.W PyProof.Rows PySem.Spec PySem.Calls
set_option Elab.async false
set_option maxRecDepth 100000
namespace Mine
section
open LCg
variable {prog : Program} {w : World} {A : Around} {h₀ : Heap} {L : Addr} {m : Str → Option Value} {env : Env} {s₁ : Shared}
def WordsInv (sz : Int → Int) (pre tl : List (Addr × Obj)) (i : Nat) (ys : List Value) (nx : List (Addr × Obj)) : Prop :=
  ∃ tw es, nx = pre ++ (tw ++ tl) ∧ Each (EvIn tw) ys es ∧ es.length ≤ i ∧ EvsOk sz es ∧ Apart (pre ++ tl) tw
theorem words_src {ct elt : Expr} {x : Str} {scope : Scope} {cl : List (Str × Addr)} {Fin : Shared → List Value → List (Addr × Obj) → Prop} {r : Addr} {size : Int} {t u v : Tok} (sz : Int → Int) (pre : List (Addr × Obj)) {tl : List (Addr × Obj)} (n : Nat)
    (hh : A.handled = none) (F : Fr h₀ L s₁.heap m) (N : News h₀ L s₁.heap (pre ++ tl)) (hr : IsRange s₁.heap r 0 size 1 t u v) (hb : size = (n : Int)) (hn : n ≤ 4)
    (turn : ∀ g (i : Nat) tt ys es tw I oI C oC D m₂ h tk (E' : Value → Shared → Prop), i < n → Each (EvIn tw) ys es → es.length ≤ i → EvsOk sz es → Apart (pre ++ tl) tw → NsObj oC m₂ → m₂ x = some (.int (0 + (i : Int)) tt) → Fr h₀ L h m → News h₀ L h ((I, oI) :: (C, oC) :: (D, lst ys) :: (pre ++ (tw ++ tl))) → Off3 I C D (pre ++ (tw ++ tl)) → ((@Ne Nat I C) ∧ (@Ne Nat I D) ∧ (@Ne Nat C D)) →
      wpAny (model prog w) A (isTrue ct (compEnvC scope cl C env) (eval ct (compEnvC scope cl C env))) (fun ok s' => if ok = true then
        wpAny (model prog w) A (eval elt (compEnvC scope cl C env)) (EltAt h₀ L m { { s₁ with heap := g } with heap := h, toks := tk } I oI C oC D (lst ys) (fun _ => True) (fun y nx => WordsInv sz pre tl (i + 1) (ys ++ [y]) nx)) E' s'
        else EltAt h₀ L m { { s₁ with heap := g } with heap := h, toks := tk } I oI C oC D (lst ys) (fun _ => True) (fun _ nx => WordsInv sz pre tl (i + 1) ys nx) Value.none s') E' { { s₁ with heap := g } with heap := h, toks := tk })
    (fin : ∀ g ys es tw, Each (EvIn tw) ys es → es.length ≤ n → EvsOk sz es → Apart (pre ++ tl) tw → Fin { s₁ with heap := g } ys (pre ++ (tw ++ tl))) : LCt.CompSrcT prog w A h₀ L m env ct elt x scope cl Fin (.ref r) s₁ := by
  refine LCt.CompSrcT.range (n := n) hh F N hr (rangeSmall_of (by omega) (by omega) (by omega) (by omega)) (rangeSize_of (by omega)) (by rw [sizeLine_eq]; omega) fun g => ?_
  refine compRestT_inv n (WordsInv sz pre tl) (fun i v ys nx I oI C oC D m₂ h tk E' hi hP hI hC hx F9 N9 off ne => ?_) (fun ys nx hI => ?_) n 0 [] (pre ++ tl) (by omega) ⟨[], [], rfl, trivial, Nat.le_refl _, .nil, fun _ _ _ h => nomatch h⟩
  · obtain ⟨tw, es, rfl, h1, h2, h3, h4⟩ := hI
    obtain ⟨tt, rfl⟩ := hP
    exact turn g i tt ys es tw I oI C oC D m₂ h tk E' hi h1 h2 h3 h4 hC hx F9 N9 off ne
  · obtain ⟨tw, es, rfl, h1, h2, h3, h4⟩ := hI
    exact fin g ys es tw h1 h2 h3 h4
theorem words_no {sz : Int → Int} {pre tl tw : List (Addr × Obj)} {i : Nat} {ys : List Value} {es : List Ev} (h1 : Each (EvIn tw) ys es) (h2 : es.length ≤ i) (h3 : EvsOk sz es) (h4 : Apart (pre ++ tl) tw) : WordsInv sz pre tl (i + 1) ys (pre ++ (tw ++ tl)) :=
  ⟨tw, es, rfl, h1, Nat.le_succ_of_le h2, h3, h4⟩
theorem words_elt {I C D a : Addr} {oI oC : Obj} {sz : Int → Int} {pre tl tw t2 : List (Addr × Obj)} {i : Nat} {ys : List Value} {es : List Ev} {idx unk : Int} {sg : Bool} {h' : Heap} {tk' : Nat}
    (F : Fr h₀ L h' m) (N : News h₀ L h' (t2 ++ ((I, oI) :: (C, oC) :: (D, lst ys) :: (pre ++ (tw ++ tl))))) (hv : EvIn t2 (.ref a) (.word idx unk sg)) (hA : Apart ((I, oI) :: (C, oC) :: (D, lst ys) :: (pre ++ (tw ++ tl))) t2)
    (h1 : Each (EvIn tw) ys es) (h2 : es.length ≤ i) (h3 : EvsOk sz es) (h4 : Apart (pre ++ tl) tw) (off : Off3 I C D (pre ++ (tw ++ tl))) (h0 : 0 ≤ idx) (h8 : idx < 8) :
    EltAt h₀ L m s₁ I oI C oC D (lst ys) (fun _ => True) (fun y nx => WordsInv sz pre tl (i + 1) (ys ++ [y]) nx) (.ref a) { s₁ with heap := h', toks := tk' } := by
  refine EltAt.mk (pre ++ ((t2 ++ tw) ++ tl)) F N (fun p hp => ?_) (off3_of fun p hp => ?_) trivial ⟨t2 ++ tw, es ++ [.word idx unk sg], rfl, each_app (h1.mono fun _ _ h => h.mono fun p hp => List.mem_append_right _ hp) ⟨hv.mono fun p hp => List.mem_append_left _ hp, trivial⟩, by rw [List.length_append]; exact Nat.succ_le_succ h2, h3.app (.word h0 h8), apart_app (apart_sub hA fun p hp => ?_) h4⟩
  · simp only [List.mem_cons, List.mem_append] at hp ⊢
    rcases hp with h | h | h | h | (h | h) | h <;> simp only [h, true_or, or_true]
  · have k := off.mem
    simp only [List.mem_append] at hp k
    rcases hp with h | (h | h) | h
    · exact k p (.inl h)
    · exact ⟨Ne.symm (hA _ (.head _) p h), Ne.symm (hA _ (.tail _ (.head _)) p h), Ne.symm (hA _ (.tail _ (.tail _ (.head _))) p h)⟩
    · exact k p (.inr (.inl h))
    · exact k p (.inr (.inr h))
  · simp only [List.mem_cons, List.mem_append] at hp ⊢
    rcases hp with h | h <;> simp only [h, true_or, or_true]
end
theorem apart_own {X tl : List (Addr × Obj)} {x : Addr} {o : Obj} (h : Apart X tl) (hm : (x, o) ∈ X) : OwnOff tl [x] := fun p hp b hb e => by
  rw [List.mem_singleton.mp hb] at e
  exact h _ hm p hp e.symm
def fixedEs : List Ev := [.word 1 0 false, .tree (.slice 1 (.sig 2 0) 1), .tree (.cat 6 (.ext 4 (.slice 3 (.sig 2 1) (-1)) false) (.sig 2 2))]
theorem fixed_good : ∀ t, Ev.tree t ∈ fixedEs → ∃ sz, t.Good sz := fun t ht => ⟨fun _ => 2, by
  simp only [fixedEs, List.mem_cons, List.not_mem_nil, or_false, Ev.tree.injEq, reduceCtorEq, false_or] at ht
  rcases ht with rfl | rfl
  · simp [Tr.Good]
  · simp [Tr.Good, Tr.width]⟩
theorem fixed_fine : ∀ e ∈ fixedEs, EvFine e := fun e he => by
  simp only [fixedEs, List.mem_cons, List.not_mem_nil, or_false] at he
  rcases he with rfl | rfl | rfl
  · trivial
  · simp [EvFine, Tr.leaves, Tr.deep]
  · simp [EvFine, Tr.leaves, Tr.deep]
theorem fixed_word : ∀ idx unk sg, Ev.word idx unk sg ∈ fixedEs → 0 ≤ idx ∧ idx < 8 := fun idx unk sg ht => by
  simp only [fixedEs, List.mem_cons, List.not_mem_nil, or_false, Ev.word.injEq, reduceCtorEq] at ht
  obtain ⟨rfl, _, _⟩ := ht
  exact ⟨by decide, by decide⟩
theorem fixed_keys : (fixedEs.flatMap Ev.keys).length ≤ 60 := by decide
theorem fixed_each {R : Value → Ev → Prop} {a b c : Value} (h1 : R a (.word 1 0 false)) (h2 : R b (.tree (.slice 1 (.sig 2 0) 1))) (h3 : R c (.tree (.cat 6 (.ext 4 (.slice 3 (.sig 2 1) (-1)) false) (.sig 2 2)))) : Each R [a, b, c] fixedEs := ⟨h1, h2, h3, trivial⟩
theorem ord01 : OrdIs [0, 1] 0 1 := ⟨fun x => by simp only [List.mem_cons, List.not_mem_nil, or_false]; omega, fun _ => by decide, fun h => by omega⟩
theorem lo1 {j : Int} (h : -1 ≤ j) : -1 ≤ j + 1 := by omega
theorem up0 {j : Int} (h : j ≤ 500) : j < 1000000 := by omega
theorem up1 {j : Int} (h : j ≤ 500) : j + 1 < 1000000 := by omega
theorem up2 {j : Int} (h : j ≤ 500) : j + 1 + 1 < 1000000 := by omega
theorem up3 {j : Int} (h : j ≤ 500) : j + 1 + 1 + 1 < 1000000 := by omega
theorem up4 {j : Int} (h : j ≤ 500) : j + 1 + 1 + 1 + 1 < 1000000 := by omega
end Mine
end

section
open PySem PySem.W PyProof.Rows PySem.Spec PySem.Calls
set_option Elab.async false
set_option maxRecDepth 100000
namespace Mine
theorem fill33 : PySem.Challenge.rw_sj0034_01 = PySem.Challenge.rw_sj0034_01 ∧ Mine.hd.heap_39 = Mine.hd.heap_39 := by
  k_fill
  exact ⟨rfl, rfl⟩
theorem Tr.deep_pos : ∀ t : Tr, 1 ≤ t.deep
  | .sig .. => Nat.le_refl _
  | .ext _ e _ => Nat.le_add_left _ _
  | .slice _ e _ => Nat.le_add_left _ _
  | .cat _ x y => Nat.le_add_left _ _
theorem Tr.leaves1 : ∀ t : Tr, t.deep ≤ 1 → t.leaves ≤ 1
  | .sig .., _ => Nat.le_refl _
  | .ext _ e _, h => by have := e.deep_pos; simp only [Tr.deep] at h; omega
  | .slice _ e _, h => by have := e.deep_pos; simp only [Tr.deep] at h; omega
  | .cat _ x y, h => by have := x.deep_pos; simp only [Tr.deep] at h; omega
theorem Tr.leaves2 : ∀ t : Tr, t.deep ≤ 2 → t.leaves ≤ 2
  | .sig .., _ => by simp [Tr.leaves]
  | .ext _ e _, h => by simp only [Tr.deep] at h; have := e.leaves1 (by omega); simp only [Tr.leaves]; omega
  | .slice _ e _, h => by simp only [Tr.deep] at h; have := e.leaves1 (by omega); simp only [Tr.leaves]; omega
  | .cat _ x y, h => by simp only [Tr.deep] at h; have := x.leaves1 (by omega); have := y.leaves1 (by omega); simp only [Tr.leaves]; omega
theorem Tr.leaves3 : ∀ t : Tr, t.deep ≤ 3 → t.leaves ≤ 4
  | .sig .., _ => by simp [Tr.leaves]
  | .ext _ e _, h => by simp only [Tr.deep] at h; have := e.leaves2 (by omega); simp only [Tr.leaves]; omega
  | .slice _ e _, h => by simp only [Tr.deep] at h; have := e.leaves2 (by omega); simp only [Tr.leaves]; omega
  | .cat _ x y, h => by simp only [Tr.deep] at h; have := x.leaves2 (by omega); have := y.leaves2 (by omega); simp only [Tr.leaves]; omega
theorem keys_few {sz : Int → Int} : ∀ {es : List Ev}, EvsOk sz es → (es.flatMap Ev.keys).length ≤ 4 * es.length
  | [], _ => Nat.le_refl _
  | e :: r, h => by
    have h1 : EvsOk sz r := ⟨fun t ht => h.1 t (.tail _ ht), fun a b c ht => h.2 a b c (.tail _ ht)⟩
    have h2 := keys_few h1
    rw [List.flatMap_cons, List.length_append, List.length_cons]
    have h3 : (Ev.keys e).length ≤ 4 := by
      cases e with
      | tree t =>
        have := t.leaves3 (h.1 t (.head _)).2
        have := t.keys_len
        simp only [Ev.keys]; omega
      | word a b c => simp [Ev.keys]
    omega
theorem case_law {w : World} {mean : ExcName → Option Value} {mg mb : Str → Option Value} {dp un : Nat} {gd : Option (List Code)} {cn : Str} {cs : Scope} {L a : Addr} {ccd : Value} {cl : List (Str × Addr)} {outer : List Env}
   {A₀ : Around} {base h₀ : Heap} {m : Str → Option Value} {s : Shared} {Q E : Value → Shared → Prop}
   {news : List (Addr × Obj)} {SZ OR EV : Addr} {zvs ovs evs : List Value} {kz ko ke : Nat} {zs order : List Int} {es : List Ev} {f l : Int} (sz : Int → Int)
   (B : Below A₀ base outer h₀) (F : Fr h₀ L s.heap m) (X : (Mine.hd.heap_39 w.params).In h₀) (N : News h₀ L s.heap news)
   (T : Top Mine.hd.view_39 (looseW Mine.hd.view_39 []) mean mg mb h₀) (hk : cs.kind = .function)
   (hSZ : (SZ, listOf zvs.toArray kz) ∈ news) (hOR : (OR, listOf ovs.toArray ko) ∈ news) (hEV : (EV, listOf evs.toArray ke) ∈ news)
   (hz : IntsAre zvs zs) (hzl : zs.length = 3) (hoi : IntsAre ovs order) (hE : Each (EvIn news) evs es)
   (hord : OrdIs order f l) (hf : -1 ≤ f ∧ f ≤ 2) (hl : -1 ≤ l ∧ l ≤ 2) (hof : order[0]? = some f) (hol : order[order.length - 1]? = some l)
   (hok : EvsOk sz es) (hel : es.length ≤ 8)
   (hdp : (dp : Int) ≤ 310) (hun : (un : Int) ≤ 500)
   (ret : ∀ h' tk', Fr h₀ L h' m → News h₀ L h' news → Q (.bool true) { s with heap := h', toks := tk' }) :
   wpAny (model PySem.Challenge.rw_sj0034_01.row.prog w) (ktrTop dp un gd cn cs L a ccd cl outer) (call (.ref (ktn_at% "_law_case")) [.ref SZ, .ref OR, .ref EV]) Q E s := by
  have hk4 := keys_few hok
  refine case_spec B F X N T hk hSZ hOR hEV hz hzl hoi hE hord hf hl hof hol (fun t ht => ⟨sz, (hok.1 t ht).1⟩) (fun e he => ?_) (fun idx unk sg h => hok.2 idx unk sg h) (by omega) (by omega) hdp hun ret
  cases e with
  | tree t =>
    have h1 := t.leaves3 (hok.1 t he).2
    have h2 := (hok.1 t he).2
    exact ⟨by omega, by omega⟩
  | word a b c => trivial
end Mine
end

section
open PySem PySem.W PyProof.Rows PySem.Spec PySem.Calls
set_option Elab.async false
set_option maxRecDepth 100000
namespace Mine
theorem list_no_ifill : fillsInplaceSlot (.type "list") "add" (Operator.Add == .Add) = pure false := by
  unfold fillsInplaceSlot
  show (typeLookup (.type "list") (dunderI "add") >>= fun fi => pure (fi.isSome && !isSeqSlot fi)) = pure false
  rw [PySem.F.slot_list_iadd.lookup]
  show (pure (true && !isSeqSlot (some (.builtin "list.__iadd__"))) : Sem Bool) = pure false
  rw [show isSeqSlot (some (.builtin "list.__iadd__")) = true from by decide +kernel]
  rfl
theorem list_iseq : seqSlot? (.type "list") (dunderI "add") = pure (some (.builtin "list.__iadd__")) := PySem.seqSlot_of PySem.F.slot_list_iadd.lookup (by decide +kernel)
section
variable {prog : Program} {w : World} {A : Around} {E : Value → Shared → Prop} {s : Shared} {h₀ : Heap} {L D b : Addr} {m : Str → Option Value} {news : List (Addr × Obj)} {nf : Obj → List (Addr × Obj)}
theorem iadd_list {xs ys : List Value} {n n2 : Nat} {Q : Value → Shared → Prop} (F : Fr h₀ L s.heap m) (N : News h₀ L s.heap news) (hb : (b, listOf ys.toArray n2) ∈ news) (U : UpdF D (listOf xs.toArray n) news nf) (hx : xs.length ≤ 1000) (hy : ys.length ≤ 1000)
    (h : ∀ h' k, Fr h₀ L h' m → News h₀ L h' (nf (listOf (xs ++ ys).toArray k)) → Q (.ref D) { s with heap := h' }) : wpAny (model prog w) A (inplaceOp .Add (.ref D) (.ref b)) Q E s := by
  obtain ⟨pre, post, rfl, hg, a, c⟩ := U.split
  have z := N (D, listOf xs.toArray n) (List.mem_append.mpr (.inr (.head _)))
  have z2 := N _ hb
  have hT : s.TypeIs (.ref D) "list" := ⟨_, z.1, rfl⟩
  have hT2 : s.TypeIs (.ref b) "list" := ⟨_, z2.1, rfl⟩
  have hs : sizeLine ≥ 4000 := by rw [sizeLine_eq]; omega
  unfold inplaceOp
  refine wpAny_holding ?_
  refine wpAny_bind (wpAny_typeOf hT (wpAny_bind (wpAny_of_eq list_no_ifill ?_)))
  show wpAny _ _ (if false = true then _ else _) Q E s
  rw [if_neg Bool.false_ne_true]
  refine wpAny_bind (PySem.wpAny_binaryOp1_none (nm := "add") hT hT2 PySem.noFill_list_add ?_)
  refine wpAny_bind (wpAny_of_eq list_iseq ?_)
  refine wpAny_bind (wpAny_rule ?_)
  refine call_meets PySem.F.slot_list_iadd hT PySem.F.entry_list_iadd (PySem.F.args_list_iadd_2 _ _) (PySem.AutoSeq1.list___iadd___list_list_0 D xs.toArray n b ys.toArray n2 ?_ (by rw [List.size_toArray]; omega) (by rw [List.size_toArray, List.size_toArray]; omega)) ⟨z.1, z2.1, ?_⟩
  · have : Builtin.List.listTooLong (xs.toArray.size + ys.toArray.size) = false := by
      unfold Builtin.List.listTooLong
      rw [List.size_toArray, List.size_toArray]
      simp
      omega
    rw [this, Bool.and_false]; exact Bool.false_ne_true
  · refine h _ (if (xs.toArray ++ ys.toArray).size == xs.toArray.size then n else n + 1) (F.change (Heap.SameBut.update ..) z.2.1 z.2.2) ?_
    rw [hg]
    refine news_set N a c (Heap.SameBut.update ..) ?_
    have q := PySem.IsL.update z.1 (fun x => x ++ ys.toArray)
    rw [show (xs ++ ys).toArray = xs.toArray ++ ys.toArray from by simp]
    exact q
end
end Mine
end

section
open PySem PySem.W PyProof.Rows PySem.Spec
set_option Elab.async false
namespace Mine
theorem fill31 : PySem.Challenge.rw_sj0034_01 = PySem.Challenge.rw_sj0034_01 ∧ Mine.hd.heap_39 = Mine.hd.heap_39 := by
  k_fill
  exact ⟨rfl, rfl⟩
theorem word_apart {c e a : Addr} {oc oe oa : Obj} {news : List (Addr × Obj)} (h1 : ∀ p ∈ news, @LT.lt Nat _ p.1 c) (h2 : @LT.lt Nat _ c e ∧ AllLt e news) (h3 : @LT.lt Nat _ e a ∧ @LT.lt Nat _ c a ∧ AllLt a news) : Apart news [(a, oa), (e, oe), (c, oc)] := fun q hq p hp => by
  simp only [List.mem_cons, List.not_mem_nil, or_false] at hp
  rcases hp with rfl | rfl | rfl
  · exact Nat.ne_of_lt (allLt_mem h3.2.2 q hq)
  · exact Nat.ne_of_lt (allLt_mem h2.2 q hq)
  · exact Nat.ne_of_lt (h1 q hq)
set_option maxRecDepth 100000 in
set_option maxHeartbeats 8000000 in
theorem word_spec {w : World} {mean : ExcName → Option Value} {mg mb : Str → Option Value} {dp un : Nat} {gd : Option (List Code)} {cn : Str} {cs : Scope} {L a : Addr} {ccd : Value} {cl : List (Str × Addr)} {outer : List Env}
   {A₀ : Around} {base h₀ : Heap} {m : Str → Option Value} {s : Shared} {Q E : Value → Shared → Prop}
   {news : List (Addr × Obj)} {idx : Int} {it : Tok} {sg : Bool}
   (B : Below A₀ base outer h₀) (F : Fr h₀ L s.heap m) (X : (Mine.hd.heap_39 w.params).In h₀) (N : News h₀ L s.heap news)
   (T : Top Mine.hd.view_39 (looseW Mine.hd.view_39 []) mean mg mb h₀) (hk : cs.kind = .function)
   (hdp : (dp : Int) ≤ 600) (hun : (un : Int) ≤ 2000)
   (ret : ∀ v tl h' tk', Fr h₀ L h' m → News h₀ L h' (tl ++ news) → EvIn tl (.ref v) (.word idx 0 sg) → Apart news tl → Q (.ref v) { s with heap := h', toks := tk' }) :
   wpAny (model PySem.Challenge.rw_sj0034_01.row.prog w) (ktrTop dp un gd cn cs L a ccd cl outer) (call (.ref (ktn_at% "_law_word")) [.int idx it, .bool sg]) Q E s := by
  refine wpAny_call ?_
  have hroom : dp < recursionLimit := by simp only [recursionLimit]; omega
  w_top off
  k_with_none
  k_dflt ktr_enter
  k_steps
  first
    | exact ret _ [(_, _), (_, _), (_, _)] _ _ (by assumption) (by assumption) (.word (.head _) (.tail _ (.head _)) (.tail _ (.tail _ (.head _)))) (word_apart (by assumption) (by assumption) (by assumption))
    | fail "stop"
end Mine
end

section
open PySem PySem.W PyProof.Rows PySem.Spec
set_option Elab.async false
namespace Mine
set_option maxRecDepth 100000 in
set_option maxHeartbeats 8000000 in
theorem law_walk : PySem.Challenge.rw_sj0034_01.Holds := Mine.hd (by
  w_top off
  w_strict (
    k_go0
    all_goals try k_fold
    refine gen_L (fun QL EL hQL hEL => ?_)
    (rename Shared => s1)
    (rename Top _ _ _ _ _ _ => kT)
    (rename Below _ _ _ _ => kB)
    (rename Fr _ _ _ _ => kF)
    (rename News _ _ _ _ => kN)
    (rename Frag.In _ _ => kX)
    (rename Heap.IsList _ _ _ => kL)
    have kB2 : Below callerA s1.heap [] s1.heap := kB
    clear kB
    generalize hL9 : s1.heap.objs.size = L9 at kF kN hEL ⊢
    generalize hh9 : s1.heap = h9 at kB2 kF kN kT kX kL hEL ⊢
    clear hL9
    revert hh9 kB2 kF kN kT kX kL hEL
    revert h9 L9
    refine id ?_
    intros
    (rename s1.heap = _ => hh9)
    (rename Heap => h9)
    (rename Nat => L9)
    k_with_none
    k_with "k_all" => (exact ownOff_ne (by assumption))
    k_with "eval ListComp" => ((k_here; lcf_look; k_dflt (refine LCg.ListComp_U (F₀ := by k_asm) (by with_unfolding_all rfl) (by decide) (by rfl) (by decide) (by rfl) ?_); k_dflt lcg_toSrc))
    k_with "eval ListComp" => ((k_here; lct_look; k_dflt (refine LCt.ListComp_T (F₀ := by k_asm) (by with_unfolding_all rfl) (by decide) (by rfl) (by decide) (by rfl) ?_); k_dflt lct_toSrc))
    k_with "call builtin:list.append" => ((k_here; (refine' append_K ?kF ?kN ?kU ?_ ?kz; (case kF => k_asm); (case kN => k_asm); (case kU => k_upd); (case kz => ((try simp only [List.size_toArray, Array.size_push]); rw [sizeLine_eq]; first | exact Nat.le_trans (by assumption : _ ≤ 4) (by decide) | omega)); intro h' F' N'; (try simp only [List.push_toArray] at N'); (try k_sweep))))
    k_with "callWith builtin:list.append" => (first | (dsimp only; refine callWith_method1 ?_) | refine callWith_method1 ?_)
    k_with "execs cons" => ((rename Fr _ _ _ _ => zF); (refine st_to (s := s1) zF (by with_reducible rfl) (fun tk => ?_)); (try k_made); (refine wpAny_execs_cons ?_); (try dsimp only))
    k_with "execs cons" => ((with_reducible show wpAny _ _ (execs (Stmt.If _ _ [] _ :: _) _) _ _ _); (rename Fr _ _ _ _ => zF); (refine st_to (s := s1) zF (by with_reducible rfl) (fun tk => ?_)); (try k_made); (refine wpAny_execs_cons ?_); (rename News _ _ _ _ => zN); refine law_cut (L := L9) (fun r => if r = 0 then z0 else if r = 1 then z1 else z2) zN (fun QM hQM => ?_) (fun u9 hh tk9 evs9 k9 es9 tl9 hE9 hok9 hel9 F9 N9 => ?_) <;> (try dsimp only))
    k_with "k_ne" => (refine neN ?_; (try dsimp only); first | with_reducible assumption | (refine Ne.symm ?_; with_reducible assumption) | (refine Nat.ne_of_lt ?_; with_reducible assumption) | (refine Nat.ne_of_gt ?_; with_reducible assumption) | k_extra "k_nf")
    k_with "k_nf" => ((rename _ ∧ _ => lX); first | exact Nat.ne_of_gt lX.1 | exact Nat.ne_of_lt lX.1 | exact Nat.ne_of_gt lX.2.1 | exact Nat.ne_of_lt lX.2.1 | exact Nat.ne_of_gt lX.2.2.1 | exact Nat.ne_of_lt lX.2.2.1 | exact Nat.ne_of_gt lX.2.2.2.1 | exact Nat.ne_of_lt lX.2.2.2.1 | exact Nat.ne_of_gt lX.2.2.2.2.1 | exact Nat.ne_of_lt lX.2.2.2.2.1 | exact Nat.ne_of_gt lX.2.2.2.2.2.1 | exact Nat.ne_of_lt lX.2.2.2.2.2.1 | exact Nat.ne_of_gt lX.2.2.2.2.2.2.1 | exact Nat.ne_of_lt lX.2.2.2.2.2.2.1 | exact Nat.ne_of_gt lX.2.2.2.2.2.2.2.1 | exact Nat.ne_of_lt lX.2.2.2.2.2.2.2.1 | exact Nat.ne_of_gt lX.2.2.2.2.2.2.2.2.1 | exact Nat.ne_of_lt lX.2.2.2.2.2.2.2.2.1 | exact Nat.ne_of_gt lX.2.2.2.2.2.2.2.2.2.1 | exact Nat.ne_of_lt lX.2.2.2.2.2.2.2.2.2.1 | exact Nat.ne_of_gt lX.2.2.2.2.2.2.2.2.2.2.1 | exact Nat.ne_of_lt lX.2.2.2.2.2.2.2.2.2.2.1 | exact Nat.ne_of_gt lX.2.2.2.2.2.2.2.2.2.2.2.1 | exact Nat.ne_of_lt lX.2.2.2.2.2.2.2.2.2.2.2.1 | exact Nat.ne_of_gt lX.2 | exact Nat.ne_of_lt lX.2 | exact Nat.ne_of_gt lX.2.2 | exact Nat.ne_of_lt lX.2.2 | exact Nat.ne_of_gt lX.2.2.2 | exact Nat.ne_of_lt lX.2.2.2 | exact Nat.ne_of_gt lX.2.2.2.2 | exact Nat.ne_of_lt lX.2.2.2.2 | exact Nat.ne_of_gt lX.2.2.2.2.2 | exact Nat.ne_of_lt lX.2.2.2.2.2 | exact Nat.ne_of_gt lX.2.2.2.2.2.2 | exact Nat.ne_of_lt lX.2.2.2.2.2.2 | exact Nat.ne_of_gt lX.2.2.2.2.2.2.2 | exact Nat.ne_of_lt lX.2.2.2.2.2.2.2 | exact Nat.ne_of_gt lX.2.2.2.2.2.2.2.2 | exact Nat.ne_of_lt lX.2.2.2.2.2.2.2.2 | exact Nat.ne_of_gt lX.2.2.2.2.2.2.2.2.2 | exact Nat.ne_of_lt lX.2.2.2.2.2.2.2.2.2 | exact Nat.ne_of_gt lX.2.2.2.2.2.2.2.2.2.2 | exact Nat.ne_of_lt lX.2.2.2.2.2.2.2.2.2.2 | exact Nat.ne_of_gt lX.2.2.2.2.2.2.2.2.2.2.2 | exact Nat.ne_of_lt lX.2.2.2.2.2.2.2.2.2.2.2 | exact Ne.symm lX.1 | exact lX.1 | exact Ne.symm lX.2.1 | exact lX.2.1 | exact Ne.symm lX.2.2.1 | exact lX.2.2.1 | exact Ne.symm lX.2.2.2.1 | exact lX.2.2.2.1 | exact Ne.symm lX.2.2.2.2.1 | exact lX.2.2.2.2.1 | exact Ne.symm lX.2.2.2.2.2.1 | exact lX.2.2.2.2.2.1 | exact Ne.symm lX.2.2.2.2.2.2.1 | exact lX.2.2.2.2.2.2.1 | exact Ne.symm lX.2.2.2.2.2.2.2.1 | exact lX.2.2.2.2.2.2.2.1 | exact Ne.symm lX.2.2.2.2.2.2.2.2.1 | exact lX.2.2.2.2.2.2.2.2.1 | exact Ne.symm lX.2.2.2.2.2.2.2.2.2.1 | exact lX.2.2.2.2.2.2.2.2.2.1 | exact Ne.symm lX.2.2.2.2.2.2.2.2.2.2.1 | exact lX.2.2.2.2.2.2.2.2.2.2.1 | exact Ne.symm lX.2.2.2.2.2.2.2.2.2.2.2.1 | exact lX.2.2.2.2.2.2.2.2.2.2.2.1 | exact Ne.symm lX.1.1 | exact Ne.symm lX.1.2.1 | exact Ne.symm lX.1.2.2 | exact Ne.symm lX.2.1.1 | exact Ne.symm lX.2.1.2.1 | exact Ne.symm lX.2.1.2.2 | exact Ne.symm lX.2.2.1.1 | exact Ne.symm lX.2.2.1.2.1 | exact Ne.symm lX.2.2.1.2.2 | exact Ne.symm lX.2.2.2.1.1 | exact Ne.symm lX.2.2.2.1.2.1 | exact Ne.symm lX.2.2.2.1.2.2 | exact Ne.symm lX.2.2.2.2.1.1 | exact Ne.symm lX.2.2.2.2.1.2.1 | exact Ne.symm lX.2.2.2.2.1.2.2 | (clear lX; k_extra "k_nf"))
    k_with "CompSrc" => ((k_dflt (refine sizes_src (by rfl) (by k_asm) (by k_asm) (by k_asm) (fun g i tt ys zs j it I oI Cc oC D m₂ h tk E' hi hI hl hz hj hj' hC hx F N off ne => ?_) (fun g j it z0 y0 z1 y1 z2 y2 hz0 hz1 hz2 hj hj' => ?_)) <;> (try (have off' := off; simp only [LCg.Off3] at off')) <;> (have hjb : j ≤ 500 := by omega)))
    k_with "exec While" => (((rename Fr _ _ _ _ => lF); k_dflt (refine order_while (l := r' - 1) [] lF (by k_asm) (.cons _ _ .nil) (fun n vs k ns c h₁ tk₁ hIO hOrd hbt hn0 hnc hn F N => ?_)); (simp only [List.nil_append] at N); (have hvl := hIO.length); (have hol := ord_len hOrd (by omega) (by omega) hbt)))
    k_with "exec For Name Call cons nil" => (((rename Fr _ _ _ _ => lF); k_dflt (refine For_IF lF ?_)))
    k_with "pyIter ref" => ((k_dflt (refine law_loop (n := (1 + r').toNat) (fun r => if r = 0 then z0 else if r = 1 then z1 else z2) [Str.ofString "lap", Str.ofString "unknown"] (by rfl) (by k_asm) (by omega) (by omega) (by k_asm) (by k_asm) (by omega) (by omega) (fun i tt u j it evs k es tl h tk I oI hi hj hj' hel hE hok hoff ho F N => gen_T (fun QT hQT => ?_)) (fun u j it evs k es tl h tk hj hj' hel hE hok hoff F N => ?_)) <;> (have hjb : j ≤ 500 := by omega) <;> (dsimp only at hoff) <;> (have hoE := hoff.own (List.Mem.head _)) <;> (have hoP := hoff.own (List.Mem.tail _ (List.Mem.head _))) <;> (have ho1 := hoff.own (List.Mem.tail _ (List.Mem.tail _ (List.Mem.head _)))) <;> (have ho2 := hoff.own (List.Mem.tail _ (List.Mem.tail _ (List.Mem.tail _ (List.Mem.head _))))) <;> (have ho3 := hoff.own (List.Mem.tail _ (List.Mem.tail _ (List.Mem.tail _ (List.Mem.tail _ (List.Mem.head _)))))) <;> (have hevl := hE.length) <;> (have hes4 : es.length ≤ 4 := by omega) <;> (have hev5 : evs.length ≤ 4 := Nat.le_trans (Nat.le_of_eq hevl) hes4) <;>
      (try (have hp0 := off_ne_nat ho List.mem_cons_self; have hp1 := off_ne_nat ho (List.mem_cons_of_mem _ List.mem_cons_self); have hp2 := off_ne_nat ho (List.mem_cons_of_mem _ (List.mem_cons_of_mem _ List.mem_cons_self)); have hp3 := off_ne_nat ho (List.mem_cons_of_mem _ (List.mem_cons_of_mem _ (List.mem_cons_of_mem _ List.mem_cons_self))); have hp4 := off_ne_nat ho (List.mem_cons_of_mem _ (List.mem_cons_of_mem _ (List.mem_cons_of_mem _ (List.mem_cons_of_mem _ List.mem_cons_self)))); have hp5 := off_ne_nat ho (List.mem_cons_of_mem _ (List.mem_cons_of_mem _ (List.mem_cons_of_mem _ (List.mem_cons_of_mem _ (List.mem_cons_of_mem _ List.mem_cons_self))))); have hp6 := off_ne_nat ho (List.mem_cons_of_mem _ (List.mem_cons_of_mem _ (List.mem_cons_of_mem _ (List.mem_cons_of_mem _ (List.mem_cons_of_mem _ (List.mem_cons_of_mem _ List.mem_cons_self)))))); have hp7 := off_ne_nat ho (List.mem_cons_of_mem _ (List.mem_cons_of_mem _ (List.mem_cons_of_mem _ (List.mem_cons_of_mem _ (List.mem_cons_of_mem _ (List.mem_cons_of_mem _ (List.mem_cons_of_mem _ List.mem_cons_self)))))))))))
    k_with "call builtin:len" => ((k_dflt (refine' len_listN ?kN ?km ?kz ?_; (case kN => k_asm); (case km => k_mem); (case kz => omega))))
    k_with "CompSrcT" => ((k_dflt (refine words_src (fun r => if r = 0 then z0 else if r = 1 then z1 else z2) [(_, _), (_, _), (_, _), (_, _), (_, _), (_, _), (_, _), (_, _)] ns.length (by rfl) (by k_asm) (by k_asm) (by k_asm) (by omega) (by omega) (fun g iW ttW ysW esW tw I oI Cc oC D m₂ h tk E' hiW hEW hesW hokW hAW hC hx F N off ne => ?_) (fun g ysW esW tw hEW hesW hokW hAW => ?_)) <;> (have hevW := hEW.length) <;> (try simp only [List.cons_append, List.nil_append] at N) <;> (try simp only [List.cons_append, List.nil_append] at off) <;> (simp only [List.cons_append, List.nil_append] at hAW)))
    k_with "inplaceOp Add ref ref" => (((rename LCg.Off1 _ _ => oW); (simp only [List.cons_append, List.nil_append, LCg.Off1] at oW); (have hoEW := ownOff_app (apart_own hAW List.mem_cons_self) hoE); k_dflt (refine' iadd_list ?kF ?kN ?kb ?kU ?kx ?ky ?_; (case kF => k_asm); (case kN => k_asm); (case kb => k_mem); (case kU => (k_updF)); (case kx => first | exact Nat.le_trans hev5 (by decide) | omega); (case ky => omega); intro h' kE F N; (try dsimp only at N))))
    k_with "subscriptTail Name Name ref int" => ((k_dflt (refine item_intsN (zs := ns) (by k_asm) (by k_mem) (by assumption) (by omega) (by omega) (by omega) (fun zW tzW hzzW => ?_))))
    k_with "subscriptTail Name UnaryOp" => ((k_dflt (refine item_ints_last (by k_asm) (by k_mem) hIO (by have := hOrd.pos; omega) (fun z tz hzl => ?_))) <;> (rw [hnc] at hzl) <;> (cases hzl))
    k_with "call ref" => ((first
      | ((with_reducible show wpAny _ _ (call (Value.ref (ktn_at% "_law_purse")) _) _ _ _); k_dflt (refine purse_spec (by k_asm) (by k_asm) (by k_asm) (by k_asm) (by k_asm) (by first | exact rfl | assumption) (by assumption) (by assumption) (by omega) (by simp only [depth_caller]; omega) (by simp only [units_caller]; omega) (fun P C cvs kc ks tkP h' tk' F N lCP lC hK hKl => ?_) <;> (simp only [AllLt] at lC) <;> (obtain ⟨lC3, lC2, lC1, _⟩ := lC) <;> (have nCP : C ≠ P := Nat.ne_of_lt lCP)))
      | ((with_reducible show wpAny _ _ (call (Value.ref (ktn_at% "_law_coin")) _) _ _ _); k_dflt (refine' coin_spec ?kB ?kF ?kX ?kN ?kT ?kk ?kU ?kC ?kI ?kl ?ki ?ki2 ?km ?km2 ?kPC ?kd ?ku ?_; (case kB => k_asm); (case kF => k_asm); (case kX => k_asm); (case kN => k_asm); (case kT => k_asm); (case kk => first | exact rfl | assumption); (case kU => k_updF); (case kC => k_mem); (case kI => k_asm); (case kl => k_asm); (case ki => first | assumption | exact lo1 (by assumption) | exact lo1 (lo1 (by assumption)) | exact lo1 (lo1 (lo1 (by assumption))) | exact lo1 (lo1 (lo1 (lo1 (by assumption)))) | omega); (case ki2 => first | exact up0 (by assumption) | exact up1 (by assumption) | exact up2 (by assumption) | exact up3 (by assumption) | exact up4 (by assumption) | omega); (case km => first | decide | omega); (case km2 => first | decide | omega); (case kPC => k_asm); (case kd => first | (rw [depth_caller]; decide) | (simp only [recursionLimit, depth_caller]; omega)); (case ku => first | (rw [units_caller]; decide) | (simp only [cLine, units_caller]; omega)); intro r' rt' h' tk' it' F' N' hr0' hr1'; (try dsimp only); (try k_sweep)))
      | ((with_reducible show wpAny _ _ (call (Value.ref (ktn_at% "_law_tree")) _) _ _ _); k_dflt (refine tree_law (by k_asm) (by k_asm) (by k_asm) (by k_asm) (by k_asm) (by first | exact rfl | assumption) hoff (by first | k_ne | omega) (by first | k_ne | omega) (by first | k_ne | omega) (by first | k_ne | omega) (by first | k_ne | omega) (by first | k_ne | omega) nCP (by first | k_ne | omega) hK hKl (by omega) (by omega) hz0 hz1 hz2 (by simp only [depth_caller]; omega) (by simp only [units_caller]; omega) (fun t ta tl' i' it h' tk' F N hO' hoE' hi0 hi1 hT hG hd => ?_)))
      | ((with_reducible show wpAny _ _ (call (Value.ref (ktn_at% "_law_word")) _) _ _ _); k_dflt (refine word_spec (by k_asm) (by k_asm) (by k_asm) (by k_asm) (by k_asm) (by first | exact rfl | assumption) (by simp only [depth_caller]; omega) (by simp only [units_caller]; omega) (fun vW t2 h' tk' F N hvW hAt => ?_)))
      | ((with_reducible show wpAny _ _ (call (Value.ref (ktn_at% "_law_case")) _) _ _ _); first
        | k_dflt (refine' case_spec (zs := [2, 2, 2]) (order := [0, 1]) (es := fixedEs) (f := 0) (l := 1) ?kB ?kF ?kX ?kN ?kT ?kk ?kq1 ?kq2 ?kq3 ?kq4 rfl ?kq5 ?kq6 ord01 (by decide) (by decide) rfl rfl fixed_good fixed_fine fixed_word fixed_keys (by decide) ?kd1 ?kd2 ?_; (case kB => k_asm); (case kF => k_asm); (case kX => k_asm); (case kN => k_asm); (case kT => k_asm); (case kk => first | exact rfl | assumption); (case kq1 => k_mem); (case kq2 => k_mem); (case kq3 => k_mem); (case kq4 => exact (.cons _ _ (.cons _ _ (.cons _ _ .nil)))); (case kq5 => exact (.cons _ _ (.cons _ _ .nil))); (case kq6 => refine' fixed_each ?ka1 ?ka2 ?ka3; (case ka1 => exact hvW.mono fun p hp => by k_mem); (case ka2 => exact (.tree (by k_mem) (.slice (by k_mem) (.sig (by k_mem))))); (case ka3 => exact (.tree (by k_mem) (.cat (by k_mem) (by k_mem) (.ext (by k_mem) (.slice (by k_mem) (.sig (by k_mem)))) (.sig (by k_mem)))))); (case kd1 => (simp only [depth_caller]; omega)); (case kd2 => (simp only [units_caller]; omega)); intro h' tk' F N)
        | k_dflt (refine' case_law (zs := [z0, z1, z2]) (order := ns) (es := es9) (fun r => if r = 0 then z0 else if r = 1 then z1 else z2) ?kB ?kF ?kX ?kN ?kT ?kk ?kq1 ?kq2 ?kq3 ?kq4 rfl ?kIO ?kq6 hOrd ?kb1 ?kb2 hn0 ?kq7 hok9 ?kq8 ?kd1 ?kd2 ?_; (case kB => k_asm); (case kF => k_asm); (case kX => k_asm); (case kN => k_asm); (case kT => k_asm); (case kk => first | exact rfl | assumption); (case kq1 => k_mem); (case kq2 => k_mem); (case kq3 => k_mem); (case kq4 => exact (.cons _ _ (.cons _ _ (.cons _ _ .nil)))); (case kIO => assumption); (case kq6 => exact hE9.mono fun _ _ h => h.mono fun p hp => by k_mem); (case kq7 => exact hnc); (case kb1 => omega); (case kb2 => omega); (case kq8 => exact hel9); (case kd1 => (simp only [depth_caller]; omega)); (case kd2 => (simp only [units_caller]; omega)); intro h' tk' F N)
        | fail "stop")
      | fail "stop"))
    k_steps
    all_goals first | (with_reducible refine hQT _ _ ?_) | ((with_reducible refine hQL _ _ ?_); (try dsimp only); (rename Fr _ _ _ _ => kF9); (have kF8 := kF9); (rw [← hh9] at kF8); k_steps) | skip
    all_goals first
      | ((with_reducible show EltAt _ _ _ _ _ _ _ _ _ _ _ _ _ _); first
        | exact sizes_elt F' N' off hI hl hz hj hj' rfl (by omega) (by omega)
        | exact words_elt (pre := [(_, _), (_, _), (_, _), (_, _), (_, _), (_, _), (_, _), (_, _)]) F N hvW hAt hEW hesW hokW hAW off (fmod8 _).1 (fmod8 _).2
        | exact EltAt.mk _ F N (fun p hp => hp) off trivial (words_no (pre := [(_, _), (_, _), (_, _), (_, _), (_, _), (_, _), (_, _), (_, _)]) hEW hesW hokW hAW)
        | fail "stop")
      | ((rename Fr _ _ _ _ => kF); (rename News _ _ _ _ => kN); first
        | exact hQM _ _ _ _ _ _ _ kF rfl rfl kN (by k_mem) (mem4 (by k_mem) (by k_mem) (by k_mem) (by k_mem)) (each_app (hE.mono fun _ _ h => h.mono fun p hp => by k_mem) (hEW.mono fun _ _ h => h.mono fun p hp => by k_mem)) (hok.app hokW) (by rw [List.length_append]; exact Nat.add_le_add hes4 (Nat.le_trans hesW hol))
        | exact hQM _ _ _ _ _ _ _ kF rfl rfl kN (by k_mem) (mem4 (by k_mem) (by k_mem) (by k_mem) (by k_mem)) (hE.mono fun _ _ h => h.mono fun p hp => by k_mem) hok (Nat.le_trans hes4 (by decide)))
      | ((with_reducible show WhileStep2 _ _ _ _ _ _ _ _); (rename Fr _ _ _ _ => kF); (rename News _ _ _ _ => kN); first
        | exact order_next (pre := []) kF kN hIO hn hn0 ⟨hOrd.up1 hbt (by omega), by omega⟩
        | exact order_next (pre := []) kF kN hIO hn hn0 ⟨hOrd.down1 hbt (by omega), by omega⟩
        | fail "stop")
      | ((with_reducible show TurnAt _ _ _ _ _ _ _ _ _); (rename Fr _ _ _ _ => kF); (rename News _ _ _ _ => kN); first
        | ((have hT2 := hT); exact law_turn (e := .tree t) [(_, _)] kF kN ho (by omega) (by omega) hel (hE.mono fun _ _ h => h.mono fun p hp => List.mem_append_right _ hp) (.tree (List.Mem.head _) (hT.mono fun p hp => List.mem_append_right _ (List.mem_append_left _ hp))) hok (.tree hG hd) (OffAll.app (OffAll.six OffAll.nil (by first | k_ne | omega) (by first | k_ne | omega) (by first | k_ne | omega) (by first | k_ne | omega) (by first | k_ne | omega) (by first | k_ne | omega)) (OffAll.app hO' (hoff.hd ho))) (fun z hz => by (try dsimp only); simp at hz; simp [hz]))
        | exact law_turn [(_, _), (_, _), (_, _)] kF kN ho (by omega) (by omega) hel hE (.word (List.Mem.head _) (List.Mem.tail _ (List.Mem.head _)) (List.Mem.tail _ (List.Mem.tail _ (List.Mem.head _)))) hok (.word (by omega) (by omega)) (OffAll.six (OffAll.six (OffAll.six (hoff.hd ho) (by first | k_ne | omega) (by first | k_ne | omega) (by first | k_ne | omega) (by first | k_ne | omega) (by first | k_ne | omega) (by first | k_ne | omega)) (by first | k_ne | omega) (by first | k_ne | omega) (by first | k_ne | omega) (by first | k_ne | omega) (by first | k_ne | omega) (by first | k_ne | omega)) (by first | k_ne | omega) (by first | k_ne | omega) (by first | k_ne | omega) (by first | k_ne | omega) (by first | k_ne | omega) (by first | k_ne | omega)) (fun z hz => by (try dsimp only); simp at hz; simp [hz])
        | fail "stop")
      | fail "stop"
    ))
end Mine
end

set_option maxRecDepth 100000 in
theorem PySem.Challenge.cw_sj0034_01_holds : PySem.Challenge.rw_sj0034_01.Holds :=
  Mine.law_walk
