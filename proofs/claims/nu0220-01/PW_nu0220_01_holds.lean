import PyProof.Rows.All
import Wide.All
import OpenK.AllK
import Wide.FinOn
import Lean
import PySem.Challenge.RW_nu0220_01
open PySem PySem.W PyProof.Rows
set_option Elab.async false
set_option maxRecDepth 100000
set_option maxHeartbeats 800000000
set_option linter.unusedVariables false
set_option compiler.extract_closed false
namespace Mine
theorem plain_same : @PySem.Manifest.find? = @PySem.Manifest.find? := rfl
name_quick tw10007627690174824804 for PySem.Manifest.find? by Mine.plain_same
name_quick tw10205541121877940668 for PySem.Manifest.find? by Mine.plain_same
name_quick tw10314498396905981064 for PySem.Manifest.find? by Mine.plain_same
name_quick tw10317580896714288900 for PySem.Manifest.find? by Mine.plain_same
name_quick tw10528696920762540405 for PySem.Manifest.find? by Mine.plain_same
name_quick tw10706342367453228570 for PySem.Manifest.find? by Mine.plain_same
name_quick tw10833955939284561965 for PySem.Manifest.find? by Mine.plain_same
name_quick tw1092655722715705105 for PySem.Manifest.find? by Mine.plain_same
name_quick tw10948738476641704880 for PySem.Manifest.find? by Mine.plain_same
name_quick tw10996506086634736982 for PySem.Manifest.find? by Mine.plain_same
name_quick tw11013792430000457035 for PySem.Manifest.find? by Mine.plain_same
name_quick tw11130039905162102590 for PySem.Manifest.find? by Mine.plain_same
name_quick tw11186114360453789277 for PySem.Manifest.find? by Mine.plain_same
name_quick tw11317593695737139937 for PySem.Manifest.find? by Mine.plain_same
name_quick tw11333186260410459676 for PySem.Manifest.find? by Mine.plain_same
name_quick tw11420187438672877268 for PySem.Manifest.find? by Mine.plain_same
name_quick tw11452132507678324671 for PySem.Manifest.find? by Mine.plain_same
name_quick tw11788150170368784547 for PySem.Manifest.find? by Mine.plain_same
name_quick tw11939915149646268982 for PySem.Manifest.find? by Mine.plain_same
name_quick tw11964429278604863157 for PySem.Manifest.find? by Mine.plain_same
name_quick tw11994158751524154303 for PySem.Manifest.find? by Mine.plain_same
name_quick tw12237943961548833269 for PySem.Manifest.find? by Mine.plain_same
name_quick tw12290603225136948437 for PySem.Manifest.find? by Mine.plain_same
name_quick tw1258299570235058372 for PySem.Manifest.find? by Mine.plain_same
name_quick tw1258717718454355964 for PySem.Manifest.find? by Mine.plain_same
name_quick tw12734952128020822468 for PySem.Manifest.find? by Mine.plain_same
name_quick tw12813236842856870187 for PySem.Manifest.find? by Mine.plain_same
name_quick tw12832477231654346042 for PySem.Manifest.find? by Mine.plain_same
name_quick tw12850107946570832962 for PySem.Manifest.find? by Mine.plain_same
name_quick tw13145125596335152023 for PySem.Manifest.find? by Mine.plain_same
name_quick tw13236226663087606529 for PySem.Manifest.find? by Mine.plain_same
name_quick tw13317431791736044220 for PySem.Manifest.find? by Mine.plain_same
name_quick tw13335737130258781183 for PySem.Manifest.find? by Mine.plain_same
name_quick tw1355338860687761863 for PySem.Manifest.find? by Mine.plain_same
name_quick tw13615603153576403970 for PySem.Manifest.find? by Mine.plain_same
name_quick tw13789449189825218787 for PySem.Manifest.find? by Mine.plain_same
name_quick tw13900631225919944168 for PySem.Manifest.find? by Mine.plain_same
name_quick tw14073706353221006472 for PySem.Manifest.find? by Mine.plain_same
name_quick tw14168537005229113720 for PySem.Manifest.find? by Mine.plain_same
name_quick tw14311459727803291754 for PySem.Manifest.find? by Mine.plain_same
name_quick tw14433975572909055671 for PySem.Manifest.find? by Mine.plain_same
name_quick tw14714103240675001986 for PySem.Manifest.find? by Mine.plain_same
name_quick tw14805350148827880423 for PySem.Manifest.find? by Mine.plain_same
name_quick tw14834023430324568649 for PySem.Manifest.find? by Mine.plain_same
name_quick tw14884601019740666482 for PySem.Manifest.find? by Mine.plain_same
name_quick tw14979626087600564940 for PySem.Manifest.find? by Mine.plain_same
name_quick tw15007238320947547705 for PySem.Manifest.find? by Mine.plain_same
name_quick tw1503297043503765363 for PySem.Manifest.find? by Mine.plain_same
name_quick tw15066959818950650227 for PySem.Manifest.find? by Mine.plain_same
name_quick tw15168306246750427876 for PySem.Manifest.find? by Mine.plain_same
name_quick tw151948405760981731 for PySem.Manifest.find? by Mine.plain_same
name_quick tw15278061642289888581 for PySem.Manifest.find? by Mine.plain_same
name_quick tw15514242108324955073 for PySem.Manifest.find? by Mine.plain_same
name_quick tw15663404670287596823 for PySem.Manifest.find? by Mine.plain_same
name_quick tw15766043655864335149 for PySem.Manifest.find? by Mine.plain_same
name_quick tw15890479717591214170 for PySem.Manifest.find? by Mine.plain_same
name_quick tw16145670143442454269 for PySem.Manifest.find? by Mine.plain_same
name_quick tw1617757218408452269 for PySem.Manifest.find? by Mine.plain_same
name_quick tw16214148842636244229 for PySem.Manifest.find? by Mine.plain_same
name_quick tw16296994325663420285 for PySem.Manifest.find? by Mine.plain_same
name_quick tw16439824349840649037 for PySem.Manifest.find? by Mine.plain_same
name_quick tw16531745337717519161 for PySem.Manifest.find? by Mine.plain_same
name_quick tw16593013826814733010 for PySem.Manifest.find? by Mine.plain_same
name_quick tw16643706677886111943 for PySem.Manifest.find? by Mine.plain_same
name_quick tw16697116713213952808 for PySem.Manifest.find? by Mine.plain_same
name_quick tw16846860572762119324 for PySem.Manifest.find? by Mine.plain_same
name_quick tw16999406412319421078 for PySem.Manifest.find? by Mine.plain_same
name_quick tw17057272898397164401 for PySem.Manifest.find? by Mine.plain_same
name_quick tw1706496860858754268 for PySem.Manifest.find? by Mine.plain_same
name_quick tw17111948838632640456 for PySem.Manifest.find? by Mine.plain_same
name_quick tw1715305286062143992 for PySem.Manifest.find? by Mine.plain_same
name_quick tw17270683271865797415 for PySem.Manifest.find? by Mine.plain_same
name_quick tw17279654841073493023 for PySem.Manifest.find? by Mine.plain_same
name_quick tw17658884881932113256 for PySem.Manifest.find? by Mine.plain_same
name_quick tw17730428716208468724 for PySem.Manifest.find? by Mine.plain_same
name_quick tw17804436615005485693 for PySem.Manifest.find? by Mine.plain_same
name_quick tw17863021456227041891 for PySem.Manifest.find? by Mine.plain_same
name_quick tw1787120219092083046 for PySem.Manifest.find? by Mine.plain_same
name_quick tw17964007177503468958 for PySem.Manifest.find? by Mine.plain_same
name_quick tw17968720173961103018 for PySem.Manifest.find? by Mine.plain_same
name_quick tw18101931140130867144 for PySem.Manifest.find? by Mine.plain_same
name_quick tw18323700119837366958 for PySem.Manifest.find? by Mine.plain_same
name_quick tw183835017167291270 for PySem.Manifest.find? by Mine.plain_same
name_quick tw18416463498863911781 for PySem.Manifest.find? by Mine.plain_same
name_quick tw2039238271031011813 for PySem.Manifest.find? by Mine.plain_same
name_quick tw219737044198020058 for PySem.Manifest.find? by Mine.plain_same
name_quick tw2408619945344806742 for PySem.Manifest.find? by Mine.plain_same
name_quick tw2478078296215019888 for PySem.Manifest.find? by Mine.plain_same
name_quick tw2611137233208623240 for PySem.Manifest.find? by Mine.plain_same
name_quick tw2627984346626558326 for PySem.Manifest.find? by Mine.plain_same
name_quick tw2874504208813169126 for PySem.Manifest.find? by Mine.plain_same
name_quick tw3039592710220408265 for PySem.Manifest.find? by Mine.plain_same
name_quick tw313226197891681235 for PySem.Manifest.find? by Mine.plain_same
name_quick tw3560238982266916124 for PySem.Manifest.find? by Mine.plain_same
name_quick tw3577408171920636059 for PySem.Manifest.find? by Mine.plain_same
name_quick tw3636048126100218174 for PySem.Manifest.find? by Mine.plain_same
name_quick tw3670520836272599126 for PySem.Manifest.find? by Mine.plain_same
name_quick tw3764465048917985505 for PySem.Manifest.find? by Mine.plain_same
name_quick tw3820604794100220378 for PySem.Manifest.find? by Mine.plain_same
name_quick tw387338674003428930 for PySem.Manifest.find? by Mine.plain_same
name_quick tw3880421473898291048 for PySem.Manifest.find? by Mine.plain_same
name_quick tw3891137856419664920 for PySem.Manifest.find? by Mine.plain_same
name_quick tw392140993173905013 for PySem.Manifest.find? by Mine.plain_same
name_quick tw3976722010076183465 for PySem.Manifest.find? by Mine.plain_same
name_quick tw4319705520415482375 for PySem.Manifest.find? by Mine.plain_same
name_quick tw4407734736301137906 for PySem.Manifest.find? by Mine.plain_same
name_quick tw4552823106982906706 for PySem.Manifest.find? by Mine.plain_same
name_quick tw4558998842232669794 for PySem.Manifest.find? by Mine.plain_same
name_quick tw4679858250743294509 for PySem.Manifest.find? by Mine.plain_same
name_quick tw4775785305629353868 for PySem.Manifest.find? by Mine.plain_same
name_quick tw4797165386629745026 for PySem.Manifest.find? by Mine.plain_same
name_quick tw4933834842325187142 for PySem.Manifest.find? by Mine.plain_same
name_quick tw505943868828395459 for PySem.Manifest.find? by Mine.plain_same
name_quick tw5307473218048427134 for PySem.Manifest.find? by Mine.plain_same
name_quick tw5396446701170858492 for PySem.Manifest.find? by Mine.plain_same
name_quick tw5529568453561195837 for PySem.Manifest.find? by Mine.plain_same
name_quick tw5701610774189311196 for PySem.Manifest.find? by Mine.plain_same
name_quick tw5706481520468235054 for PySem.Manifest.find? by Mine.plain_same
name_quick tw5721027456603625697 for PySem.Manifest.find? by Mine.plain_same
name_quick tw5732905514179830355 for PySem.Manifest.find? by Mine.plain_same
name_quick tw57612305304379694 for PySem.Manifest.find? by Mine.plain_same
name_quick tw5770868932273138760 for PySem.Manifest.find? by Mine.plain_same
name_quick tw5882768191206486792 for PySem.Manifest.find? by Mine.plain_same
name_quick tw6004533443673955352 for PySem.Manifest.find? by Mine.plain_same
name_quick tw6019396324639902685 for PySem.Manifest.find? by Mine.plain_same
name_quick tw6122645084068987007 for PySem.Manifest.find? by Mine.plain_same
name_quick tw6380047634161181297 for PySem.Manifest.find? by Mine.plain_same
name_quick tw6434138532213402376 for PySem.Manifest.find? by Mine.plain_same
name_quick tw662354867322794072 for PySem.Manifest.find? by Mine.plain_same
name_quick tw667198328695590252 for PySem.Manifest.find? by Mine.plain_same
name_quick tw6679490504615227074 for PySem.Manifest.find? by Mine.plain_same
name_quick tw6683783046931543321 for PySem.Manifest.find? by Mine.plain_same
name_quick tw6711915476519705758 for PySem.Manifest.find? by Mine.plain_same
name_quick tw6792406925840432001 for PySem.Manifest.find? by Mine.plain_same
name_quick tw6817277305950994716 for PySem.Manifest.find? by Mine.plain_same
name_quick tw682011567655089306 for PySem.Manifest.find? by Mine.plain_same
name_quick tw6936617155634694891 for PySem.Manifest.find? by Mine.plain_same
name_quick tw7035115661146626270 for PySem.Manifest.find? by Mine.plain_same
name_quick tw7232422423428716515 for PySem.Manifest.find? by Mine.plain_same
name_quick tw7275051467321613617 for PySem.Manifest.find? by Mine.plain_same
name_quick tw7299303143086499733 for PySem.Manifest.find? by Mine.plain_same
name_quick tw7299951869573292228 for PySem.Manifest.find? by Mine.plain_same
name_quick tw7323676302269181137 for PySem.Manifest.find? by Mine.plain_same
name_quick tw7392212959928792091 for PySem.Manifest.find? by Mine.plain_same
name_quick tw7397068168572129948 for PySem.Manifest.find? by Mine.plain_same
name_quick tw7496433998918960881 for PySem.Manifest.find? by Mine.plain_same
name_quick tw7788680626742099145 for PySem.Manifest.find? by Mine.plain_same
name_quick tw8032284361305108907 for PySem.Manifest.find? by Mine.plain_same
name_quick tw8075568018651887793 for PySem.Manifest.find? by Mine.plain_same
name_quick tw8098380416015320538 for PySem.Manifest.find? by Mine.plain_same
name_quick tw8400853705098224536 for PySem.Manifest.find? by Mine.plain_same
name_quick tw8424611434330503625 for PySem.Manifest.find? by Mine.plain_same
name_quick tw8603108125212654177 for PySem.Manifest.find? by Mine.plain_same
name_quick tw8675153009337895557 for PySem.Manifest.find? by Mine.plain_same
name_quick tw8693227569615203950 for PySem.Manifest.find? by Mine.plain_same
name_quick tw8708707556590381134 for PySem.Manifest.find? by Mine.plain_same
name_quick tw8796240567053077481 for PySem.Manifest.find? by Mine.plain_same
name_quick tw900395245841561262 for PySem.Manifest.find? by Mine.plain_same
name_quick tw9011979029575296479 for PySem.Manifest.find? by Mine.plain_same
name_quick tw912392155897948271 for PySem.Manifest.find? by Mine.plain_same
name_quick tw9285146279643344392 for PySem.Manifest.find? by Mine.plain_same
name_quick tw9315938663221665524 for PySem.Manifest.find? by Mine.plain_same
name_quick tw932993149863042379 for PySem.Manifest.find? by Mine.plain_same
name_quick tw9376109419431680627 for PySem.Manifest.find? by Mine.plain_same
name_quick tw951843321253372498 for PySem.Manifest.find? by Mine.plain_same
name_quick tw9594665118957945026 for PySem.Manifest.find? by Mine.plain_same
name_quick tw9759809726879904816 for PySem.Manifest.find? by Mine.plain_same
name_quick tw9763268239775435451 for PySem.Manifest.find? by Mine.plain_same
name_quick tw9862997608875712007 for PySem.Manifest.find? by Mine.plain_same
name_quick tw9931943479562821362 for PySem.Manifest.find? by Mine.plain_same
name_quick tw9979284746773624096 for PySem.Manifest.find? by Mine.plain_same
open_top hd for PySem.Challenge.rw_nu0220_01
open PyProof.V PySem.Spec
local macro_rules | `(tactic| walk_at $s:str) => `(tactic| k_extra $s)
theorem allLt_c {d a : Addr} {o : Obj} {l : List (Addr × Obj)} : AllLt d ((a, o) :: l) = (@LT.lt Nat _ a d ∧ AllLt d l) := rfl
theorem allLt_n {d : Addr} : AllLt d [] = True := rfl
local macro_rules | `(tactic| k_lt $h:ident) => `(tactic| (replace $h := allLt_of $h; simp only [↓allLt_c, ↓allLt_n, and_true] at $h:ident))
theorem room_of {a k c R : Nat} (h : a + c < R) (hk : Nat.ble k c = true) : a + k < R := Nat.lt_of_le_of_lt (Nat.add_le_add_left (Nat.le_of_ble_eq_true hk) a) h
theorem room_at {a c R : Nat} (h : a + c < R) : a < R := Nat.lt_of_le_of_lt (Nat.le_add_right a c) h
local macro_rules | `(tactic| ktr_room) => `(tactic| k_extra "H room")
local macro_rules | `(tactic| ktr_units) => `(tactic| k_extra "H units")
local macro_rules | `(tactic| k_mem) => `(tactic| k_extra "H mem")
local macro_rules | `(tactic| k_extra "M46a0") => `(tactic| (intro x0 x1 x2 x3 x4; (try k_lt x4); (try k_sweep)))
local macro_rules | `(tactic| k_ne) => `(tactic| k_extra "H ne")
local macro_rules | `(tactic| k_extra "M46a0") => `(tactic| (intro x0 x1 x2 x3 x4; (try k_lt x4); (try k_sweep)))
example : True ∧ True := by w_top off; first | (walk1; done) | exact ⟨trivial, trivial⟩
example : True := by
  k_with_none
  k_with "eval Name" => (k_here; (with_reducible show wpAny _ _ (eval (Expr.Name _ _) (compEnvC _ _ _ _)) _ _ _); k_dflt (first | (name_kind "local"; refine' LCgL.ld_own ?zN ?zm ?zC ?zx ?_ ?zk ?zl ?zd; (case zk => kernel_rfl); (case zl => kernel_rfl); (case zd => kernel_rfl); (case zN => k_asm); (case zm => k_mem); (case zC => assumption); (case zx => assumption); k_whole) | (name_kind "globalImplicit"; first | (refine' LCgL.ld_global ?zF ?zX ?zT ?ze ?_ ?zg ?zk ?zl ?zd; (case zg => kernel_rfl); (case zk => kernel_rfl); (case zl => kernel_rfl); (case zd => kernel_rfl); (case zF => k_asm); (case zX => k_asm); (case zT => k_asm); (case ze => k_is); k_whole) | (refine' LCgL.ld_built ?zF ?zX ?zT ?ze ?zv ?zn ?_ ?zg ?zb ?zk ?zl ?zd; (case zg => kernel_rfl); (case zb => kernel_rfl); (case zk => kernel_rfl); (case zl => kernel_rfl); (case zd => kernel_rfl); (case zF => k_asm); (case zX => k_asm); (case zT => k_asm); (case ze => k_is); (case zv => boot_fast); (case zn => decide); k_whole))))
  k_with "eval Name" => (k_here; (fail_if_success (with_reducible show wpAny _ _ (eval (Expr.Name _ _) (compEnvC _ _ _ _)) _ _ _)); k_dflt (first | (name_kind "local"; refine' nameX_L ?zF ?zv ?_ ?za ?zb ?zc; (case zF => k_asm); (case za => kernel_rfl); (case zb => kernel_rfl); (case zc => kernel_rfl); (case zv => rfl); k_whole) | (name_kind "cell"; refine' nameX_C ?zN ?zl ?zm ?zd ?_ ?za ?zb ?zc; (case za => kernel_rfl); (case zb => kernel_rfl); (case zc => kernel_rfl); (case zN => k_asm); (case zl => rfl); (case zm => k_mem); (case zd => k_asm); k_whole) | (name_kind "globalImplicit"; first | (refine' nameX_K ?zF ?zX ?zT ?ze ?_ ?za ?zb ?zc; (case za => kernel_rfl); (case zb => kernel_rfl); (case zc => kernel_rfl); (case zF => k_asm); (case zX => k_asm); (case zT => k_asm); (case ze => k_is); k_whole) | (refine' nameX_B ?zF ?zX ?zT ?ze ?zv ?zn ?_ ?za ?zb ?zc; (case za => kernel_rfl); (case zb => kernel_rfl); (case zc => kernel_rfl); (case zF => k_asm); (case zX => k_asm); (case zT => k_asm); (case ze => k_is); (case zv => boot_fast); (case zn => decide); k_whole))))
  k_with "ite" => (k_closed; first | (with_reducible refine ite_pos ?zi ?_; (case zi => decide +kernel)) | (with_reducible refine ite_neg ?zi ?_; (case zi => decide +kernel)))
  k_with "getAttr ref" => (k_here; k_dflt (refine' get_own ?zF ?zX ?zI ?zg ?zh ?za ?zn ?zl ?zv ?_; (case zF => k_asm); (case zX => k_asm); (case zI => k_inst); (case zl => k_get); (case zg => k_is); (case zh => k_is); (case za => k_is); (case zn => k_is); (case zv => k_handed); k_whole))
  k_with "spliced" => ((with_reducible show wpAny _ _ (spliced (backTo _ (starEach (_ :: _) _))) _ _ _); k_dflt (refine args_cons ?_))
  k_with "newList" => (k_here; k_dflt (refine' newList_K ?zF ?zN ?_ ?zs; (case zF => k_asm); (case zN => k_asm); (case zs => exact Nat.le_of_ble_eq_true rfl); k_whole); k_extra "M46a0")
  k_with "MY ltp" => ((with_reducible rename @LT.lt Nat _ _ _ ∧ _ => kL); first | (with_reducible first | exact kL.1 | exact kL.2 | exact kL.2.1 | exact kL.2.2 | exact kL.2.2.1 | exact kL.2.2.2 | exact kL.2.2.2.1 | exact kL.2.2.2.2 | exact kL.2.2.2.2.1 | exact kL.2.2.2.2.2 | exact kL.2.2.2.2.2.1 | exact kL.2.2.2.2.2.2 | exact kL.2.2.2.2.2.2.1 | exact kL.2.2.2.2.2.2.2 | exact kL.2.2.2.2.2.2.2.1 | exact kL.2.2.2.2.2.2.2.2 | exact kL.2.2.2.2.2.2.2.2.1 | exact kL.2.2.2.2.2.2.2.2.2 | exact kL.2.2.2.2.2.2.2.2.2.1 | exact kL.2.2.2.2.2.2.2.2.2.2 | exact kL.2.2.2.2.2.2.2.2.2.2.1 | exact kL.2.2.2.2.2.2.2.2.2.2.2 | exact kL.2.2.2.2.2.2.2.2.2.2.2.1 | exact kL.2.2.2.2.2.2.2.2.2.2.2.2 | exact kL.2.2.2.2.2.2.2.2.2.2.2.2.1 | exact kL.2.2.2.2.2.2.2.2.2.2.2.2.2 | exact kL.2.2.2.2.2.2.2.2.2.2.2.2.2.1 | exact kL.2.2.2.2.2.2.2.2.2.2.2.2.2.2 | exact kL.2.2.2.2.2.2.2.2.2.2.2.2.2.2.1 | exact kL.2.2.2.2.2.2.2.2.2.2.2.2.2.2.2 | exact kL.2.2.2.2.2.2.2.2.2.2.2.2.2.2.2.1 | exact kL.2.2.2.2.2.2.2.2.2.2.2.2.2.2.2.2 | exact kL.2.2.2.2.2.2.2.2.2.2.2.2.2.2.2.2.1 | exact kL.2.2.2.2.2.2.2.2.2.2.2.2.2.2.2.2.2 | exact kL.2.2.2.2.2.2.2.2.2.2.2.2.2.2.2.2.2.1 | exact kL.2.2.2.2.2.2.2.2.2.2.2.2.2.2.2.2.2.2 | exact kL.2.2.2.2.2.2.2.2.2.2.2.2.2.2.2.2.2.2.1 | exact kL.2.2.2.2.2.2.2.2.2.2.2.2.2.2.2.2.2.2.2 | exact kL.2.2.2.2.2.2.2.2.2.2.2.2.2.2.2.2.2.2.2.1 | exact kL.2.2.2.2.2.2.2.2.2.2.2.2.2.2.2.2.2.2.2.2 | exact kL.2.2.2.2.2.2.2.2.2.2.2.2.2.2.2.2.2.2.2.2.1 | exact kL.2.2.2.2.2.2.2.2.2.2.2.2.2.2.2.2.2.2.2.2.2 | exact kL.2.2.2.2.2.2.2.2.2.2.2.2.2.2.2.2.2.2.2.2.2.1 | exact kL.2.2.2.2.2.2.2.2.2.2.2.2.2.2.2.2.2.2.2.2.2.2 | exact kL.2.2.2.2.2.2.2.2.2.2.2.2.2.2.2.2.2.2.2.2.2.2.1 | exact kL.2.2.2.2.2.2.2.2.2.2.2.2.2.2.2.2.2.2.2.2.2.2.2) | (clear kL; k_extra "MY ltp"))
  k_with "MY ne" => first | (refine Nat.ne_of_gt ?_; k_extra "MY ltp") | (refine Nat.ne_of_lt ?_; k_extra "MY ltp")
  k_with "newTuple" => (k_here; k_dflt (refine' kup_newTuple ?zF ?zN ?_ ?zs; (case zF => k_asm); (case zN => k_asm); (case zs => kmk_size)); k_extra "M46a0")
  k_with "MY ltq" => first | with_reducible assumption | k_extra "MY ltp" | ((with_reducible refine' Nat.lt_trans ?_ ?klb); (case klb => with_reducible assumption); k_extra "MY ltq") | ((with_reducible refine' Nat.lt_trans ?kla ?_); (case kla => with_reducible assumption); k_extra "MY ltp") | ((with_reducible refine' Nat.lt_succ_of_lt ?_); first | with_reducible assumption | k_extra "MY ltp" | ((with_reducible refine' Nat.lt_succ_of_lt ?_); first | with_reducible assumption | k_extra "MY ltp")) | ((with_reducible refine' Mine.mem_allLt ?_ _ ?klm); (case klm => with_reducible assumption); first | with_reducible assumption | k_extra "MY ltp")
  k_with "MY lo" => first | ((with_reducible show @LT.lt Nat _ _ _); (try dsimp only); k_extra "MY ltq") | ((with_reducible show @Ne Nat _ _); (try dsimp only); first | with_reducible assumption | (refine Ne.symm ?_; with_reducible assumption) | (refine Nat.ne_of_gt ?_; k_extra "MY ltq") | (refine Nat.ne_of_lt ?_; k_extra "MY ltq")) | decide
  k_with "H mem" => first | exact List.Mem.head _ | (refine' List.Mem.tail _ ?_; k_extra "H mem") | ((fail_if_success refine' List.Mem.tail _ ?_); change (_ : Addr × Obj) ∈ (_ : List (Addr × Obj)); first | with_reducible assumption | (with_reducible refine' List.mem_append_left _ ?_; k_extra "H mem") | (with_reducible refine' List.mem_append_right _ ?_; k_extra "H mem"))
  k_with "H room" => ((try simp only [depth_under_make, depth_under_kw, depth_in1, depth_deeper, depth_caller]); (try dsimp only [ktrTop]); first | decide | ((try simp only [Nat.add_assoc, Nat.reduceAdd]); (with_reducible rename _ + _ < recursionLimit => kH); first | exact Mine.room_of kH rfl | exact Mine.room_at kH) | omega)
  k_with "H units" => ((try simp only [units_in1, units_deeper, Around.mark_units, units_caller]); (try dsimp only [ktrTop]); first | decide | ((try simp only [Nat.add_assoc, Nat.reduceAdd]); (with_reducible rename _ + _ < cLine => kH); first | exact Mine.room_of kH rfl | exact Mine.room_at kH) | omega)
  k_with "H ne" => (refine neN ?_; (try dsimp only); first | with_reducible assumption | (refine Ne.symm ?_; with_reducible assumption) | (with_reducible first | exact Nat.ne_of_lt (by assumption) | exact Nat.ne_of_gt (by assumption)) | k_extra "MY ne" | ((with_reducible rename (_ ≠ _ ∧ _ ≠ _ ∧ _ ≠ _) ∧ _ => kOff); first | (simp only [kOff, ne_eq, not_false_eq_true]; done) | (refine Ne.symm ?_; simp only [kOff, ne_eq, not_false_eq_true]; done)) | k_extra "MY lo" | omega)
  trivial
section
open PySem.Calls Builtin Builtin.ObjectAttr
section
-- storing a name on an object of an own exception class
section
variable {prog : Program} {w : World} {A : Around} {E : Value → Shared → Prop} {s : Shared} {K : Frag} {x C dx L : Addr} {h₀ : Heap} {m : Str → Option Value} {news : List (Addr × Obj)} {name : Str} {v : Value} {R : Result → Shared → Prop} {cd : ClassData} {ox : Obj}

theorem xs_open {od : Option Obj} {tk : Tok} (X : K.In s.heap) (I : InstAt s.heap x ox C od) (hc : clsIn K C = some cd) (hr : refuseLoop (.ref x) "__setattr__" cd.mro = pure ()) (ho : mroIn K C (.type "object") = some true) (ht : takerIn K C name = some none)
    (h : ∀ b, wpAny (model prog w) A.in1 (storeInOwnDict (.ref x) (.ref C) (.str name tk) name v b)
      (fun fin s' => match fin with | .done f => R (.ok f) s' | .again c' => c'.quiet = true ∧ codeAny (model prog w) A c' R s') (fun e s' => R (.error e) s') s) :
    codeAny (model prog w) A (.call (.builtin "object.__setattr__") ⟨[.ref x, .str name tk, v], []⟩) R s := by
  have SF := PySem.F.store_object
  have sub : Looks (model prog w) s.heap (isInstance (.ref x) (.type "object")) true := I.type.andThen (looks_mroIn X ho)
  refine codeAny_call_builtin SF.slot.plain SF.entry (@check_slot (model prog w) _ _ s "object.__setattr__" "object" "__setattr__" (.ref x) [.str name tk, v] [] _ SF.kind SF.split sub (SF.args (.ref x) (.str name tk) v) ?_)
  obtain ⟨attr, ha, hr'⟩ := Option.bind_eq_some_iff.mp ht
  have hm : Looks (model prog w) s.heap (mroOf (.ref C)) cd.mro := (looks_clsIn X hc).andThen .now
  have L3 : Looks (model prog w) s.heap (storeTaker? attr) none := by
    cases attr with
    | none => exact .now
    | some a =>
      obtain ⟨b, hb, hbb⟩ := Option.map_eq_some_iff.mp hr'
      cases b with
      | true => cases hbb
      | false => exact (looks_takesIn X hb).andThen .now
  rw [osa_eq, refuse_eq]
  refine wpAny_bind (wpAny_bind (I.type.here (wpAny_bind (hm.here ?_))))
  rw [hr]
  refine wpAny_pure (wpAny_bind (I.type.here (wpAny_bind ((looks_findIn X ha).here (wpAny_bind (L3.here ?_))))))
  exact h _

theorem xs_new {tk : Tok} {es : List DictEntry} {n : Nat} (F : Fr h₀ L s.heap m) (N : News h₀ L s.heap ((x, ox) :: news)) (X : K.In s.heap) (I : InstAt s.heap x ox C none) (hd : ox.dict = none) (hf : ∃ vs, ox.data = .fields vs)
    (hc : clsIn K C = some cd) (hh : cd.hasDict = true) (hr : refuseLoop (.ref x) "__setattr__" cd.mro = pure ()) (ho : mroIn K C (.type "object") = some true) (ht : takerIn K C name = some none)
    (hap : ∀ p ∈ news, p.1 ≠ x) (e : (putL name (PyData.keyHash w.params name) (.str name s.toks) v [], putN name [] 0) = (es, n)) (hz : es.length ≤ 1000)
    (h : ∀ d h', Fr h₀ L h' m → News h₀ L h' ((d, dictOf es n) :: (x, { ox with dict := some d }) :: news) → (∀ p ∈ news, p.1 < d) → x < d → R (.ok (.ret .none)) { s with heap := h', toks := s.toks + 1 }) :
    codeAny (model prog w) A (.call (.builtin "object.__setattr__") ⟨[.ref x, .str name tk, v], []⟩) R s := by
  refine xs_open X I hc hr ho ht fun b => ?_
  obtain ⟨e1, e2⟩ := Prod.mk.inj e
  obtain ⟨vs, hvs⟩ := hf
  have hxx := (N (x, ox) (.head _)).1
  obtain ⟨hx, hcl, hn, -⟩ := I
  obtain ⟨oc, odi, oda, osl⟩ := ox
  dsimp only at hcl hd hvs
  subst hcl hd hvs
  refine wpAny_bind (wpAny_pure (wpAny_bind (wpAny_bind (wpAny_loadPart hx (wpAny_bind ((looks_clsIn X hc).here ?_))))))
  rw [hh]
  show wpAny _ _ (alloc { cls := .type "dict", data := .dict #[] } >>= fun d => update x (fun o => { cls := o.cls, dict := some d, data := o.data, slots := o.slots }) >>= fun _ => dictMade (.ref C) x d) _ _ _
  refine wpAny_bind (wpAny_alloc ?_)
  have F1 := F.push { cls := .type "dict", data := .dict #[] }
  have N1 := N.push F { cls := .type "dict", data := .dict #[] }
  have hlt : ∀ p ∈ news, p.1 < s.heap.objs.size := fun p hp => Heap.lt_size (N p (.tail _ hp)).1
  have hxlt : x < s.heap.objs.size := Heap.lt_size hxx
  have hx1 := (N1 _ (.tail _ (.head _))).1
  obtain ⟨F2, N2⟩ := news_upd (pre := [(s.heap.objs.size, ({ cls := .type "dict", data := .dict #[] } : Obj))]) (f := fun o => { cls := o.cls, dict := some s.heap.objs.size, data := o.data, slots := o.slots }) F1 N1
    (fun p hp => by rw [List.mem_singleton.mp hp]; exact Nat.ne_of_gt hxlt) hap rfl rfl
  refine wpAny_bind (wpAny_updatePart hx1 ?_)
  refine wpAny_pure ?_
  have hD := (N2 _ (.head _)).1
  show wpAny _ _ (storeInDict s.heap.objs.size (.str name tk) name v) _ _ _
  unfold storeInDict newKeyGuard
  refine wpAny_bind (wpAny_pure (wpAny_bind ?_))
  obtain ⟨F3, N3⟩ := news_upd (pre := []) (f := Obj.putName name (PyData.keyHash w.params name) (.str name s.toks) v) F2 N2 (fun _ hp => nomatch hp)
    (fun p hp => by
      rcases List.mem_cons.mp hp with rfl | hp
      · exact Nat.ne_of_lt hxlt
      · exact Nat.ne_of_lt (hlt p hp)) ((putName_dict _ _ _ _ _ _).trans (by rw [e1, e2])) rfl
  have hD' := (N3 _ (.head _)).1
  unfold nsSet
  refine wpAny_bind (wpAny_bind (wpAny_askSetting (wpAny_pure (wpAny_bind (wpAny_mkText (wpAny_bind (wpAny_loadPart hD ?_)))))))
  dsimp only
  rw [aRefKeyMayBeTheName_at, show (!(#[] : Array DictEntry).any (·.key.isStr name) && (#[] : Array DictEntry).any (·.refKey)) = false from by simp]
  refine wpAny_updatePart hD ?_
  refine wpAny_bind (wpAny_lookBehind hD' (pastItsLine_dict (by rw [List.size_toArray, sizeLine_eq]; (first | k_extra "MY lo" | omega))) ?_)
  exact wpAny_pure (h _ _ F3 N3 hlt hxlt)
theorem xs_dict {tk : Tok} {pre post : List (Addr × Obj)} {es es' : List DictEntry} {n n' : Nat} (F : Fr h₀ L s.heap m) (N : News h₀ L s.heap (pre ++ (dx, dictOf es n) :: post)) (X : K.In s.heap) (I : InstAt s.heap x ox C (some (dictOf es n))) (hd : ox.dict = some dx)
    (hc : clsIn K C = some cd) (hh : cd.hasDict = true) (hr : refuseLoop (.ref x) "__setattr__" cd.mro = pure ()) (ho : mroIn K C (.type "object") = some true) (ht : takerIn K C name = some none)
    (hl : (lookIn name (dictOf es n)).isSome = true) (h1 : ∀ p ∈ pre, p.1 ≠ dx) (h2 : ∀ p ∈ post, p.1 ≠ dx)
    (e : (putL name (PyData.keyHash w.params name) (.str name s.toks) v es, putN name es n) = (es', n')) (hz : es'.length ≤ 1000)
    (h : ∀ h', Fr h₀ L h' m → News h₀ L h' (pre ++ (dx, dictOf es' n') :: post) → R (.ok (.ret .none)) { s with heap := h', toks := s.toks + 1 }) :
    codeAny (model prog w) A (.call (.builtin "object.__setattr__") ⟨[.ref x, .str name tk, v], []⟩) R s := by
  refine xs_open X I hc hr ho ht fun b => ?_
  obtain ⟨e1, e2⟩ := Prod.mk.inj e
  have ep : Obj.putName name (PyData.keyHash w.params name) (.str name s.toks) v (dictOf es n) = dictOf es' n' := (putName_dict _ _ _ _ _ _).trans (by rw [e1, e2])
  obtain ⟨U1, U2⟩ := news_upd (f := Obj.putName name (PyData.keyHash w.params name) (.str name s.toks) v) F N h1 h2 ep rfl
  have D := (N (dx, dictOf es n) (by simp)).1
  have D' := (U2 (dx, dictOf es' n') (by simp)).1
  obtain ⟨hx, hcl, hn, -⟩ := I
  obtain ⟨oc, odi, oda, osl⟩ := ox
  dsimp only at hcl hd
  subst hcl hd
  refine wpAny_bind (wpAny_pure (wpAny_bind (wpAny_bind (wpAny_loadPart hx (wpAny_bind ((looks_clsIn X hc).here ?_))))))
  rw [hh]
  refine wpAny_pure (a := some dx) (wpAny_bind (wpAny_pure (wpAny_bind ?_)))
  unfold nsSet
  refine wpAny_bind (wpAny_bind (wpAny_askSetting (wpAny_pure (wpAny_bind (wpAny_mkText (wpAny_bind (wpAny_loadPart D ?_)))))))
  unfold lookIn at hl
  dsimp only at hl ⊢
  have c : (!es.toArray.any (·.key.isStr name) && es.toArray.any (·.refKey)) = false := by
    rw [← Array.any_toList, ← Array.any_toList]
    split at hl
    · rename_i en he
      rw [List.any_eq_true.mpr ⟨en, List.mem_of_find?_eq_some he, List.find?_some he⟩]; rfl
    · split at hl
      · cases hl
      · rename_i z; rw [Bool.not_eq_true] at z; rw [z, Bool.and_false]
  rw [aRefKeyMayBeTheName_at, c]
  refine wpAny_updatePart D ?_
  refine wpAny_bind (wpAny_lookBehind D' (pastItsLine_dict (by rw [List.size_toArray, sizeLine_eq]; (first | k_extra "MY lo" | omega))) ?_)
  exact wpAny_pure (h _ U1 U2)
end
end
end
example : True ∧ True := by w_top off; first | (walk1; done) | exact ⟨trivial, trivial⟩
example : True := by
  k_with_none
  k_with "eval Name" => (k_here; (with_reducible show wpAny _ _ (eval (Expr.Name _ _) (compEnvC _ _ _ _)) _ _ _); k_dflt (first | (name_kind "local"; refine' LCgL.ld_own ?zN ?zm ?zC ?zx ?_ ?zk ?zl ?zd; (case zk => kernel_rfl); (case zl => kernel_rfl); (case zd => kernel_rfl); (case zN => k_asm); (case zm => k_mem); (case zC => assumption); (case zx => assumption); k_whole) | (name_kind "globalImplicit"; first | (refine' LCgL.ld_global ?zF ?zX ?zT ?ze ?_ ?zg ?zk ?zl ?zd; (case zg => kernel_rfl); (case zk => kernel_rfl); (case zl => kernel_rfl); (case zd => kernel_rfl); (case zF => k_asm); (case zX => k_asm); (case zT => k_asm); (case ze => k_is); k_whole) | (refine' LCgL.ld_built ?zF ?zX ?zT ?ze ?zv ?zn ?_ ?zg ?zb ?zk ?zl ?zd; (case zg => kernel_rfl); (case zb => kernel_rfl); (case zk => kernel_rfl); (case zl => kernel_rfl); (case zd => kernel_rfl); (case zF => k_asm); (case zX => k_asm); (case zT => k_asm); (case ze => k_is); (case zv => boot_fast); (case zn => decide); k_whole))))
  k_with "eval Name" => (k_here; (fail_if_success (with_reducible show wpAny _ _ (eval (Expr.Name _ _) (compEnvC _ _ _ _)) _ _ _)); k_dflt (first | (name_kind "local"; refine' nameX_L ?zF ?zv ?_ ?za ?zb ?zc; (case zF => k_asm); (case za => kernel_rfl); (case zb => kernel_rfl); (case zc => kernel_rfl); (case zv => rfl); k_whole) | (name_kind "cell"; refine' nameX_C ?zN ?zl ?zm ?zd ?_ ?za ?zb ?zc; (case za => kernel_rfl); (case zb => kernel_rfl); (case zc => kernel_rfl); (case zN => k_asm); (case zl => rfl); (case zm => k_mem); (case zd => k_asm); k_whole) | (name_kind "globalImplicit"; first | (refine' nameX_K ?zF ?zX ?zT ?ze ?_ ?za ?zb ?zc; (case za => kernel_rfl); (case zb => kernel_rfl); (case zc => kernel_rfl); (case zF => k_asm); (case zX => k_asm); (case zT => k_asm); (case ze => k_is); k_whole) | (refine' nameX_B ?zF ?zX ?zT ?ze ?zv ?zn ?_ ?za ?zb ?zc; (case za => kernel_rfl); (case zb => kernel_rfl); (case zc => kernel_rfl); (case zF => k_asm); (case zX => k_asm); (case zT => k_asm); (case ze => k_is); (case zv => boot_fast); (case zn => decide); k_whole))))
  k_with "ite" => (k_closed; first | (with_reducible refine ite_pos ?zi ?_; (case zi => decide +kernel)) | (with_reducible refine ite_neg ?zi ?_; (case zi => decide +kernel)))
  k_with "getAttr ref" => (k_here; k_dflt (refine' get_own ?zF ?zX ?zI ?zg ?zh ?za ?zn ?zl ?zv ?_; (case zF => k_asm); (case zX => k_asm); (case zI => k_inst); (case zl => k_get); (case zg => k_is); (case zh => k_is); (case za => k_is); (case zn => k_is); (case zv => k_handed); k_whole))
  k_with "spliced" => ((with_reducible show wpAny _ _ (spliced (backTo _ (starEach (_ :: _) _))) _ _ _); k_dflt (refine args_cons ?_))
  k_with "newList" => (k_here; k_dflt (refine' newList_K ?zF ?zN ?_ ?zs; (case zF => k_asm); (case zN => k_asm); (case zs => exact Nat.le_of_ble_eq_true rfl); k_whole); k_extra "M46a0")
  k_with "MY ltp" => ((with_reducible rename @LT.lt Nat _ _ _ ∧ _ => kL); first | (with_reducible first | exact kL.1 | exact kL.2 | exact kL.2.1 | exact kL.2.2 | exact kL.2.2.1 | exact kL.2.2.2 | exact kL.2.2.2.1 | exact kL.2.2.2.2 | exact kL.2.2.2.2.1 | exact kL.2.2.2.2.2 | exact kL.2.2.2.2.2.1 | exact kL.2.2.2.2.2.2 | exact kL.2.2.2.2.2.2.1 | exact kL.2.2.2.2.2.2.2 | exact kL.2.2.2.2.2.2.2.1 | exact kL.2.2.2.2.2.2.2.2 | exact kL.2.2.2.2.2.2.2.2.1 | exact kL.2.2.2.2.2.2.2.2.2 | exact kL.2.2.2.2.2.2.2.2.2.1 | exact kL.2.2.2.2.2.2.2.2.2.2 | exact kL.2.2.2.2.2.2.2.2.2.2.1 | exact kL.2.2.2.2.2.2.2.2.2.2.2 | exact kL.2.2.2.2.2.2.2.2.2.2.2.1 | exact kL.2.2.2.2.2.2.2.2.2.2.2.2 | exact kL.2.2.2.2.2.2.2.2.2.2.2.2.1 | exact kL.2.2.2.2.2.2.2.2.2.2.2.2.2 | exact kL.2.2.2.2.2.2.2.2.2.2.2.2.2.1 | exact kL.2.2.2.2.2.2.2.2.2.2.2.2.2.2 | exact kL.2.2.2.2.2.2.2.2.2.2.2.2.2.2.1 | exact kL.2.2.2.2.2.2.2.2.2.2.2.2.2.2.2 | exact kL.2.2.2.2.2.2.2.2.2.2.2.2.2.2.2.1 | exact kL.2.2.2.2.2.2.2.2.2.2.2.2.2.2.2.2 | exact kL.2.2.2.2.2.2.2.2.2.2.2.2.2.2.2.2.1 | exact kL.2.2.2.2.2.2.2.2.2.2.2.2.2.2.2.2.2 | exact kL.2.2.2.2.2.2.2.2.2.2.2.2.2.2.2.2.2.1 | exact kL.2.2.2.2.2.2.2.2.2.2.2.2.2.2.2.2.2.2 | exact kL.2.2.2.2.2.2.2.2.2.2.2.2.2.2.2.2.2.2.1 | exact kL.2.2.2.2.2.2.2.2.2.2.2.2.2.2.2.2.2.2.2 | exact kL.2.2.2.2.2.2.2.2.2.2.2.2.2.2.2.2.2.2.2.1 | exact kL.2.2.2.2.2.2.2.2.2.2.2.2.2.2.2.2.2.2.2.2 | exact kL.2.2.2.2.2.2.2.2.2.2.2.2.2.2.2.2.2.2.2.2.1 | exact kL.2.2.2.2.2.2.2.2.2.2.2.2.2.2.2.2.2.2.2.2.2 | exact kL.2.2.2.2.2.2.2.2.2.2.2.2.2.2.2.2.2.2.2.2.2.1 | exact kL.2.2.2.2.2.2.2.2.2.2.2.2.2.2.2.2.2.2.2.2.2.2 | exact kL.2.2.2.2.2.2.2.2.2.2.2.2.2.2.2.2.2.2.2.2.2.2.1 | exact kL.2.2.2.2.2.2.2.2.2.2.2.2.2.2.2.2.2.2.2.2.2.2.2) | (clear kL; k_extra "MY ltp"))
  k_with "MY ne" => first | (refine Nat.ne_of_gt ?_; k_extra "MY ltp") | (refine Nat.ne_of_lt ?_; k_extra "MY ltp")
  k_with "newTuple" => (k_here; k_dflt (refine' kup_newTuple ?zF ?zN ?_ ?zs; (case zF => k_asm); (case zN => k_asm); (case zs => kmk_size)); k_extra "M46a0")
  k_with "MY ltq" => first | with_reducible assumption | k_extra "MY ltp" | ((with_reducible refine' Nat.lt_trans ?_ ?klb); (case klb => with_reducible assumption); k_extra "MY ltq") | ((with_reducible refine' Nat.lt_trans ?kla ?_); (case kla => with_reducible assumption); k_extra "MY ltp") | ((with_reducible refine' Nat.lt_succ_of_lt ?_); first | with_reducible assumption | k_extra "MY ltp" | ((with_reducible refine' Nat.lt_succ_of_lt ?_); first | with_reducible assumption | k_extra "MY ltp")) | ((with_reducible refine' Mine.mem_allLt ?_ _ ?klm); (case klm => with_reducible assumption); first | with_reducible assumption | k_extra "MY ltp")
  k_with "MY lo" => first | ((with_reducible show @LT.lt Nat _ _ _); (try dsimp only); k_extra "MY ltq") | ((with_reducible show @Ne Nat _ _); (try dsimp only); first | with_reducible assumption | (refine Ne.symm ?_; with_reducible assumption) | (refine Nat.ne_of_gt ?_; k_extra "MY ltq") | (refine Nat.ne_of_lt ?_; k_extra "MY ltq")) | decide
  k_with "H mem" => first | exact List.Mem.head _ | (refine' List.Mem.tail _ ?_; k_extra "H mem") | ((fail_if_success refine' List.Mem.tail _ ?_); change (_ : Addr × Obj) ∈ (_ : List (Addr × Obj)); first | with_reducible assumption | (with_reducible refine' List.mem_append_left _ ?_; k_extra "H mem") | (with_reducible refine' List.mem_append_right _ ?_; k_extra "H mem"))
  k_with "H room" => ((try simp only [depth_under_make, depth_under_kw, depth_in1, depth_deeper, depth_caller]); (try dsimp only [ktrTop]); first | decide | ((try simp only [Nat.add_assoc, Nat.reduceAdd]); (with_reducible rename _ + _ < recursionLimit => kH); first | exact Mine.room_of kH rfl | exact Mine.room_at kH) | omega)
  k_with "H units" => ((try simp only [units_in1, units_deeper, Around.mark_units, units_caller]); (try dsimp only [ktrTop]); first | decide | ((try simp only [Nat.add_assoc, Nat.reduceAdd]); (with_reducible rename _ + _ < cLine => kH); first | exact Mine.room_of kH rfl | exact Mine.room_at kH) | omega)
  k_with "H ne" => (refine neN ?_; (try dsimp only); first | with_reducible assumption | (refine Ne.symm ?_; with_reducible assumption) | (with_reducible first | exact Nat.ne_of_lt (by assumption) | exact Nat.ne_of_gt (by assumption)) | k_extra "MY ne" | ((with_reducible rename (_ ≠ _ ∧ _ ≠ _ ∧ _ ≠ _) ∧ _ => kOff); first | (simp only [kOff, ne_eq, not_false_eq_true]; done) | (refine Ne.symm ?_; simp only [kOff, ne_eq, not_false_eq_true]; done)) | k_extra "MY lo" | omega)
  trivial
section
open PySem.Calls Builtin Builtin.ObjectAttr
section
section
variable {prog : Program} {w : World} {A : Around} {E : Value → Shared → Prop} {h : Heap} {g : Array GenState} {d : Drawn} {t : Nat} {os : OsState} {R : Result → Shared → Prop}
variable {nm q : Str} {C N : Addr} {bs bm : List Value} {hdct : Bool} {sn : List Str} {sub : List Value} {ab : Bool} {col : Option Bool} {dd : Option Addr} {k0 k1 k2 k3 k5 : Option Value}
-- an own exception class of Exception's line: made by Exception.__new__, its __init__ (a def, found along the line) called
theorem xc_check_new (hb : bm.contains (.type "Exception") = true) {M : Model} {rest : List Value} {Q : Unit → Shared → Prop} (hC : h.get? C = some (excClassObj nm q C N bs bm hdct sn sub ab col dd k0 k1 k2 k3 k5 "Exception.__new__"))
    (hq : Q () ⟨h, g, d, t, os⟩) : wpAny M A (checkBuiltinCall "Exception.__new__" ⟨.ref C :: rest, []⟩) Q E ⟨h, g, d, t, os⟩ := by
  have F := PySem.F.excBase_Exception
  have hcont : (Value.ref C :: bm).contains (.type "Exception") = true := by rw [List.contains_cons, hb, Bool.or_true]
  have hstar := F.noStar
  simp only [checkBuiltinCall, F.newKind, F.newSplit, F.newRow]
  repeat (first | refine wpAny_loadPart_at hC ?_ | (refine wpAny_isSubtype_exc hC ?_; rw [hcont]) | refine wpAny_staticBase_exc hC ?_ | refine wpAny_madeBy_exc hC ?_ | simp only [bne_self_eq_false, Bool.false_eq_true, if_false] | wp_step)
  exact hq
theorem xc_new (hb : bm.contains (.type "Exception") = true) (h1 : bm.contains (.type "AttributeError") = false) (h2 : bm.contains (.type "NameError") = false) {rest : List Value} (hC : h.get? C = some (excClassObj nm q C N bs bm hdct sn sub ab col dd k0 k1 k2 k3 k5 "Exception.__new__"))
    (hq : R (.ok (.ret (.ref (h.objs.size + 1)))) ⟨(h.push { cls := .type "tuple", data := .seq rest.toArray }).push
      { cls := .ref C, data := .fields #[.ref h.objs.size, .none, .none, .none, .bool false, .none] }, g, d, t, os⟩) (hrest : rest.length ≤ sizeLine) :
    codeAny (model prog w) A (.builtin "Exception.__new__" ⟨.ref C :: rest, []⟩) R ⟨h, g, d, t, os⟩ := by
  have F := PySem.F.excBase_Exception
  have hends := F.ends
  have hcB : (Value.ref C :: bm).contains (.type "Exception") = true := by rw [List.contains_cons, hb, Bool.or_true]
  have hcA : (Value.ref C :: bm).contains (.type "AttributeError") = false := by rw [List.contains_cons, h1]; rfl
  have hcN : (Value.ref C :: bm).contains (.type "NameError") = false := by rw [List.contains_cons, h2]; rfl
  refine codeAny_builtinAt F.entry ?_
  unfold Builtin.«BaseException.__new__»
  refine _root_.PySem.wpAt_bind ?_
  show _root_.PySem.wpAt _ _ _ (stack >>= _) _ _ _
  refine _root_.PySem.wpAt_bind (_root_.PySem.wpAt_stack fun p below => _root_.PySem.wpAt_of_wpAny ?_)
  wp_walk
  refine _root_.PySem.wpAt_of_wpAny ?_
  rw [F.owner]
  repeat (first | with_reducible refine wpAny_madeHere_exc F.canon hC ?_ | with_reducible refine wpAny_loadPart_at hC ?_ | (with_reducible refine wpAny_isSubtype_exc hC ?_; first | rw [hcB] | rw [hcA] | rw [hcN]) | wp_step)
  show R _ _
  rw [Heap.size_push]
  exact hq
theorem xc_type_call (hb : bm.contains (.type "Exception") = true) (h1 : bm.contains (.type "AttributeError") = false) (h2 : bm.contains (.type "NameError") = false) {K : Frag} (X : K.In h) {rest : List Value} {fI : Addr} {Q : Fin → Shared → Prop}
    (hC : h.get? C = some (excClassObj nm q C N bs bm hdct sn sub ab col dd k0 k1 k2 k3 k5 "Exception.__new__")) (hi : findIn K (.ref C) "__init__" = some (some (.ref fI))) (hf : typeIn K (.ref fI) = some (.type "function"))
    (hq : ∀ h' e, Heap.MadeExcOf h h' e (.ref C) rest →
      wpAny (model prog w) A (call (.ref fI) (.ref e :: rest)) (fun r s' => r = .none ∧ Q (.done (.ret (.ref e))) s') E ⟨h', g, d, t, os⟩) (hrest : rest.length ≤ sizeLine) :
    wpAny (model prog w) A (Builtin.«type.__call__» ⟨.ref C :: rest, []⟩) Q E ⟨h, g, d, t, os⟩ := by
  have F := PySem.F.excBase_Exception
  repeat (first | with_reducible refine wpAny_loadPart_at hC ?_ | with_reducible refine wpAny_madeBy_exc hC ?_ | wp_step)
  refine codeAny_call_builtin_code (Code.quiet_builtin _ F.quiet) (xc_check_new hb hC ?_)
  refine xc_new hb h1 h2 hC ?_ hrest
  show wpAny _ _ _ _ _ _
  have up : ∀ b o, h.get? b = some o → ((h.push { cls := .type "tuple", data := .seq rest.toArray }).push { cls := .ref C, data := .fields #[.ref h.objs.size, .none, .none, .none, .bool false, .none] }).get? b = some o := fun b o e => Heap.get?_push_of_some _ (Heap.get?_push_of_some _ e)
  have hC₁ := up _ _ hC
  have X₁ : K.In ((h.push { cls := .type "tuple", data := .seq rest.toArray }).push { cls := .ref C, data := .fields #[.ref h.objs.size, .none, .none, .none, .bool false, .none] }) := X.keeps up
  have hget : ((h.push { cls := .type "tuple", data := .seq rest.toArray }).push
      { cls := .ref C, data := .fields #[.ref h.objs.size, .none, .none, .none, .bool false, .none] }).get? (h.objs.size + 1) = some
      { cls := .ref C, data := .fields #[.ref h.objs.size, .none, .none, .none, .bool false, .none] } := by heap_get
  have hcC : (Value.ref C :: bm).contains (.ref C) = true := by simp
  unfold isInstance
  repeat (first | with_reducible refine wpAny_loadPart_at hget ?_ | (with_reducible refine wpAny_isSubtype_exc hC₁ ?_; rw [hcC]) | wp_step)
  show wpAny _ _ (typeLookup (.ref C) _) _ _ _
  refine (looks_findIn X₁ hi).at ?_
  refine wpAny_holding (wpAny_bind ((bind_fn X₁ _ hf).at ?_))
  refine wpAny_bind (wpAny_mono (hq _ (h.objs.size + 1) ⟨fun b o hb => Heap.get?_push_of_some _ (Heap.get?_push_of_some _ hb), Heap.get?_none_of_le (Nat.le_succ _), h.objs.size, hget, Heap.get?_none_of_le (Nat.le_refl _), ?_⟩) (fun r s' hr => ?_) fun _ _ x => x)
  · exact Heap.get?_push_of_some _ (Heap.get?_push_at rfl rfl)
  · obtain ⟨rfl, hQ⟩ := hr
    wp_walk
    exact hQ
theorem xc_call (hb : bm.contains (.type "Exception") = true) (h1 : bm.contains (.type "AttributeError") = false) (h2 : bm.contains (.type "NameError") = false) {K : Frag} (X : K.In h) {rest : List Value} {fI : Addr} {Q : Value → Shared → Prop}
    (hC : h.get? C = some (excClassObj nm q C N bs bm hdct sn sub ab col dd k0 k1 k2 k3 k5 "Exception.__new__")) (hi : findIn K (.ref C) "__init__" = some (some (.ref fI))) (hf : typeIn K (.ref fI) = some (.type "function"))
    (hq : ∀ h' e, Heap.MadeExcOf h h' e (.ref C) rest →
      wpAny (model prog w) (A.under (.builtin "type.__call__" ⟨.ref C :: rest, []⟩)) (call (.ref fI) (.ref e :: rest)) (fun r s' => r = .none ∧ Q (.ref e) s') E ⟨h', g, d, t, os⟩) (hrest : rest.length ≤ sizeLine) :
    wpAny (model prog w) A (call (.ref C) rest) Q E ⟨h, g, d, t, os⟩ := by
  have f1 := tc_lookup
  have f2 := tc_bind (.ref C)
  have hT : (⟨h, g, d, t, os⟩ : Shared).TypeIs (.ref C) "type" := ⟨_, hC, rfl⟩
  refine wpAny_call (codeAny_of_tree ?_)
  show wpAny _ _ (callAny (.ref C) _) _ _ _
  repeat (any_goals (first | assumption | with_reducible refine wpAny_loadPart_at hC ?_ | wp_step))
  refine ⟨rfl, ?_⟩
  refine codeAny_call_builtin_at (Code.quiet_builtin _ (by decide +kernel)) entry_typeCall (wpAny_check_type_call_sub hC (xc_type_call hb h1 h2 X hC hi hf (fun h' e hm => ?_) hrest))
  exact hq h' e hm
end
end
end
section
open PySem.Calls Builtin Builtin.ObjectAttr
section
namespace XF
theorem slot_wd_get : Slot "wrapper_descriptor" "__get__" "wrapper_descriptor.__get__" := .of (owner := "wrapper_descriptor") (n := "__get__") (by rw [typeLookup_type, builtinLookup_eq_fast]; kernel_rfl) (by decide +kernel) (by decide +kernel) (by decide +kernel)
  (by first | exact .inl (by decide +kernel) | exact .inr (by decide +kernel)) (by rw [isSubtype_type]; kernel_rfl)
theorem entry_wd_get : entryFor table "wrapper_descriptor.__get__" = some Builtin.«wrapper_descriptor.__get__» := entryFor_of_tree (by kernel_rfl)
theorem args_wd_get (a b c : Value) : argsOk "wrapper_descriptor.__get__" ⟨[a, b, c], []⟩ := by unfold argsOk; kernel_rfl
theorem type_ei : typeOf (.builtin "Exception.__init__") = pure (.type "wrapper_descriptor") := by show builtinType _ = _; rw [builtinType_eq_fast]; kernel_rfl
theorem kind_ei : builtinKind "Exception.__init__" = some .slot := by decide +kernel
theorem split_ei : splitId "Exception.__init__" = some ("Exception", "__init__") := by decide +kernel
end XF
section
variable {prog : Program} {w : World} {M : Model} {A : Around} {E : Value → Shared → Prop} {h : Heap} {g : Array GenState} {d : Drawn} {t : Nat} {os : OsState}
theorem xg_ga {so D x C : Addr} {ox : Obj} {l₀ l : List Value} {K : Frag} {name : Str} {tk : Tok} {Q : Fin → Shared → Prop}
    (hso : h.get? so = some { cls := .type "super", dict := none, data := .fields #[.ref D, .ref x, .ref C], slots := #[] }) (hno : Looks (model prog w) h (opaqueClassAbove (.ref C)) none)
    (hC : Looks (model prog w) h (mroOf (.ref C)) l₀) (hl : (l₀.dropWhile (· != .ref D)).drop 1 = l) (X : K.In h)
    (hf : alongIn K name l = some (some (.builtin "Exception.__init__"))) (hx : h.get? x = some ox) (hxc : ox.cls = .ref C) (hsub : mroIn K C (.type "Exception") = some true) (hxC : x ≠ C) (hn : (name == ("__class__" : Str)) = false)
    (hq : Q (.done (.ret (.ref h.objs.size))) ⟨h.push { cls := .type "method-wrapper", data := .fields #[.builtin "Exception.__init__", .ref x] }, g, d, t, os⟩) :
    wpAny (model prog w) A (Builtin.«super.__getattribute__» ⟨[.ref so, .str name tk], []⟩) Q E ⟨h, g, d, t, os⟩ := by
  have hlk := XF.slot_wd_get.lookup
  have hty := XF.type_ei
  have hne : (Value.ref x == Value.ref C) = false := by simp [hxC]
  have hTf : (⟨h, g, d, t, os⟩ : Shared).TypeIs (.builtin "Exception.__init__") "wrapper_descriptor" := XF.type_ei
  have hdt : ({ cls := .type "super", dict := none, data := .fields #[.ref D, .ref x, .ref C], slots := #[] } : Obj).data = .fields #[.ref D, .ref x, .ref C] := rfl
  have f0 : (#[.ref D, .ref x, .ref C] : Array Value)[0]? = some (.ref D) := rfl
  have f1 : (#[.ref D, .ref x, .ref C] : Array Value)[1]? = some (.ref x) := rfl
  have f2 : (#[.ref D, .ref x, .ref C] : Array Value)[2]? = some (.ref C) := rfl
  have hS := looks_mroIn (M := model prog w) X hsub
  unfold Builtin.«super.__getattribute__»
  repeat (first
    | (with_reducible refine wpAny_field hso hdt f0 ?_) | (with_reducible refine wpAny_field hso hdt f1 ?_) | (with_reducible refine wpAny_field hso hdt f2 ?_)
    | (with_reducible refine ks_wpAny_notOpaque hno ?_)
    | (with_reducible refine Looks.at hC ?_; rw [hl])
    | (refine ks_forIn_along X (fun _ _ => rfl) rfl ?_ hf)
    | (with_reducible refine wpAny_of_eq hty ?_)
    | (with_reducible refine wpAny_typeOf hTf ?_)
    | (with_reducible refine wpAny_call_entry XF.slot_wd_get hTf XF.entry_wd_get ?_ (XF.args_wd_get _ _ _))
    | (with_reducible refine ⟨_, rfl, ?_⟩)
    | (simp only [hn, hne, Bool.or_false, Bool.false_eq_true, if_false])
    | wp_step
    | dsimp only)
  rw [hxc, show ".".intercalate ("Exception.__init__".cutAt '.').dropLast = "Exception" from by decide +kernel]
  refine hS.at ?_
  simp only [Bool.not_true, Bool.false_eq_true, if_false]
  refine wpAny_pure ?_
  unfold newFields
  repeat (first
    | (with_reducible refine wpAny_newObj_type ?_ (by size_fits))
    | (with_reducible refine ⟨_, rfl, ?_⟩)
    | wp_step
    | dsimp only)
  all_goals exact hq

theorem xg_method {so D x C : Addr} {ox : Obj} {l₀ l : List Value} {K : Frag} {name : Str} {pl : Sem Bool} {Q : Value × List Value → Shared → Prop}
    (hso : h.get? so = some { cls := .type "super", dict := none, data := .fields #[.ref D, .ref x, .ref C], slots := #[] }) (hno : Looks (model prog w) h (opaqueClassAbove (.ref C)) none)
    (hC : Looks (model prog w) h (mroOf (.ref C)) l₀) (hl : (l₀.dropWhile (· != .ref D)).drop 1 = l) (X : K.In h)
    (hf : alongIn K name l = some (some (.builtin "Exception.__init__"))) (hx : h.get? x = some ox) (hxc : ox.cls = .ref C) (hsub : mroIn K C (.type "Exception") = some true) (hxC : x ≠ C) (hn : (name == ("__class__" : Str)) = false)
    (hq : Q (.ref h.objs.size, []) ⟨h.push { cls := .type "method-wrapper", data := .fields #[.builtin "Exception.__init__", .ref x] }, g, d, t + 1, os⟩) :
    wpAny (model prog w) A (getMethod (.ref so) name pl) Q E ⟨h, g, d, t, os⟩ := by
  have hlk := PySem.F.ks_slot_super_ga.lookup
  have hcan := PySem.F.ks_canon_super_ga
  have hT : ∀ t', (⟨h, g, d, t', os⟩ : Shared).TypeIs (.ref so) "super" := fun _ => ⟨_, hso, rfl⟩
  unfold getMethod
  refine wpAny_bind (wpAny_specialOf (hT _) hlk ?_)
  show wpAny _ _ (if (Manifest.canonical "super.__getattribute__" != "object.__getattribute__") = true then _ else _) _ _ _
  rw [if_pos hcan]
  unfold getAttr getAttrBy
  refine wpAny_bind (wpAny_bind (wpAny_mkText (wpAny_holding (wpAny_bind (wpAny_typeOf (hT _) (wpAny_bind (wpAny_of_eq hlk ?_)))))))
  show wpAny _ _ (getAttrByItsOwn (.ref so) (.str name t) (.type "super") (.builtin "super.__getattribute__") true false) _ _ _
  unfold getAttrByItsOwn hookBefore callGetattribute boundAndCalled
  refine wpAny_bind (wpAny_of_eq (show (if onTheHeap (.type "super") then typeLookup (.type "super") "__getattr__" else pure none) = pure none from rfl) ?_)
  refine wpAny_bind (wpAny_attempt (wpAny_holding ?_))
  show wpAny _ _ (bindSpecial (.builtin "super.__getattribute__") (.ref so) >>= _) _ _ _
  refine wpAny_bind (wpAny_of_eq (PySem.F.ks_slot_super_ga.bind _) ?_)
  refine wpAny_mono (Q := fun v s' => v = .ref h.objs.size ∧ s' = ⟨h.push { cls := .type "method-wrapper", data := .fields #[.builtin "Exception.__init__", .ref x] }, g, d, t + 1, os⟩) (E := fun _ _ => False)
    (wpAny_call_entry PySem.F.ks_slot_super_ga (hT _) PySem.F.ks_entry_super_ga (xg_ga hso hno hC hl X hf hx hxc hsub hxC hn ⟨_, rfl, rfl, rfl⟩) (PySem.F.ks_gaArgs_super _ _)) (fun v s' hv => ?_) fun _ _ z => z.elim
  obtain ⟨rfl, rfl⟩ := hv
  exact wpAny_pure (wpAny_pure hq)
end
section
variable {prog : Program} {w : World} {A : Around} {E : Value → Shared → Prop} {s : Shared} {h₀ : Heap} {L : Addr} {m mg mb : Str → Option Value} {news : List (Addr × Obj)} {K : Frag} {x C D so : Addr} {ox : Obj} {cd : ClassData} {v : Value}
abbrev mwObj (x : Addr) : Obj := { cls := .type "method-wrapper", dict := none, data := .fields #[.builtin "Exception.__init__", .ref x], slots := #[] }
abbrev excObj (C t : Addr) : Obj := { cls := .ref C, dict := none, data := .fields #[.ref t, .none, .none, .none, .bool false, .none], slots := #[] }
theorem xg_methodK {name : Str} {pl : Sem Bool} {Q : Value × List Value → Shared → Prop} (F : Fr h₀ L s.heap m) (X₀ : K.In h₀) (N : News h₀ L s.heap news) (hso : (so, ks_superObj D x C) ∈ news) (hx : (x, ox) ∈ news) (hxc : ox.cls = .ref C) (hnc : notCls ox = true) (ho : nsIn K cStatics "thirdparty.any" = some none)
    (hm : ks_superIn K C D name = some (some (.builtin "Exception.__init__"))) (hsub : mroIn K C (.type "Exception") = some true) (hn : (name == ("__class__" : Str)) = false)
    (h : ∀ q h', Fr h₀ L h' m → News h₀ L h' ((q, mwObj x) :: news) → (∀ p ∈ news, p.1 < q) → Q (.ref q, []) { s with heap := h', toks := s.toks + 1 }) : wpAny (model prog w) A (getMethod (.ref so) name pl) Q E s := by
  have X : K.In s.heap := X₀.keeps F.keep
  obtain ⟨hh, g, d, t, os⟩ := s
  cases hc : clsIn K C with
  | none => unfold ks_superIn at hm; rw [hc] at hm; cases hm
  | some cd =>
    unfold ks_superIn at hm
    rw [hc] at hm
    have hxC : x ≠ C := by
      rintro rfl
      unfold clsIn at hc
      split at hc
      · rename_i c d cd' sl ho
        have e := X _ _ ho
        rw [(N _ hx).1] at e
        cases e
        exact Bool.noConfusion hnc
      · cases hc
    refine xg_method (N _ hso).1 (looks_opaque X ho) (l₀ := cd.mro) ?_ rfl X hm (N _ hx).1 hxc hsub hxC hn ?_
    · exact fun A Q E s k q => wpAny_bind ((looks_clsIn X hc) A _ E s k (wpAny_pure q))
    · obtain ⟨F', N', l'⟩ := ks_newsPush (s := ⟨hh, g, d, t, os⟩) (o := mwObj x) F N rfl (Heap.get?_push_at rfl rfl) (fun b o e => Heap.get?_push_of_some _ e)
      exact h _ _ F' N' l'
theorem xg_callWith {M : Model} {env : Env} {pos : Pos} {q : Addr} {e : PySem.Expr} {rest : List PySem.Expr} {Q : Value → Shared → Prop} (_N : News h₀ L s.heap news) (_q : (q, mwObj x) ∈ news)
    (h : wpAny M A (spliced (backTo pos (starEach (e :: rest) env))) (fun vs s₁ => s₁.heap.get? q = some (mwObj x) ∧ wpAny M A (call (.ref q) ([] ++ vs)) Q E s₁) E s)
    (he : starEach (e :: rest) env = (false, eval e env) :: starEach rest env) (hplain : (backTo pos (starEach rest env)).any (·.1) = false) :
    wpAny M A (callWith pos (.ref q) [] (backTo pos (starEach (e :: rest) env)) []) Q E s := by
  rw [he] at h ⊢
  exact callWith_of (P := fun h => h.get? q = some (mwObj x)) (by show ((false || (backTo pos (starEach rest env)).any (·.1)) || false) = false; rw [hplain]; rfl) (fun h hh => ⟨.machine, .inr (.inl rfl), (Looks.ld (part := none) hh).andThen .now⟩) (evalArgs_plain h)

theorem xg_call {t q C N' : Addr} {nm qn : Str} {bs bm : List Value} {hdct : Bool} {sn : List Str} {sub : List Value} {ab : Bool} {col : Option Bool} {dd : Option Addr} {k0 k1 k2 k3 k5 : Option Value} {Q : Value → Shared → Prop}
    (F : Fr h₀ L s.heap m) (N : News h₀ L s.heap ((x, excObj C t) :: news)) (hq : (q, mwObj x) ∈ news) (hap : ∀ p ∈ news, p.1 ≠ x) (hCK : h₀.get? C = some (excClassObj nm qn C N' bs bm hdct sn sub ab col dd k0 k1 k2 k3 k5 "Exception.__new__"))
    (h : ∀ t' h', Fr h₀ L h' m → News h₀ L h' ((t', { cls := .type "tuple", data := .seq #[v] }) :: (x, excObj C t') :: news) → (∀ p ∈ news, p.1 < t') → x < t' → Q .none { s with heap := h' }) :
    wpAny (model prog w) A (call (.ref q) [v]) Q E s := by
  have FB := PySem.F.excBase_Exception
  have hqq := (N _ (.tail _ hq)).1
  have hx := (N _ (.head _)).1
  have hC := F.keep _ _ hCK
  have hstar := FB.noStar
  refine wpAny_call (codeAny_of_tree ?_)
  show wpAny _ _ (callAny (.ref q) _) _ _ _
  unfold callAny
  refine wpAny_bind (wpAny_load hqq ?_)
  show wpAny _ _ (checkBoundCall "Exception.__init__" ⟨[.ref x, v], []⟩ >>= fun _ => again (.builtin "Exception.__init__" ⟨[.ref x, v], []⟩)) _ _ _
  refine wpAny_bind ?_
  unfold checkBoundCall
  rw [FB.initRow]
  simp only [FB.initKind]
  show wpAny _ _ (Bind.checkArgs "Exception.__init__" ⟨.positional, "*", "Exception", .self, [⟨"args", .varPos, false⟩]⟩ ⟨[.ref x, v], []⟩) _ _ _
  obtain ⟨hh, g, d, tk, os⟩ := s
  dsimp only at hx hC hqq F N
  unfold Bind.checkArgs
  repeat (first | (with_reducible refine wpAny_loadPart_at hx ?_) | with_reducible refine wpAny_loadPart_at hC ?_ | wp_step)
  refine ⟨plainId_quiet FB.init.plain _, codeAny_builtin FB.initEntry ?_⟩
  unfold Builtin.«BaseException.__init__» BaseException.bexcPut
  have F1 := F.push { cls := .type "tuple", data := .seq #[v] }
  have N1 := N.push F { cls := .type "tuple", data := .seq #[v] }
  have hx1 := (N1 _ (.tail _ (.head _))).1
  have hlt : ∀ p ∈ (x, excObj C t) :: news, p.1 < hh.objs.size := fun p hp => Heap.lt_size (N p hp).1
  have hxlt : x < hh.objs.size := hlt _ (.head _)
  obtain ⟨F2, N2⟩ := news_upd (pre := [(hh.objs.size, ({ cls := .type "tuple", data := .seq #[v] } : Obj))]) (f := Obj.mapFields (·.setIfInBounds 0 (.ref hh.objs.size))) F1 N1
    (fun p hp => by rw [List.mem_singleton.mp hp]; exact Nat.ne_of_gt hxlt) hap rfl rfl
  repeat (first
    | (with_reducible refine wpAny_newObj_type ?_ (by size_fits))
    | (with_reducible refine wpAny_field hx1 rfl rfl ?_)
    | (with_reducible refine wpAny_setField hx1 rfl (by simp) ?_)
    | wp_step
    | dsimp only)
  exact h _ _ F2 N2 (fun p hp => hlt p (.tail _ hp)) hxlt
end
end
end
section
open PySem.Calls Builtin Builtin.ObjectAttr
section
abbrev excObjD (C t d : Addr) : Obj := { cls := .ref C, dict := some d, data := .fields #[.ref t, .none, .none, .none, .bool false, .none], slots := #[] }
theorem excAt {h₀ h : Heap} {L e t C : Addr} {news : List (Addr × Obj)} (N : News h₀ L h news) (hm : (e, excObj C t) ∈ news) : InstAt h e (excObj C t) C none := ⟨(N _ hm).1, rfl, rfl, True.intro⟩
theorem excAtD {h₀ h : Heap} {L e t C d : Addr} {es : List DictEntry} {n : Nat} {news : List (Addr × Obj)} (N : News h₀ L h news) (hm : (e, excObjD C t d) ∈ news) (hd : (d, dictOf es n) ∈ news) : InstAt h e (excObjD C t d) C (some (dictOf es n)) := ⟨(N _ hm).1, rfl, rfl, (N _ hd).1⟩
section
variable {prog : Program} {w : World} {A : Around} {E : Value → Shared → Prop} {s : Shared} {h₀ : Heap} {L : Addr} {m mg mb : Str → Option Value} {news news' : List (Addr × Obj)} {K : Frag} {x C D so : Addr} {ox : Obj} {cd : ClassData} {v : Value} {gg : Obj → List (Addr × Obj)}
theorem news_perm {h : Heap} {pre post : List (Addr × Obj)} {p : Addr × Obj} : News h₀ L h (pre ++ p :: post) ↔ News h₀ L h (p :: (pre ++ post)) := by
  constructor
  · intro N q hq
    refine N q ?_
    rcases List.mem_cons.mp hq with rfl | hq
    · exact List.mem_append_right _ (.head _)
    · exact (List.mem_append.mp hq).elim (List.mem_append_left _) fun z => List.mem_append_right _ (.tail _ z)
  · intro N q hq
    refine N q ?_
    rcases List.mem_append.mp hq with hq | hq
    · exact .tail _ (List.mem_append_left _ hq)
    · rcases List.mem_cons.mp hq with rfl | hq
      · exact .head _
      · exact .tail _ (List.mem_append_right _ hq)
theorem xg_callU {t q N' : Addr} {nm qn : Str} {bs bm : List Value} {hdct : Bool} {sn : List Str} {sub : List Value} {ab : Bool} {col : Option Bool} {dd : Option Addr} {k0 k1 k2 k3 k5 : Option Value} {Q : Value → Shared → Prop}
    (F : Fr h₀ L s.heap m) (N : News h₀ L s.heap news) (U : UpdF x (excObj C t) news gg) (hq : (q, mwObj x) ∈ news) (X₀ : K.In h₀) (hC : K.lookup C = some (excClassObj nm qn C N' bs bm hdct sn sub ab col dd k0 k1 k2 k3 k5 "Exception.__new__"))
    (h : ∀ t' h', Fr h₀ L h' m → News h₀ L h' ((t', { cls := .type "tuple", data := .seq #[v] }) :: gg (excObj C t')) → (∀ p ∈ news, p.1 < t') → Q .none { s with heap := h' }) :
    wpAny (model prog w) A (call (.ref q) [v]) Q E s := by
  obtain ⟨pre, post, rfl, hg, h1, h2⟩ := U.split
  have hq' : (q, mwObj x) ∈ pre ++ post := by
    rcases List.mem_append.mp hq with hq | hq
    · exact List.mem_append_left _ hq
    · rcases List.mem_cons.mp hq with e | hq
      · injection e with _ e; injection e with e; cases e
      · exact List.mem_append_right _ hq
  refine xg_call F (news_perm.mp N) hq' (fun p hp => (List.mem_append.mp hp).elim (h1 p) (h2 p)) (X₀ _ _ hC) fun t' h' F' N' l1 l2 => ?_
  refine h t' h' F' (fun p hp => ?_) (fun p hp => ?_)
  · rw [hg] at hp
    rcases List.mem_cons.mp hp with rfl | hp
    · exact N' _ (.head _)
    · exact news_perm.mpr (fun q hq => N' q (.tail _ hq)) p hp
  · rcases List.mem_append.mp hp with hp | hp
    · exact l1 p (List.mem_append_left _ hp)
    · rcases List.mem_cons.mp hp with rfl | hp
      · exact l2
      · exact l1 p (List.mem_append_right _ hp)
theorem xs_attrN {name : Str} {t : Addr} {es : List DictEntry} {n : Nat} {Q : Unit → Shared → Prop} (F : Fr h₀ L s.heap m) (X₀ : K.In h₀) (N : News h₀ L s.heap news) (U : UpdF x (excObj C t) news gg)
    (hs : findIn K (.ref C) "__setattr__" = some (some (.builtin "object.__setattr__"))) (hc : clsIn K C = some cd) (hh : cd.hasDict = true) (hr : refuseLoop (.ref x) "__setattr__" cd.mro = pure ()) (ho : mroIn K C (.type "object") = some true) (ht : takerIn K C name = some none)
    (e : (putL name (PyData.keyHash w.params name) (.str name (s.toks + 1)) v [], putN name [] 0) = (es, n)) (hz : es.length ≤ 1000)
    (h : ∀ d h', Fr h₀ L h' m → News h₀ L h' ((d, dictOf es n) :: gg (excObjD C t d)) → (∀ p ∈ news, p.1 < d) → Q () { s with heap := h', toks := s.toks + 2 }) :
    wpAny (model prog w) A (setAttr (.ref x) name v) Q E s := by
  obtain ⟨pre, post, rfl, hg, h1, h2⟩ := U.split
  have N1 := news_perm.mp N
  have I := excAt N (List.mem_append_right _ (.head _))
  refine set_plain (X₀.keeps F.keep) I hs (xs_new (s := { s with toks := s.toks + 1 }) F N1 (X₀.keeps F.keep) I rfl ⟨_, rfl⟩ hc hh hr ho ht (fun p hp => (List.mem_append.mp hp).elim (h1 p) (h2 p)) e hz fun d h' F' N' l1 l2 => ?_)
  refine h d h' F' (fun p hp => ?_) (fun p hp => ?_)
  · rw [hg] at hp
    rcases List.mem_cons.mp hp with rfl | hp
    · exact N' _ (.head _)
    · exact news_perm.mpr (fun q hq => N' q (.tail _ hq)) p hp
  · rcases List.mem_append.mp hp with hp | hp
    · exact l1 p (List.mem_append_left _ hp)
    · rcases List.mem_cons.mp hp with rfl | hp
      · exact l2
      · exact l1 p (List.mem_append_right _ hp)
theorem xs_attrD {name : Str} {t dx : Addr} {es es' : List DictEntry} {n n' : Nat} {Q : Unit → Shared → Prop} (F : Fr h₀ L s.heap m) (X₀ : K.In h₀) (N : News h₀ L s.heap news) (hx : (x, excObjD C t dx) ∈ news) (_hdx : (dx, dictOf es n) ∈ news) (U : Upd dx (dictOf es n) (dictOf es' n') news news')
    (hs : findIn K (.ref C) "__setattr__" = some (some (.builtin "object.__setattr__"))) (hc : clsIn K C = some cd) (hh : cd.hasDict = true) (hr : refuseLoop (.ref x) "__setattr__" cd.mro = pure ()) (ho : mroIn K C (.type "object") = some true) (ht : takerIn K C name = some none)
    (hl : (getL name es).isSome = true) (e : (putL name (PyData.keyHash w.params name) (.str name (s.toks + 1)) v es, putN name es n) = (es', n')) (hz : es'.length ≤ 1000)
    (h : ∀ h', Fr h₀ L h' m → News h₀ L h' news' → Q () { s with heap := h', toks := s.toks + 2 }) :
    wpAny (model prog w) A (setAttr (.ref x) name v) Q E s := by
  obtain ⟨pre, post, rfl, rfl, a, b⟩ := U.split
  have I := excAtD N hx (List.mem_append_right _ (.head _))
  exact set_plain (X₀.keeps F.keep) I hs (xs_dict (s := { s with toks := s.toks + 1 }) F N (X₀.keeps F.keep) I rfl hc hh hr ho ht hl a b e hz fun h' F' N' => h h' F' N')
theorem ff_refuse (x : Addr) : refuseLoop (.ref x) "__setattr__" [.ref 61, .ref 48, .type "Exception", .type "BaseException", .type "object"] = pure () := by
  rw [refuseLoop_ref, refuseLoop_ref]; exact PySem.F.store_Exception.passes _
end
end
section
open PyProof.Rows
theorem mem_allLt {d : Addr} : ∀ {l : List (Addr × Obj)}, AllLt d l → ∀ p ∈ l, p.1 < d
  | [], _, _, hp => nomatch hp
  | _ :: _, h, p, hp => by
    rcases List.mem_cons.mp hp with rfl | hp
    · exact h.1
    · exact mem_allLt h.2 p hp
theorem mem_off1 {d : Addr} : ∀ {l : List (Addr × Obj)}, LCg.Off1 d l → ∀ p ∈ l, p.1 ≠ d
  | [], _, _, hp => nomatch hp
  | _ :: _, h, p, hp => by
    rcases List.mem_cons.mp hp with rfl | hp
    · exact h.1
    · exact mem_off1 h.2 p hp
theorem sub_refl {α : Type} {l : List α} : ∀ p ∈ l, p ∈ l := fun _ h => h
theorem sub_cons {α : Type} {q : α} {l l' : List α} (h : q ∈ l') (r : ∀ p ∈ l, p ∈ l') : ∀ p ∈ q :: l, p ∈ l' := fun p hp => by
  rcases List.mem_cons.mp hp with rfl | hp
  · exact h
  · exact r p hp
theorem sub_tail {α : Type} {q : α} {l l' : List α} (r : ∀ p ∈ l, p ∈ l') : ∀ p ∈ l, p ∈ q :: l' := fun p hp => .tail _ (r p hp)
theorem news_sub {h₀ h : Heap} {L : Addr} {news news' : List (Addr × Obj)} (N : News h₀ L h news) (s : ∀ p ∈ news', p ∈ news) : News h₀ L h news' := fun p hp => N p (s p hp)
section
variable {prog : Program} {w : World} {M : Model} {A : Around} {E : Value → Shared → Prop} {env : Env} {s : Shared} {K : Frag} {h₀ : Heap}
variable {nm q : Str} {C N : Addr} {bs bm : List Value} {hdct : Bool} {sn : List Str} {sub : List Value} {ab : Bool} {col : Option Bool} {dd : Option Addr} {k0 k1 k2 k3 k5 : Option Value} {newId : String}
def RaisePost (C : Addr) (oC : Obj) (E : Value → Shared → Prop) (v : Value) (s : Shared) : Prop := ∃ e t d, v = .ref e ∧ s.heap.get? C = some oC ∧ s.heap.get? e = some (excObjD C t d) ∧ E (.ref e) s
theorem xr_raiseStmt {x : Sem Value} {Q : Flow → Shared → Prop} (hbase : bm.contains (.type "BaseException") = true) (hh : A.handled = none)
    (h : wpAny M A x (RaisePost C (excClassObj nm q C N bs bm hdct sn sub ab col dd k0 k1 k2 k3 k5 newId) E) E s) :
    wpAny M A (raiseStmt env (some x) none) Q E s := by
  have hcB : (Value.ref C :: bm).contains (.type "BaseException") = true := by rw [List.contains_cons, hbase, Bool.or_true]
  unfold raiseStmt
  refine wpAny_bind (wpAny_mono h (fun v s₁ h₁ => ?_) fun _ _ x => x)
  obtain ⟨e, t, d, rfl, hC, he, hE⟩ := h₁
  obtain ⟨hp, g, dr, tk, os⟩ := s₁
  repeat (first | with_reducible refine wpAny_loadPart_at he ?_ | with_reducible refine wpAny_loadPart_at hC ?_ | (with_reducible refine wpAny_isSubtype_exc hC ?_; rw [hcB]) | wp_step)
  exact wpAny_raiseNew_none hh hE
theorem xr_Raise {e : PySem.Expr} {pos : Pos} {Q : Flow → Shared → Prop} (hbase : bm.contains (.type "BaseException") = true) (hh : A.handled = none)
    (hC : K.lookup C = some (excClassObj nm q C N bs bm hdct sn sub ab col dd k0 k1 k2 k3 k5 newId))
    (h : wpAny M A (eval e env) (RaisePost C (excClassObj nm q C N bs bm hdct sn sub ab col dd k0 k1 k2 k3 k5 newId) E) E s) :
    wpAny M A (exec (.Raise (some e) none pos) env) Q E s := by
  have _ := hC
  rw [arm_exec_Raise]
  first
    | refine wpAny_bind (wpAny_standAt (xr_raiseStmt hbase hh (wpAny_bind (wpAny_mono h (fun v s₃ h₃ => wpAny_bind (wpAny_standAt (wpAny_pure h₃))) fun _ _ x => x))))
    | (simp only [evalOpt, Option.map]; refine wpAny_bind (wpAny_standAt (xr_raiseStmt hbase hh (wpAny_bind (wpAny_mono h (fun v s₃ h₃ => wpAny_bind (wpAny_standAt (wpAny_pure h₃))) fun _ _ x => x)))))
end
end
end
section
open PySem.Calls
section
section
variable {M : Model} {A : Around} {E : Value → Shared → Prop} {s' : Shared} {base g g₂ h : Heap} {outer : List Env} {L a e t d C : Addr} {m : Str → Option Value} {name : Str} {scope : Scope} {cd : Value} {Q : Unit → Shared → Prop} {news : List (Addr × Obj)} {vs : List Value}
theorem leave_ff (K : Below A base outer g) (F : Fr g L s'.heap m) (N : News g L s'.heap ((e, excObjD C t d) :: (t, { cls := .type "tuple", data := .seq vs.toArray }) :: news)) (hap : ∀ p ∈ news, p.1 ≠ e ∧ p.1 ≠ t)
    (hQ : ∀ h', RaisedS base g outer e (.ref C) t vs news h' → RaisedK base outer e (.ref C) t vs news h' → g.UpToSlots h' → Q () { s' with heap := h' }) (hk : scope.kind = .function) :
    wpAny M (A.deeper (envOf name scope L a cd)) (leaving (envOf name scope L a cd) (.ref e)) Q E s' := by
  have K' := K.push (name := name) (a := a) (cd := cd) F hk
  have hin : ∀ env ∈ (envOf name scope L a cd :: outer), ∀ b, env.frame = some b → b ∈ (envOf name scope L a cd :: outer).filterMap (·.frame) ++ [e, t] := fun env he b hb => List.mem_append_left _ (List.mem_filterMap.mpr ⟨env, he, hb⟩)
  have he := N _ (.head _)
  have ht := N _ (.tail _ (.head _))
  have out : ∀ b o, s'.heap.get? b = some o → b ∉ (envOf name scope L a cd :: outer).filterMap (·.frame) → b ≠ e → b ≠ t → (hideAll s'.heap ((envOf name scope L a cd :: outer).filterMap (·.frame) ++ [e, t])).get? b = some o := fun b o q n1 n2 n3 => hideAll_get _ q fun hm => by
    rcases List.mem_append.mp hm with z | z
    · exact n1 z
    · rcases List.mem_cons.mp z with z | z
      · exact n2 z
      · exact n3 (List.mem_singleton.mp z)
  have hb : ∀ b o, base.get? b = some o → b ≠ e ∧ b ≠ t := fun b o q => by
    have q' := K.stays b o q
    constructor
    · intro z; rw [z, he.2.2] at q'; cases q'
    · intro z; rw [z, ht.2.2] at q'; cases q'
  have st : base.StaysIn (hideAll s'.heap ((envOf name scope L a cd :: outer).filterMap (·.frame) ++ [e, t])) := fun b o q => out b o (K'.stays b o q) (fun hm => by
    rw [(K'.frames.mem hm).1] at q; cases q) (hb b o q).1 (hb b o q).2
  have sg : ∀ b o, g.get? b = some o → b ∉ outer.filterMap (·.frame) → (hideAll s'.heap ((envOf name scope L a cd :: outer).filterMap (·.frame) ++ [e, t])).get? b = some o := fun b o q nm => out b o (F.keep b o q) (fun hm => by
      rcases kts_mem hm with z | z
      · rw [z, kts_self F] at q
        cases q
      · exact nm z) (fun z => by rw [z, he.2.2] at q; cases q) (fun z => by rw [z, ht.2.2] at q; cases q)
  have hl : ∀ q ∈ news, (hideAll s'.heap ((envOf name scope L a cd :: outer).filterMap (·.frame) ++ [e, t])).get? q.1 = some q.2 ∧ g.get? q.1 = none ∧ base.get? q.1 = none := fun q hq => by
    have z := N q (.tail _ (.tail _ hq))
    refine ⟨out _ _ z.1 (fun hm => ?_) (hap q hq).1 (hap q hq).2, z.2.2, fresh_of_stays K.stays z.2.2⟩
    obtain ⟨env, he, hf⟩ := List.mem_filterMap.mp hm
    rcases List.mem_cons.mp he with rfl | he
    · exact z.2.1 (Option.some.inj hf).symm
    · obtain ⟨o, ho, _⟩ := (K.frames.mem (List.mem_filterMap.mpr ⟨env, he, hf⟩)).2
      rw [z.2.2] at ho; cases ho
  have hide : ∀ b, b ∈ [e, t] → (hideAll s'.heap ((envOf name scope L a cd :: outer).filterMap (·.frame) ++ [e, t])).get? b = none := fun b hb => hideAll_none _ (List.mem_append_right _ hb)
  refine wpAny_leaving_firstW (a0 := .ref t) K'.stack (funFrames_hide K'.frames hin) rfl he.1 (fun b o q => of_hideAll _ q) (hide e (.head _)) rfl rfl rfl fun h' hL => ?_
  obtain ⟨k1, ⟨_, _, k2⟩, k3, k4⟩ := hL
  have R : RaisedS base g outer e (.ref C) t vs news h' := ⟨⟨_, st, sg, hl, ⟨k1, hide e (.head _), k2, k3⟩, hide t (.tail _ (.head _))⟩, Heap.TupAt.of_slots ⟨_, _, ht.1, rfl, rfl⟩ k4⟩
  exact hQ h' R R.toK ((Heap.UpToSlots.of_keeps F.keep).trans k4)
end
end
section
section
variable {prog : Program} {w : World} {A₀ A : Around} {E : Value → Shared → Prop} {s s' : Shared} {base g g₀ G h₀ : Heap} {outer : List Env} {L a e t C : Addr} {m : Str → Option Value} {name : Str} {scope : Scope} {cd : Value} {cl : List (Str × Addr)}
  {vs : List Value} {n : Str} {b₀ : Stmt} {suite : List Stmt} {pos np : Pos} {rest : List ExceptHandler} {Q : Flow → Shared → Prop} {news : List (Addr × Obj)} {KF : Frag}
  {p : Program} {loose : List Str} {mean : ExcName → Option Value} {mg mb : Str → Option Value} {x y : Str}
-- the frame's own handler, in a frame with cells
theorem caught_X0 (R : RaisedS base G (envX name scope L a cd cl :: outer) e (.ref C) t vs news s'.heap) (F : Fr g L G m) (K : Below A₀ base outer g) (hsm : G.UpToSlots s'.heap) (XB : KF.In base) (TB : Top p loose mean mg mb base)
    (D : KtsDicts (outer.filterMap (·.frame)) g) (T0 : KtsTurn (outer.filterMap (·.frame)) g₀ g)
    (ex : nsIn KF mainGlobals x = some (some (.ref C))) (q : ktsIn KF C "BaseException" = true)
    (k : ∀ h' g' news₂, KtsTurn (outer.filterMap (·.frame)) g₀ g' → Fr g' L h' m → News g' L h' news₂ → Got news₂ e t (.ref C) vs → News g' L h' news → Below A₀ base outer g' → KF.In g' → Top p loose mean mg mb g' → KtsDicts (outer.filterMap (·.frame)) g' →
      wpAny (model prog w) ((A₀.deeper (envX name scope L a cd cl)).mark (some (.ref e))) (execs (b₀ :: suite) (envX name scope L a cd cl)) Q E { s' with heap := h' })
    (hk : scope.kind = .function) (hx : (envX name scope L a cd cl).kindOf x = some .globalImplicit) (hd : (x == ("__debug__" : Str)) = false)
    (hE : PassesOwnAt (model prog w) ((A₀.deeper (envX name scope L a cd cl)).mark (some (.ref e))) (A₀.deeper (envX name scope L a cd cl)) (envX name scope L a cd cl) E) :
    wpAny (model prog w) (A₀.deeper (envX name scope L a cd cl)) (noteFrame (.ref e) (envX name scope L a cd cl))
      (fun _ s₂ => wpAny (model prog w) (A₀.deeper (envX name scope L a cd cl)) (setFlight (.ref e) none) (fun _ s₃ =>
        wpAny (model prog w) (A₀.deeper (envX name scope L a cd cl)) (handleBy (.ref e) (envX name scope L a cd cl) (.ExceptHandler (some (.Name x np)) none (b₀ :: suite) pos :: rest)) Q E s₃) E s₂) E s' := by
  obtain ⟨⟨B, hB, hBG, hl, hfl, hnew⟩, htup⟩ := R
  have hBG' : ∀ b o, G.get? b = some o → b ∉ (envOf name scope L a cd :: outer).filterMap (·.frame) → B.get? b = some o := hBG
  have hL : B.get? L = none := by
    obtain ⟨_, ⟨L', _, hf, hn', _⟩, _⟩ := hfl.2.2.1
    obtain rfl : L = L' := Option.some.inj hf
    exact hn'
  refine wpAny_looks_onW (Around.frames_deeper K.stack) rfl hfl fun h₄ hheld₄ hsm₄ => ?_
  refine wpAny_landsW hheld₄ fun h₅ hheld hsm₅' => ?_
  have hsm₅ := hsm₄.trans hsm₅'
  obtain ⟨g₅, T₅, F₅, K₅⟩ := kts_ground (name := name) (scope := scope) (a := a) (cd := cd) K F hBG' hheld.1 (hsm.trans hsm₅)
  have X₅ : KF.In g₅ := XB.keeps K₅.stays
  have P₅ : TopRead p loose mg mb g₅ := topRead_of (TB.keeps K₅.stays)
  obtain ⟨ob, hob, hobc⟩ := hheld.there
  obtain ⟨nm, q', N, bs, bm, hdct, sn, sub, ab, col, dd, k0, k1, k2, k3, k5, newId, hC, hbase, hbT⟩ := kts_cls X₅ q
  have hC₅ := F₅.keep _ _ hC
  refine wpAny_handleBy_cons (codeAny_handlers_test (nameX_K F₅ X₅ P₅ ex ?_ hk hx hd)) (by intro q; cases q)
  refine wpAny_excMatches_sub_self hC₅ hob hobc hbase (codeAny_handlers_suite ?_)
  refine lands_againW hheld fun h₆ hfl₆ hsm₆ => ?_
  obtain ⟨g₆, T₆, F₆, K₆⟩ := kts_ground (name := name) (scope := scope) (a := a) (cd := cd) K F hBG' hfl₆.1 ((hsm.trans hsm₅).trans hsm₆)
  obtain ⟨oe, ws, hoe, hoec, hoed, hoe0⟩ := hfl₆.first
  obtain ⟨ot, nt, hot, hotc, hotd⟩ := (htup.of_slots hsm₅).of_slots hsm₆
  have ne₆ : g₆.get? e = none := T₆.none_ _ (kts_fresh (name := name) (scope := scope) (a := a) (cd := cd) F hBG' hfl₆.2.1 fun o ho m => by
    obtain ⟨_, o', ho', hd⟩ := K.frames.mem m
    rw [ho] at ho'
    cases ho'
    obtain ⟨sl, hs⟩ := ((hsm.trans hsm₅).trans hsm₆) _ _ (F.keep _ _ ho) hd
    rw [hoe] at hs
    cases hs
    exact hd _ hoed)
  have nt₆ : g₆.get? t = none := T₆.none_ _ (kts_fresh (name := name) (scope := scope) (a := a) (cd := cd) F hBG' hnew fun o ho m => by
    obtain ⟨o', es, n', ho', hd⟩ := D _ m
    rw [ho] at ho'
    cases ho'
    obtain ⟨sl, hs⟩ := ((hsm.trans hsm₅).trans hsm₆) _ _ (F.keep _ _ ho) (fun vs q => by rw [hd] at q; cases q)
    rw [hot] at hs
    cases hs
    have z := hd.symm.trans hotd
    cases z)
  have N₆ := News.more F₆ (News.more F₆ News.nil hot (fun es n q => by rw [hotd] at q; cases q) nt₆) hoe (fun es n q => by rw [hoed] at q; cases q) ne₆
  have Nl : News g₆ L h₆ news := fun q hq => ⟨hfl₆.1 _ _ (hl q hq).1, (fun z => by have := (hl q hq).1; rw [z, hL] at this; cases this), T₆.none_ _ (kts_none F.keep (hl q hq).2.1)⟩
  have X₆ : KF.In g₆ := XB.keeps K₆.stays
  have P₆ : Top p loose mean mg mb g₆ := TB.keeps K₆.stays
  have D₆ : KtsDicts (outer.filterMap (·.frame)) g₆ := D.turn T₆
  exact wpAny_passesOwnAt hE (k h₆ g₆ _ (T0.trans T₆) F₆ N₆ ⟨oe, ot, ws, nt, .head _, .tail _ (.head _), hoec, hoed, hoe0, hotc, hotd⟩ Nl K₆ X₆ P₆ D₆)
end
section
variable {prog : Program} {w : World} {A₀ A : Around} {s : Shared} {base h₀ : Heap} {outer : List Env} {L : Addr} {m : Str → Option Value} {env : Env} {news : List (Addr × Obj)} {K : Frag} {p : Program} {loose : List Str} {mean : ExcName → Option Value} {mg mb : Str → Option Value}
    {R : Result → Shared → Prop} {name qual : Str} {params : Arguments} {body : List Stmt} {scope : Scope} {dV kV doc pm cdv ct oc : Value} {an od : Option Addr} {osl : Array (Option Value)} {f : Addr} {args : Args} {binds : List (Str × Value)}
-- a def with cells that catches: entered from any frame of the top's own call (outer frames' dicts are told)
theorem code_defS0C (B : Below A₀ base outer h₀) (F : Fr h₀ L s.heap m) (X₀ : K.In h₀) (N : News h₀ L s.heap news) (T : Top p loose mean mg mb h₀) (hA : A.frames = some (env :: outer)) (hf : env.frame = some L) (hke : env.scope.kind = .function)
    (hou : outer = [])
    (ho : K.lookup f = some ⟨oc, od, .func (fnOf name qual params body scope dV kV doc pm an cdv ct), osl⟩) (hcd : codeIn K cdv qual = true) (hroom : A.depth < recursionLimit)
    (hbind : BindsTo s (fnOf name qual params body scope dV kV doc pm an cdv ct) args binds) (hkind : (binds.all fun y => scope.names.lookup y.1 == some .local || scope.names.lookup y.1 == some .cell) = true)
    (hnd : ((cellsFrom 0 scope.names []).map (·.1)).Nodup)
    (h : ∀ g L' h₁ tk cells, Fr h₀ L g m → Fr g L' h₁ (bindL (envOfC qual scope L' f cdv).kindOf binds fun _ => none) → News g L' h₁ (cells ++ news) →
      CellsAre (bindC (envOfC qual scope L' f cdv).kindOf binds fun _ => none) (cellsFrom (L' + 1) scope.names []) cells → Below A base (env :: outer) g → K.In g → Top p loose mean mg mb g → (∀ p ∈ news, p.1 < L') → KtsDicts ((env :: outer).filterMap (·.frame)) g →
      wpAny (model prog w) (A.deeper (envOfC qual scope L' f cdv)) (execs body (envOfC qual scope L' f cdv))
        (fun fl s' => LeaveS0 ((env :: outer).filterMap (·.frame)) h₀ L m g R (match fl with | .ret v => v | _ => .none) s')
        (fun e s' => wpAny (model prog w) (A.deeper (envOfC qual scope L' f cdv)) (leaving (envOfC qual scope L' f cdv) e) (fun _ s'' => R (.error e) s'') (fun e' s'' => R (.error e') s'') s')
        { s with heap := h₁, toks := tk })
    (hco : scope.isCoroutine = false) (hgen : scope.isGenerator = false) (hk : scope.kind = .function) : codeAny (model prog w) A (.call (.ref f) args) R s := by
  subst hou
  have X := X₀.keeps F.keep
  have nm : ∀ b o, h₀.get? b = some o → b ∉ news.map (·.1) := fun b o e q => by
    obtain ⟨p, hp, rfl⟩ := List.mem_map.mp q
    rw [(N p hp).2.2] at e; cases e
  have st : h₀.StaysIn (hideAll s.heap (news.map (·.1))) := fun b o e => hideAll_get _ (F.keep b o e) (nm b o e)
  obtain ⟨oL, es, ep, hL, hLd, hLk, hLf⟩ := F.ns
  have nL : L ∉ news.map (·.1) := fun q => by
    obtain ⟨p, hp, e⟩ := List.mem_map.mp q
    exact (N p hp).2.1 e
  have hLg := hideAll_get (news.map (·.1)) hL nL
  have B₁ := pushX B F hf hke
  have B₂ : Below A base [env] (hideAll s.heap (news.map (·.1))) := ⟨hA, fun b o e => st b o (B.stays b o e), funFrames_hideAll B₁.frames fun env' he b hb hf' => by
    cases he with
    | head => exact nL ((Option.some.inj (hf.symm.trans hf') : L = b) ▸ hb)
    | tail _ he => cases he⟩
  have hfr : ∀ b, b ∈ ([env] : List Env).filterMap (·.frame) → b = L := fun b hb => by
    simp only [List.filterMap_cons, hf, List.filterMap_nil, List.mem_singleton] at hb
    exact hb
  refine codeAny_call_function hroom (X _ _ ho) rfl hco hgen rfl (codeRec_of X hcd) (hbind _ _ _ _ ?_)
  refine wpAny_newFunctionEnv_cells hk (kindsX hkind _) fun env' he s' x => ?_
  subst he
  refine ⟨((T.nolimit).keeps F.keep).keeps x.toInCall.keep, codeAny_func ?_⟩
  obtain ⟨h₁, tk, rfl, _⟩ := x.done
  have hk₁ := x.toInCall.keep
  obtain ⟨cells, NC, Y⟩ := Cl.news (h₀ := s.heap) (Nat.le_refl _) fun n c hm => ⟨x.cell n c (lookup_of_mem_nodup (cellsFrom_names scope.names 0 (s.heap.objs.size + 1) [] [] rfl ▸ hnd) hm), x.above n c hm⟩
  refine wpAny_mono (h _ s.heap.objs.size h₁ tk cells ⟨⟨oL, es, ep, hLg, hLd, hLk, hLf⟩, st, F.above⟩ ⟨x.toInCall.ns, fun b o e => hk₁ b o (of_hideAll _ e), Nat.le_of_eq (hideAll_size _ _)⟩ (fun p hp => ?_) Y B₂ (X₀.keeps st) (T.keeps st) (fun p hp => Heap.lt_size (N p hp).1) (fun b hb => ?_)) (fun fl s' hl => ?_) fun _ _ y => y
  · rcases List.mem_append.mp hp with hp | hp
    · refine ⟨(NC p hp).1, (NC p hp).2.1, ?_⟩
      cases q : (hideAll s.heap (news.map (·.1))).get? p.1 with
      | none => rfl
      | some o => have := of_hideAll _ q; rw [(NC p hp).2.2] at this; cases this
    · exact ⟨hk₁ _ _ (N p hp).1, Nat.ne_of_lt (Heap.lt_size (N p hp).1), hideAll_none _ (List.mem_map_of_mem hp)⟩
  · rw [hfr b hb]
    exact ⟨oL, es, ep, hLg, hLd⟩
  · obtain ⟨g', L', m', news', T', F', N', k⟩ := hl
    have nL₀ : h₀.get? L = none := kts_self F
    obtain ⟨sl, hs⟩ := T'.up hLg
    refine k ⟨⟨_, es, ep, F'.keep _ _ hs, hLd, hLk, hLf⟩, fun b o e => F'.keep b o (T'.other b o (st b o e) (fun q => by
      rw [hfr b q, nL₀] at e
      cases e)), F.above⟩ fun p hp => ⟨(N' p hp).1, fun q => ?_, ?_⟩
    · have := (N' p hp).2.2; rw [q, hs] at this; cases this
    · cases q : h₀.get? p.1 with
      | none => rfl
      | some o =>
        obtain ⟨sl', hs'⟩ := T'.up (st _ _ q)
        have := (N' p hp).2.2
        rw [hs'] at this
        cases this
end
end
end
example : True ∧ True := by w_top off; first | (walk1; done) | exact ⟨trivial, trivial⟩
example : True := by
  k_with_none
  k_with "eval Name" => (k_here; (with_reducible show wpAny _ _ (eval (Expr.Name _ _) (compEnvC _ _ _ _)) _ _ _); k_dflt (first | (name_kind "local"; refine' LCgL.ld_own ?zN ?zm ?zC ?zx ?_ ?zk ?zl ?zd; (case zk => kernel_rfl); (case zl => kernel_rfl); (case zd => kernel_rfl); (case zN => k_asm); (case zm => k_mem); (case zC => assumption); (case zx => assumption); k_whole) | (name_kind "globalImplicit"; first | (refine' LCgL.ld_global ?zF ?zX ?zT ?ze ?_ ?zg ?zk ?zl ?zd; (case zg => kernel_rfl); (case zk => kernel_rfl); (case zl => kernel_rfl); (case zd => kernel_rfl); (case zF => k_asm); (case zX => k_asm); (case zT => k_asm); (case ze => k_is); k_whole) | (refine' LCgL.ld_built ?zF ?zX ?zT ?ze ?zv ?zn ?_ ?zg ?zb ?zk ?zl ?zd; (case zg => kernel_rfl); (case zb => kernel_rfl); (case zk => kernel_rfl); (case zl => kernel_rfl); (case zd => kernel_rfl); (case zF => k_asm); (case zX => k_asm); (case zT => k_asm); (case ze => k_is); (case zv => boot_fast); (case zn => decide); k_whole))))
  k_with "eval Name" => (k_here; (fail_if_success (with_reducible show wpAny _ _ (eval (Expr.Name _ _) (compEnvC _ _ _ _)) _ _ _)); k_dflt (first | (name_kind "local"; refine' nameX_L ?zF ?zv ?_ ?za ?zb ?zc; (case zF => k_asm); (case za => kernel_rfl); (case zb => kernel_rfl); (case zc => kernel_rfl); (case zv => rfl); k_whole) | (name_kind "cell"; refine' nameX_C ?zN ?zl ?zm ?zd ?_ ?za ?zb ?zc; (case za => kernel_rfl); (case zb => kernel_rfl); (case zc => kernel_rfl); (case zN => k_asm); (case zl => rfl); (case zm => k_mem); (case zd => k_asm); k_whole) | (name_kind "globalImplicit"; first | (refine' nameX_K ?zF ?zX ?zT ?ze ?_ ?za ?zb ?zc; (case za => kernel_rfl); (case zb => kernel_rfl); (case zc => kernel_rfl); (case zF => k_asm); (case zX => k_asm); (case zT => k_asm); (case ze => k_is); k_whole) | (refine' nameX_B ?zF ?zX ?zT ?ze ?zv ?zn ?_ ?za ?zb ?zc; (case za => kernel_rfl); (case zb => kernel_rfl); (case zc => kernel_rfl); (case zF => k_asm); (case zX => k_asm); (case zT => k_asm); (case ze => k_is); (case zv => boot_fast); (case zn => decide); k_whole))))
  k_with "ite" => (k_closed; first | (with_reducible refine ite_pos ?zi ?_; (case zi => decide +kernel)) | (with_reducible refine ite_neg ?zi ?_; (case zi => decide +kernel)))
  k_with "getAttr ref" => (k_here; k_dflt (refine' get_own ?zF ?zX ?zI ?zg ?zh ?za ?zn ?zl ?zv ?_; (case zF => k_asm); (case zX => k_asm); (case zI => k_inst); (case zl => k_get); (case zg => k_is); (case zh => k_is); (case za => k_is); (case zn => k_is); (case zv => k_handed); k_whole))
  k_with "spliced" => ((with_reducible show wpAny _ _ (spliced (backTo _ (starEach (_ :: _) _))) _ _ _); k_dflt (refine args_cons ?_))
  k_with "newList" => (k_here; k_dflt (refine' newList_K ?zF ?zN ?_ ?zs; (case zF => k_asm); (case zN => k_asm); (case zs => exact Nat.le_of_ble_eq_true rfl); k_whole); k_extra "M46a0")
  k_with "MY ltp" => ((with_reducible rename @LT.lt Nat _ _ _ ∧ _ => kL); first | (with_reducible first | exact kL.1 | exact kL.2 | exact kL.2.1 | exact kL.2.2 | exact kL.2.2.1 | exact kL.2.2.2 | exact kL.2.2.2.1 | exact kL.2.2.2.2 | exact kL.2.2.2.2.1 | exact kL.2.2.2.2.2 | exact kL.2.2.2.2.2.1 | exact kL.2.2.2.2.2.2 | exact kL.2.2.2.2.2.2.1 | exact kL.2.2.2.2.2.2.2 | exact kL.2.2.2.2.2.2.2.1 | exact kL.2.2.2.2.2.2.2.2 | exact kL.2.2.2.2.2.2.2.2.1 | exact kL.2.2.2.2.2.2.2.2.2 | exact kL.2.2.2.2.2.2.2.2.2.1 | exact kL.2.2.2.2.2.2.2.2.2.2 | exact kL.2.2.2.2.2.2.2.2.2.2.1 | exact kL.2.2.2.2.2.2.2.2.2.2.2 | exact kL.2.2.2.2.2.2.2.2.2.2.2.1 | exact kL.2.2.2.2.2.2.2.2.2.2.2.2 | exact kL.2.2.2.2.2.2.2.2.2.2.2.2.1 | exact kL.2.2.2.2.2.2.2.2.2.2.2.2.2 | exact kL.2.2.2.2.2.2.2.2.2.2.2.2.2.1 | exact kL.2.2.2.2.2.2.2.2.2.2.2.2.2.2 | exact kL.2.2.2.2.2.2.2.2.2.2.2.2.2.2.1 | exact kL.2.2.2.2.2.2.2.2.2.2.2.2.2.2.2 | exact kL.2.2.2.2.2.2.2.2.2.2.2.2.2.2.2.1 | exact kL.2.2.2.2.2.2.2.2.2.2.2.2.2.2.2.2 | exact kL.2.2.2.2.2.2.2.2.2.2.2.2.2.2.2.2.1 | exact kL.2.2.2.2.2.2.2.2.2.2.2.2.2.2.2.2.2 | exact kL.2.2.2.2.2.2.2.2.2.2.2.2.2.2.2.2.2.1 | exact kL.2.2.2.2.2.2.2.2.2.2.2.2.2.2.2.2.2.2 | exact kL.2.2.2.2.2.2.2.2.2.2.2.2.2.2.2.2.2.2.1 | exact kL.2.2.2.2.2.2.2.2.2.2.2.2.2.2.2.2.2.2.2 | exact kL.2.2.2.2.2.2.2.2.2.2.2.2.2.2.2.2.2.2.2.1 | exact kL.2.2.2.2.2.2.2.2.2.2.2.2.2.2.2.2.2.2.2.2 | exact kL.2.2.2.2.2.2.2.2.2.2.2.2.2.2.2.2.2.2.2.2.1 | exact kL.2.2.2.2.2.2.2.2.2.2.2.2.2.2.2.2.2.2.2.2.2 | exact kL.2.2.2.2.2.2.2.2.2.2.2.2.2.2.2.2.2.2.2.2.2.1 | exact kL.2.2.2.2.2.2.2.2.2.2.2.2.2.2.2.2.2.2.2.2.2.2 | exact kL.2.2.2.2.2.2.2.2.2.2.2.2.2.2.2.2.2.2.2.2.2.2.1 | exact kL.2.2.2.2.2.2.2.2.2.2.2.2.2.2.2.2.2.2.2.2.2.2.2) | (clear kL; k_extra "MY ltp"))
  k_with "MY ne" => first | (refine Nat.ne_of_gt ?_; k_extra "MY ltp") | (refine Nat.ne_of_lt ?_; k_extra "MY ltp")
  k_with "newTuple" => (k_here; k_dflt (refine' kup_newTuple ?zF ?zN ?_ ?zs; (case zF => k_asm); (case zN => k_asm); (case zs => kmk_size)); k_extra "M46a0")
  k_with "MY ltq" => first | with_reducible assumption | k_extra "MY ltp" | ((with_reducible refine' Nat.lt_trans ?_ ?klb); (case klb => with_reducible assumption); k_extra "MY ltq") | ((with_reducible refine' Nat.lt_trans ?kla ?_); (case kla => with_reducible assumption); k_extra "MY ltp") | ((with_reducible refine' Nat.lt_succ_of_lt ?_); first | with_reducible assumption | k_extra "MY ltp" | ((with_reducible refine' Nat.lt_succ_of_lt ?_); first | with_reducible assumption | k_extra "MY ltp")) | ((with_reducible refine' Mine.mem_allLt ?_ _ ?klm); (case klm => with_reducible assumption); first | with_reducible assumption | k_extra "MY ltp")
  k_with "MY lo" => first | ((with_reducible show @LT.lt Nat _ _ _); (try dsimp only); k_extra "MY ltq") | ((with_reducible show @Ne Nat _ _); (try dsimp only); first | with_reducible assumption | (refine Ne.symm ?_; with_reducible assumption) | (refine Nat.ne_of_gt ?_; k_extra "MY ltq") | (refine Nat.ne_of_lt ?_; k_extra "MY ltq")) | decide
  k_with "H mem" => first | exact List.Mem.head _ | (refine' List.Mem.tail _ ?_; k_extra "H mem") | ((fail_if_success refine' List.Mem.tail _ ?_); change (_ : Addr × Obj) ∈ (_ : List (Addr × Obj)); first | with_reducible assumption | (with_reducible refine' List.mem_append_left _ ?_; k_extra "H mem") | (with_reducible refine' List.mem_append_right _ ?_; k_extra "H mem"))
  k_with "H room" => ((try simp only [depth_under_make, depth_under_kw, depth_in1, depth_deeper, depth_caller]); (try dsimp only [ktrTop]); first | decide | ((try simp only [Nat.add_assoc, Nat.reduceAdd]); (with_reducible rename _ + _ < recursionLimit => kH); first | exact Mine.room_of kH rfl | exact Mine.room_at kH) | omega)
  k_with "H units" => ((try simp only [units_in1, units_deeper, Around.mark_units, units_caller]); (try dsimp only [ktrTop]); first | decide | ((try simp only [Nat.add_assoc, Nat.reduceAdd]); (with_reducible rename _ + _ < cLine => kH); first | exact Mine.room_of kH rfl | exact Mine.room_at kH) | omega)
  k_with "H ne" => (refine neN ?_; (try dsimp only); first | with_reducible assumption | (refine Ne.symm ?_; with_reducible assumption) | (with_reducible first | exact Nat.ne_of_lt (by assumption) | exact Nat.ne_of_gt (by assumption)) | k_extra "MY ne" | ((with_reducible rename (_ ≠ _ ∧ _ ≠ _ ∧ _ ≠ _) ∧ _ => kOff); first | (simp only [kOff, ne_eq, not_false_eq_true]; done) | (refine Ne.symm ?_; simp only [kOff, ne_eq, not_false_eq_true]; done)) | k_extra "MY lo" | omega)
  trivial
example : True := by
  k_with "MY fn" => (refine wpAny_call ?_; k_dflt cell_enter)
  k_with "MY cls" => (k_dflt (refine' call_cls ?zq1 ?zq2 ?zq3 ?zq4 ?zq5 ?zq6 ?_; (case zq1 => k_asm); (case zq2 => k_asm); (case zq3 => k_asm); (case zq4 => k_is); (case zq5 => k_is); (case zq6 => k_is); k_extra "M6a5f"))
  k_with "MY sub" => repeat' (first | exact List.forall_mem_nil _ | exact Mine.sub_refl | (refine Mine.sub_cons (by k_mem) ?_) | refine Mine.sub_tail ?_)
  k_with "callWith ref" => (k_here; k_dflt (first | refine' callWith_K ?zq1 ?zq2 ?_; (case zq1 => k_asm); (case zq2 => k_is); k_whole | (refine' callWith_K0 (Frag.In.keeps ?zq1 (Fr.keep ?zqF)) ?zq2 ?_; (case zqF => k_asm); (case zq1 => k_asm); (case zq2 => k_is); k_whole) | refine' callWith_K0 ?zq1 ?zq2 ?_; (case zq1 => k_in); (case zq2 => k_is); k_whole))
  trivial
local macro_rules | `(tactic| k_room) => `(tactic| ktr_room)
local macro_rules | `(tactic| k_extra "M6a5f") => `(tactic| (intro x0 x1 x2 x3 x4 x5 x6; (try k_lt x5); (try k_lt2 x6); (try k_sweep); cell_enter))
example : True := by
  k_with "MY fn" => (refine wpAny_call ?_; k_dflt cell_enter)
  k_with "MY cls" => (k_dflt (refine' call_cls ?zq1 ?zq2 ?zq3 ?zq4 ?zq5 ?zq6 ?_; (case zq1 => k_asm); (case zq2 => k_asm); (case zq3 => k_asm); (case zq4 => k_is); (case zq5 => k_is); (case zq6 => k_is); k_extra "M6a5f"))
  k_with "MY sub" => repeat' (first | exact List.forall_mem_nil _ | exact Mine.sub_refl | (refine Mine.sub_cons (by k_mem) ?_) | refine Mine.sub_tail ?_)
  k_with "callWith ref" => (k_here; k_dflt (first | refine' callWith_K ?zq1 ?zq2 ?_; (case zq1 => k_asm); (case zq2 => k_is); k_whole | (refine' callWith_K0 (Frag.In.keeps ?zq1 (Fr.keep ?zqF)) ?zq2 ?_; (case zqF => k_asm); (case zq1 => k_asm); (case zq2 => k_is); k_whole) | refine' callWith_K0 ?zq1 ?zq2 ?_; (case zq1 => k_in); (case zq2 => k_is); k_whole))
  k_with "getMethod ref" => (k_here; k_dflt (refine' Mine.xg_methodK ?zqF ?zqX ?zqN ?zqs ?zqx ?zqc ?zqn ?zqo ?zqm ?zqb ?zqd ?_; (case zqF => k_asm); (case zqX => k_asm); (case zqN => k_asm); (case zqs => k_mem); (case zqx => k_mem); (case zqc => exact rfl); (case zqn => exact rfl); (case zqo => k_is); (case zqm => ks_is); (case zqb => k_is); (case zqd => decide); k_extra "Md797"))
  k_with "callWith ref" => (k_here; k_dflt (refine' Mine.xg_callWith ?zqN ?zqq ?_ ?zqe ?zqp; (case zqe => rfl); (case zqp => rfl); (case zqN => k_asm); (case zqq => k_mem); k_whole))
  k_with "And" => ((with_reducible show Heap.get? _ _ = some (mwObj _) ∧ _); k_dflt (refine ⟨News.get (by k_asm) (by k_mem), ?_⟩); try dsimp only [List.nil_append, List.cons_append])
  k_with "wpAt" => (ks_step "attributeBase Call"; k_here; k_dflt (refine ks_node (by k_asm) (by k_asm) (by k_asm) (by k_asm) (by k_is) (by rfl) (by rfl) (excAt (by k_asm) (by k_mem)) (by k_is) (by rfl) (by first | rfl | decide +kernel) (by k_is) (by k_is) (by k_is) (by k_is) (by decide) (by rfl) (by rfl) (by rfl) (by rfl) (by decide +kernel) (by first | boot_by_name | rfl | kernel_rfl) ?_; k_extra "Md797"))
  k_with "MY super" => (refine' ks_code_super ?zq1 ?zq2 ?zq3 ?zq4 ?zq5 ?zqA ?zqF ?zqK ?zq6 ?zq7 ?zq8 ?zq9 ?zqB ?_ ?zc1 ?zc2 ?zc3 ?zc4; (case zqA => exact rfl); (case zqF => exact rfl); (case zqK => k_asm); (case zq1 => k_asm); (case zq2 => k_asm); (case zq3 => k_asm); (case zq4 => k_asm); (case zq5 => k_asm); (case zq6 => k_is); (case zq7 => k_is); (case zq8 => ktr_room); (case zq9 => first | exact BindsTo.of_eq rfl | exact binds_K (by k_in) rfl (by k_is) rfl rfl rfl); (case zqB => exact locs rfl); (case zc1 => decide); (case zc2 => exact rfl); (case zc3 => exact rfl); (case zc4 => exact rfl); k_extra "M9769")
  k_with "call ref" => (k_here; k_dflt (refine' Mine.xg_callU ?zqF ?zqN ?zqU ?zqq ?zqX ?zqC ?_; (case zqF => k_asm); (case zqN => k_asm); (case zqq => k_mem); (case zqU => k_updF); (case zqX => k_asm); (case zqC => k_is); k_extra "M5cf3"))
  k_with "setAttr ref" => (k_here; k_dflt (first | (refine' Mine.xs_attrN ?zqF ?zqX ?zqN ?zqU ?zq1 ?zq2 ?zq3 ?zq4 ?zq5 ?zq6 ?zq7 ?zq8 ?_; (case zqF => k_asm); (case zqX => k_asm); (case zqN => k_asm); (case zqU => k_updF); (case zq1 => k_is); (case zq2 => k_is); (case zq3 => exact rfl); (case zq4 => exact Mine.ff_refuse _); (case zq5 => k_is); (case zq6 => k_is); (case zq7 => k_put); (case zq8 => exact Nat.le_of_ble_eq_true rfl); k_extra "M5cf3") | (refine' Mine.xs_attrD ?zqF ?zqX ?zqN ?zqx ?zqy ?zqU ?zq1 ?zq2 ?zq3 ?zq4 ?zq5 ?zq6 ?zq9 ?zq7 ?zq8 ?_; (case zqF => k_asm); (case zqX => k_asm); (case zqN => k_asm); (case zqx => k_mem); (case zqy => k_mem); (case zq9 => k_get); (case zq7 => k_put); (case zqU => k_upd); (case zq1 => k_is); (case zq2 => k_is); (case zq3 => exact rfl); (case zq4 => exact Mine.ff_refuse _); (case zq5 => k_is); (case zq6 => k_is); (case zq8 => exact Nat.le_of_ble_eq_true rfl); k_extra "M0d68")))
  trivial
local macro_rules | `(tactic| k_extra "Md797") => `(tactic| (intro x0 x1 x2 x3 x4; (try k_lt x4)))
local macro_rules | `(tactic| k_extra "M9769") => `(tactic| (intro x0 x1 x2 x3 x4 x5 x6 x7 x8 x9; (try k_lt x9); (try dsimp only); (try k_lift x6); (try k_fold)))
local macro_rules | `(tactic| k_extra "M5cf3") => `(tactic| (intro x0 x1 x2 x3 x4; (try dsimp only at x3); (try k_lt x4); (try k_sweep)))
local macro_rules | `(tactic| k_extra "M0d68") => `(tactic| (intro x0 x1 x2; (try k_sweep)))
theorem ff_init {w : World} {p : Program} {loose : List Str} {mean : ExcName → Option Value} {mg mb : Str → Option Value} {e t : Addr} {msg : Str} {tm : Tok} {vs : List Value} {rest : List (Addr × Obj)}
  (hoff : OwnOff rest [e]) (hte : @Ne Nat t e)
  : ∀ (dp un : Nat) (gd : Option (List Code)) (cn : Str) (cs : Scope) (a : Addr) (ccd : Value) (cl : List (Str × Addr)) (outer : List Env) (A₀ : Around) (base h₀ : Heap) (L : Addr) (m : Str → Option Value) (s : Shared) (Q E : Value → Shared → Prop)
  (_B : Below A₀ base outer h₀) (_F : Fr h₀ L s.heap m) (_X : (hd.heap_39 w.params).In h₀) (_N : News h₀ L s.heap ((e, excObj 61 t) :: (t, { cls := .type "tuple", data := .seq vs.toArray }) :: rest)) (_T : Top p loose mean mg mb h₀) (_hk : cs.kind = .function)
  (_hd : dp + 2 < recursionLimit) (_hu : un + 16 < cLine)
  (_hret : ∀ d t h' tk', Fr h₀ L h' m → News h₀ L h' ((e, excObjD 61 t d) :: (t, { cls := .type "tuple", data := .seq [Value.str msg tm].toArray }) :: rest) → (∀ p ∈ rest, p.1 ≠ t) → Q .none { s with heap := h', toks := tk' }) ,
  wpAny (model PySem.Challenge.rw_nu0220_01.row.prog w) (ktrTop dp un gd cn cs L a ccd cl outer) (call (.ref 38) [.ref e, .str msg tm]) Q E s := by
  k_fill
  intro dp un gd cn cs a ccd cl outer A₀ base h₀ L m s Q E B F X N T hk hd hu hret
  refine wpAny_call ?_
  k_dflt (k_extra "MY super")
  k_steps
  refine hret _ _ _ _ (by k_asm) (news_sub (by k_asm) (by k_extra "MY sub")) ?_
  exact fun p hp => Nat.ne_of_lt (mem_allLt (by simp only [*]) p hp)

theorem ff_new {w : World} {p : Program} {loose : List Str} {mean : ExcName → Option Value} {mg mb : Str → Option Value} {msg : Str} {tm : Tok} {rest : List (Addr × Obj)}
  
  : ∀ (dp un : Nat) (gd : Option (List Code)) (cn : Str) (cs : Scope) (a : Addr) (ccd : Value) (cl : List (Str × Addr)) (outer : List Env) (A₀ : Around) (base h₀ : Heap) (L : Addr) (m : Str → Option Value) (s : Shared) (Q E : Value → Shared → Prop)
  (_B : Below A₀ base outer h₀) (_F : Fr h₀ L s.heap m) (_X : (hd.heap_39 w.params).In h₀) (_N : News h₀ L s.heap (rest)) (_T : Top p loose mean mg mb h₀) (_hk : cs.kind = .function)
  (_hd : dp + 4 < recursionLimit) (_hu : un + 32 < cLine)
  (_hret : ∀ e d t h' tk', Fr h₀ L h' m → News h₀ L h' ((e, excObjD 61 t d) :: (t, { cls := .type "tuple", data := .seq [Value.str msg tm].toArray }) :: rest) → (∀ p ∈ rest, p.1 ≠ e ∧ p.1 ≠ t) → Q (.ref e) { s with heap := h', toks := tk' }) ,
  wpAny (model PySem.Challenge.rw_nu0220_01.row.prog w) (ktrTop dp un gd cn cs L a ccd cl outer) (call (.ref 61) [.str msg tm]) Q E s := by
  k_fill
  intro dp un gd cn cs a ccd cl outer A₀ base h₀ L m s Q E B F X N T hk hd hu hret
  have hX := X.keeps F.keep
  obtain ⟨hh, gg, dd, tk, os⟩ := s
  refine xc_call (by decide) (by decide) (by decide) hX (hX 61 _ rfl) (by k_is) (by k_is) (fun h' e hm => ?_) (by size_fits)
  obtain ⟨t, he, htn, ht⟩ := hm.there
  have F' := F.keeps hm.keeps
  have hLh := F.ns.lt
  have fresh : ∀ b, hh.get? b = none → b ≠ L ∧ h₀.get? b = none := fun b hb => by
    constructor
    · rintro rfl
      obtain ⟨o, _, _, ho, _⟩ := F.ns
      rw [show hh.get? b = some o from ho] at hb; cases hb
    · cases q : h₀.get? b with
      | none => rfl
      | some o => have := F.keep _ _ q; rw [show hh.get? b = none from hb] at this; cases this
  have nr : ∀ b, hh.get? b = none → ∀ p ∈ rest, p.1 ≠ b := fun b hb p hp z => by
    have := (N p hp).1; rw [z, show hh.get? b = none from hb] at this; cases this
  have hte : @Ne Nat t e := by
    rintro rfl
    rw [he] at ht; injection ht with ht; injection ht with ht; cases ht
  have N' : News h₀ L h' ((e, excObj 61 t) :: (t, { cls := .type "tuple", data := .seq [Value.str msg tm].toArray }) :: rest) := fun p hp => by
    rcases List.mem_cons.mp hp with rfl | hp
    · exact ⟨he, fresh _ hm.new⟩
    rcases List.mem_cons.mp hp with rfl | hp
    · exact ⟨ht, fresh _ htn⟩
    · exact ⟨hm.keeps _ _ (N p hp).1, (N p hp).2⟩
  refine ff_init (fun p hp b hb => ?_) hte _ _ _ _ _ _ _ _ _ _ _ _ _ _ ⟨h', gg, dd, tk, os⟩ _ _ B F' X N' T hk ?_ ?_ ?_
  · rw [List.mem_singleton.mp hb]; exact nr _ hm.new p hp
  · have w1 : (Code.builtin "type.__call__" ⟨[.ref 61, .str msg tm], []⟩).weight = 1 := rfl
    ktr_room
  · have w1 : (Code.builtin "type.__call__" ⟨[.ref 61, .str msg tm], []⟩).cUnits ≤ 8 := Nat.le_of_ble_eq_true rfl
    ktr_units
  · intro d t' h'' tk' F'' N'' l''
    exact ⟨rfl, hret e d t' h'' tk' F'' N'' fun p hp => ⟨nr _ hm.new p hp, l'' p hp⟩⟩
example : True ∧ True := by w_top off; first | (walk1; done) | exact ⟨trivial, trivial⟩
example : True := by
  k_with_none
  k_with "eval Name" => (k_here; (with_reducible show wpAny _ _ (eval (Expr.Name _ _) (compEnvC _ _ _ _)) _ _ _); k_dflt (first | (name_kind "local"; refine' LCgL.ld_own ?zN ?zm ?zC ?zx ?_ ?zk ?zl ?zd; (case zk => kernel_rfl); (case zl => kernel_rfl); (case zd => kernel_rfl); (case zN => k_asm); (case zm => k_mem); (case zC => assumption); (case zx => assumption); k_whole) | (name_kind "globalImplicit"; first | (refine' LCgL.ld_global ?zF ?zX ?zT ?ze ?_ ?zg ?zk ?zl ?zd; (case zg => kernel_rfl); (case zk => kernel_rfl); (case zl => kernel_rfl); (case zd => kernel_rfl); (case zF => k_asm); (case zX => k_asm); (case zT => k_asm); (case ze => k_is); k_whole) | (refine' LCgL.ld_built ?zF ?zX ?zT ?ze ?zv ?zn ?_ ?zg ?zb ?zk ?zl ?zd; (case zg => kernel_rfl); (case zb => kernel_rfl); (case zk => kernel_rfl); (case zl => kernel_rfl); (case zd => kernel_rfl); (case zF => k_asm); (case zX => k_asm); (case zT => k_asm); (case ze => k_is); (case zv => boot_fast); (case zn => decide); k_whole))))
  k_with "eval Name" => (k_here; (fail_if_success (with_reducible show wpAny _ _ (eval (Expr.Name _ _) (compEnvC _ _ _ _)) _ _ _)); k_dflt (first | (name_kind "local"; refine' nameX_L ?zF ?zv ?_ ?za ?zb ?zc; (case zF => k_asm); (case za => kernel_rfl); (case zb => kernel_rfl); (case zc => kernel_rfl); (case zv => rfl); k_whole) | (name_kind "cell"; refine' nameX_C ?zN ?zl ?zm ?zd ?_ ?za ?zb ?zc; (case za => kernel_rfl); (case zb => kernel_rfl); (case zc => kernel_rfl); (case zN => k_asm); (case zl => rfl); (case zm => k_mem); (case zd => k_asm); k_whole) | (name_kind "globalImplicit"; first | (refine' nameX_K ?zF ?zX ?zT ?ze ?_ ?za ?zb ?zc; (case za => kernel_rfl); (case zb => kernel_rfl); (case zc => kernel_rfl); (case zF => k_asm); (case zX => k_asm); (case zT => k_asm); (case ze => k_is); k_whole) | (refine' nameX_B ?zF ?zX ?zT ?ze ?zv ?zn ?_ ?za ?zb ?zc; (case za => kernel_rfl); (case zb => kernel_rfl); (case zc => kernel_rfl); (case zF => k_asm); (case zX => k_asm); (case zT => k_asm); (case ze => k_is); (case zv => boot_fast); (case zn => decide); k_whole))))
  k_with "ite" => (k_closed; first | (with_reducible refine ite_pos ?zi ?_; (case zi => decide +kernel)) | (with_reducible refine ite_neg ?zi ?_; (case zi => decide +kernel)))
  k_with "getAttr ref" => (k_here; k_dflt (refine' get_own ?zF ?zX ?zI ?zg ?zh ?za ?zn ?zl ?zv ?_; (case zF => k_asm); (case zX => k_asm); (case zI => k_inst); (case zl => k_get); (case zg => k_is); (case zh => k_is); (case za => k_is); (case zn => k_is); (case zv => k_handed); k_whole))
  k_with "spliced" => ((with_reducible show wpAny _ _ (spliced (backTo _ (starEach (_ :: _) _))) _ _ _); k_dflt (refine args_cons ?_))
  k_with "newList" => (k_here; k_dflt (refine' newList_K ?zF ?zN ?_ ?zs; (case zF => k_asm); (case zN => k_asm); (case zs => exact Nat.le_of_ble_eq_true rfl); k_whole); k_extra "M46a0")
  k_with "MY ltp" => ((with_reducible rename @LT.lt Nat _ _ _ ∧ _ => kL); first | (with_reducible first | exact kL.1 | exact kL.2 | exact kL.2.1 | exact kL.2.2 | exact kL.2.2.1 | exact kL.2.2.2 | exact kL.2.2.2.1 | exact kL.2.2.2.2 | exact kL.2.2.2.2.1 | exact kL.2.2.2.2.2 | exact kL.2.2.2.2.2.1 | exact kL.2.2.2.2.2.2 | exact kL.2.2.2.2.2.2.1 | exact kL.2.2.2.2.2.2.2 | exact kL.2.2.2.2.2.2.2.1 | exact kL.2.2.2.2.2.2.2.2 | exact kL.2.2.2.2.2.2.2.2.1 | exact kL.2.2.2.2.2.2.2.2.2 | exact kL.2.2.2.2.2.2.2.2.2.1 | exact kL.2.2.2.2.2.2.2.2.2.2 | exact kL.2.2.2.2.2.2.2.2.2.2.1 | exact kL.2.2.2.2.2.2.2.2.2.2.2 | exact kL.2.2.2.2.2.2.2.2.2.2.2.1 | exact kL.2.2.2.2.2.2.2.2.2.2.2.2 | exact kL.2.2.2.2.2.2.2.2.2.2.2.2.1 | exact kL.2.2.2.2.2.2.2.2.2.2.2.2.2 | exact kL.2.2.2.2.2.2.2.2.2.2.2.2.2.1 | exact kL.2.2.2.2.2.2.2.2.2.2.2.2.2.2 | exact kL.2.2.2.2.2.2.2.2.2.2.2.2.2.2.1 | exact kL.2.2.2.2.2.2.2.2.2.2.2.2.2.2.2 | exact kL.2.2.2.2.2.2.2.2.2.2.2.2.2.2.2.1 | exact kL.2.2.2.2.2.2.2.2.2.2.2.2.2.2.2.2 | exact kL.2.2.2.2.2.2.2.2.2.2.2.2.2.2.2.2.1 | exact kL.2.2.2.2.2.2.2.2.2.2.2.2.2.2.2.2.2 | exact kL.2.2.2.2.2.2.2.2.2.2.2.2.2.2.2.2.2.1 | exact kL.2.2.2.2.2.2.2.2.2.2.2.2.2.2.2.2.2.2 | exact kL.2.2.2.2.2.2.2.2.2.2.2.2.2.2.2.2.2.2.1 | exact kL.2.2.2.2.2.2.2.2.2.2.2.2.2.2.2.2.2.2.2 | exact kL.2.2.2.2.2.2.2.2.2.2.2.2.2.2.2.2.2.2.2.1 | exact kL.2.2.2.2.2.2.2.2.2.2.2.2.2.2.2.2.2.2.2.2 | exact kL.2.2.2.2.2.2.2.2.2.2.2.2.2.2.2.2.2.2.2.2.1 | exact kL.2.2.2.2.2.2.2.2.2.2.2.2.2.2.2.2.2.2.2.2.2 | exact kL.2.2.2.2.2.2.2.2.2.2.2.2.2.2.2.2.2.2.2.2.2.1 | exact kL.2.2.2.2.2.2.2.2.2.2.2.2.2.2.2.2.2.2.2.2.2.2 | exact kL.2.2.2.2.2.2.2.2.2.2.2.2.2.2.2.2.2.2.2.2.2.2.1 | exact kL.2.2.2.2.2.2.2.2.2.2.2.2.2.2.2.2.2.2.2.2.2.2.2) | (clear kL; k_extra "MY ltp"))
  k_with "MY ne" => first | (refine Nat.ne_of_gt ?_; k_extra "MY ltp") | (refine Nat.ne_of_lt ?_; k_extra "MY ltp")
  k_with "newTuple" => (k_here; k_dflt (refine' kup_newTuple ?zF ?zN ?_ ?zs; (case zF => k_asm); (case zN => k_asm); (case zs => kmk_size)); k_extra "M46a0")
  k_with "MY ltq" => first | with_reducible assumption | k_extra "MY ltp" | ((with_reducible refine' Nat.lt_trans ?_ ?klb); (case klb => with_reducible assumption); k_extra "MY ltq") | ((with_reducible refine' Nat.lt_trans ?kla ?_); (case kla => with_reducible assumption); k_extra "MY ltp") | ((with_reducible refine' Nat.lt_succ_of_lt ?_); first | with_reducible assumption | k_extra "MY ltp" | ((with_reducible refine' Nat.lt_succ_of_lt ?_); first | with_reducible assumption | k_extra "MY ltp")) | ((with_reducible refine' Mine.mem_allLt ?_ _ ?klm); (case klm => with_reducible assumption); first | with_reducible assumption | k_extra "MY ltp")
  k_with "MY lo" => first | ((with_reducible show @LT.lt Nat _ _ _); (try dsimp only); k_extra "MY ltq") | ((with_reducible show @Ne Nat _ _); (try dsimp only); first | with_reducible assumption | (refine Ne.symm ?_; with_reducible assumption) | (refine Nat.ne_of_gt ?_; k_extra "MY ltq") | (refine Nat.ne_of_lt ?_; k_extra "MY ltq")) | decide
  k_with "H mem" => first | exact List.Mem.head _ | (refine' List.Mem.tail _ ?_; k_extra "H mem") | ((fail_if_success refine' List.Mem.tail _ ?_); change (_ : Addr × Obj) ∈ (_ : List (Addr × Obj)); first | with_reducible assumption | (with_reducible refine' List.mem_append_left _ ?_; k_extra "H mem") | (with_reducible refine' List.mem_append_right _ ?_; k_extra "H mem"))
  k_with "H room" => ((try simp only [depth_under_make, depth_under_kw, depth_in1, depth_deeper, depth_caller]); (try dsimp only [ktrTop]); first | decide | ((try simp only [Nat.add_assoc, Nat.reduceAdd]); (with_reducible rename _ + _ < recursionLimit => kH); first | exact Mine.room_of kH rfl | exact Mine.room_at kH) | omega)
  k_with "H units" => ((try simp only [units_in1, units_deeper, Around.mark_units, units_caller]); (try dsimp only [ktrTop]); first | decide | ((try simp only [Nat.add_assoc, Nat.reduceAdd]); (with_reducible rename _ + _ < cLine => kH); first | exact Mine.room_of kH rfl | exact Mine.room_at kH) | omega)
  k_with "H ne" => (refine neN ?_; (try dsimp only); first | with_reducible assumption | (refine Ne.symm ?_; with_reducible assumption) | (with_reducible first | exact Nat.ne_of_lt (by assumption) | exact Nat.ne_of_gt (by assumption)) | k_extra "MY ne" | ((with_reducible rename (_ ≠ _ ∧ _ ≠ _ ∧ _ ≠ _) ∧ _ => kOff); first | (simp only [kOff, ne_eq, not_false_eq_true]; done) | (refine Ne.symm ?_; simp only [kOff, ne_eq, not_false_eq_true]; done)) | k_extra "MY lo" | omega)
  trivial
section
open PySem.Calls
section
namespace XF
theorem lk_list_keys : typeLookup (.type "list") "keys" = pure none := by rw [typeLookup_type, builtinLookup_eq_fast]; kernel_rfl
end XF
section
variable {prog : Program} {w : World} {A : Around} {E : Value → Shared → Prop} {h : Heap} {g : Array GenState} {d : Drawn} {t : Nat} {os : OsState} {a : Addr} {o : Obj}
theorem keys_none {xs : Array Value} {k : Nat} {sl : Array (Option Value)} {Q : Option Value → Shared → Prop} (hx : h.get? a = some { cls := .type "list", dict := none, data := .seq xs k, slots := sl }) (hA : A.handled = none)
    (hq : ∀ h' tk, (∀ b o, h.get? b = some o → h'.get? b = some o) → Q none ⟨h', g, d, tk, os⟩) :
    wpAny (model prog w) A (getAttr? (.ref a) "keys") Q E ⟨h, g, d, t, os⟩ := by
  have hT : ∀ tk', (⟨h, g, d, tk', os⟩ : Shared).TypeIs (.ref a) "list" := fun _ => ⟨_, hx, rfl⟩
  have f1 := sub_AttributeError
  have f3 := PySem.F.slot_list_getattribute.lookup
  have f4 := PySem.F.slot_list_getattribute.bind (.ref a)
  have f5 := am_list_getattr_none
  unfold getAttr? getAttrBy? getAttrBy
  repeat (any_goals (first | assumption | exact hT _ | ((with_reducible show wpAny _ _ (call (Value.builtin "list.__getattribute__") _ _) _ _ _); refine call_meets PySem.F.slot_list_getattribute (hT _) am_entry_list_getattribute (PySem.F.args_list_getattribute_2 _ _) (meets_getattribute_miss_list a xs k sl "keys" _ XF.lk_list_keys (by decide +kernel)) ⟨hx, hA, fun h' tk' e hx' => ?_⟩) | wp_step))
  obtain ⟨t', u', he⟩ := hx'.there
  show wpAny _ _ (getattributeRaised _ _ _ _ _ _ _) _ _ _
  unfold getattributeRaised
  repeat (any_goals (first | assumption | wp_step))
  exact hq _ _ hx'.keeps
end
end
section
namespace XF
theorem entry_dul : entryFor table "dict.update.loop" = some Builtin.«dict.update.loop» := entryFor_of_tree (by kernel_rfl)
theorem plain_dul : plainId "dict.update.loop" = true := by decide +kernel
theorem sub_list_dict : isSubtype (.type "list") (.type "dict") = pure false := by rw [isSubtype_type]; kernel_rfl
end XF
section
variable {prog : Program} {w : World} {K : Type} [DecidableEq K] {knd : KeyKind prog w K} {A : Around} {E : Value → Shared → Prop} {s : Shared} {R : Result → Shared → Prop}
-- a list of pair tuples of the ledger
inductive PairsIn (knd : KeyKind prog w K) (news : List (Addr × Obj)) : List Value → List (K × Value) → Prop
  | nil : PairsIn knd news [] []
  | cons {q : Addr} {key val : Value} {k : K} {n : Nat} {vs : List Value} {kvs : List (K × Value)} (hm : (q, ({ cls := .type "tuple", data := .seq [key, val].toArray n } : Obj)) ∈ news) (hk : knd.is k key = true) (r : PairsIn knd news vs kvs) : PairsIn knd news (.ref q :: vs) ((k, val) :: kvs)
theorem PairsIn.length {news : List (Addr × Obj)} {vs : List Value} {kvs : List (K × Value)} (h : PairsIn knd news vs kvs) : vs.length = kvs.length := by
  induction h with
  | nil => rfl
  | cons _ _ _ ih => simp [ih]
theorem PairsIn.at {news : List (Addr × Obj)} {vs : List Value} {kvs : List (K × Value)} (h : PairsIn knd news vs kvs) : ∀ {i : Nat} {v : Value}, vs[i]? = some v →
    ∃ q key val k n, v = .ref q ∧ (q, ({ cls := .type "tuple", data := .seq [key, val].toArray n } : Obj)) ∈ news ∧ knd.is k key = true ∧ kvs[i]? = some (k, val) := by
  induction h with
  | nil => intro i v e; simp at e
  | cons hm hk _ ih =>
    intro i v e
    cases i with
    | zero => simp at e; subst e; exact ⟨_, _, _, _, _, rfl, hm, hk, rfl⟩
    | succ i => simp at e; obtain ⟨q, key, val, k, n, a, b, c, d⟩ := ih e; exact ⟨q, key, val, k, n, a, b, c, by simpa using d⟩
theorem PairsIn.mono {news news' : List (Addr × Obj)} {vs : List Value} {kvs : List (K × Value)} (h : PairsIn knd news vs kvs) (hs : ∀ p ∈ news, p ∈ news') : PairsIn knd news' vs kvs := by
  induction h with
  | nil => exact .nil
  | cons hm hk _ ih => exact .cons (hs _ hm) hk ih
theorem PairsIn.snoc {news : List (Addr × Obj)} {vs : List Value} {kvs : List (K × Value)} (h : PairsIn knd news vs kvs) {q : Addr} {key val : Value} {k : K} {n : Nat} (hm : (q, ({ cls := .type "tuple", data := .seq [key, val].toArray n } : Obj)) ∈ news) (hk : knd.is k key = true) :
    PairsIn knd news (vs ++ [.ref q]) (kvs ++ [(k, val)]) := by
  induction h with
  | nil => exact .cons hm hk .nil
  | cons hm' hk' _ ih => exact .cons hm' hk' ih

theorem dl_loop (hh : A.handled = none) {I l d : Addr} {pl : List (Addr × Obj)} {its : List Value} {kvs : List (K × Value)} (hIl : l ≠ I) (hdI : d ≠ I) (hdl : d ≠ l) (hpl : ∀ p ∈ pl, p.1 ≠ I ∧ p.1 ≠ d) (hP : PairsIn knd pl its kvs) (hsz : its.length ≤ sizeLine) :
    ∀ (k i : Nat) (t : Tok) (s : Shared), its.length - i = k → i ≤ its.length → s.heap.IsListIter I l i → s.heap.IsList l its.toArray → (∀ p ∈ pl, s.heap.get? p.1 = some p.2) → s.heap.DictOf knd d (merged [] (kvs.take i)) →
      (∀ h' tk, h'.DictOf knd d (merged [] kvs) → (∀ b o, b ≠ I → b ≠ d → s.heap.get? b = some o → h'.get? b = some o) → R (.ok (.ret .none)) { s with heap := h', toks := tk }) →
      codeAny (model prog w) A (.builtin "dict.update.loop" ⟨[.ref d, .ref I, .int i t, .none], []⟩) R s := by
  intro k
  induction k with
  | zero =>
    intro i t s hk hi hit hl hp hd hR
    obtain rfl : i = its.length := by (first | k_extra "MY lo" | omega)
    refine codeAny_builtin XF.entry_dul ?_
    rw [Around.under_plainId XF.plain_dul _]
    show wpAny _ A.in1 (pyNext (.ref I) >>= _) _ _ s
    refine wpAny_bind (wpAny_pyNext_list_end hh hit hl (by simp) fun h' he' => ?_)
    show wpAny _ A.in1 (Builtin.Dict.addKeywords d [] >>= fun _ => ret Value.none) _ _ _
    refine wpAny_bind (wpAny_pure (wpAny_pure ?_))
    refine hR h' _ ?_ fun b o hb _ e => he' b o hb e
    rw [show kvs.take its.length = kvs from List.take_of_length_le (by rw [hP.length]; exact Nat.le_refl _)] at hd
    exact hd.at fun o e => he' _ o hdI e
  | succ k ih =>
    intro i t s hk hi hit hl hp hd hR
    have hlt : i < its.length := by (first | k_extra "MY lo" | omega)
    refine codeAny_builtin XF.entry_dul ?_
    rw [Around.under_plainId XF.plain_dul _]
    show wpAny _ A.in1 (pyNext (.ref I) >>= _) _ _ s
    refine wpAny_bind (wpAny_pyNext_list_item hit hl (x := its[i]) (by simp [hlt]) fun h' hit' hs' => ?_)
    obtain ⟨q, key, val, kk, n, e, hm, hkk, hkv⟩ := hP.at (i := i) (v := its[i]) (by simp [hlt])
    rw [e]
    have hq : h'.get? q = some { cls := .type "tuple", data := .seq [key, val].toArray n } := hs'.extBut _ _ (hpl _ hm).1 (hp _ hm)
    have hT : ({ s with heap := h' } : Shared).TypeIs (.ref q) "tuple" := ⟨_, hq, rfl⟩
    have hd' : h'.DictOf knd d (merged [] (kvs.take i)) := hd.at fun o e => hs'.extBut _ _ hdI e
    have hl' : h'.IsList l its.toArray := hl.extBut hs'.extBut hIl
    have hkl : (kvs.take i).length ≤ sizeLine := by rw [List.length_take, ← hP.length]; (first | k_extra "MY lo" | omega)
    show wpAny _ A.in1 (holding [Value.ref q] _ >>= _) _ _ _
    refine wpAny_bind (wpAny_holding (wpAny_bind (wpAny_tryCatch ?_)))
    unfold Builtin.Dict.pairItems
    refine wpAny_bind (wpAny_typeOf hT ?_)
    rw [if_pos (by decide)]
    refine wpAny_bind (wpAny_seqItems hq rfl (wpAny_pure ?_))
    show wpAny _ A.in1 (holding [key, val] (dictSet d key val)) _ _ _
    refine wpAny_holding (wpAny_dictSet_pairs (hsz := by have := merged_length_le (K := K) [] (kvs.take i); simp only [List.length_nil, Nat.zero_add] at this; (first | k_extra "MY lo" | omega)) hkk hd' fun h₂ hd₂ hs₂ => ?_)
    rw [← merged_take_succ [] kvs i (kk, val) hkv] at hd₂
    refine wpAny_pure ⟨plainId_quiet XF.plain_dul _, ?_⟩
    have hit₂ : h₂.IsListIter I l (i + 1) := hit'.at fun o e => hs₂.extBut _ _ (Ne.symm hdI) e
    have := ih (i + 1) 0 { s with heap := h₂, toks := s.toks + 1 } (by (first | k_extra "MY lo" | omega)) hlt hit₂ (hl'.extBut hs₂.extBut (Ne.symm hdl)) (fun p hpp => hs₂.extBut _ _ (hpl p hpp).2 (hs'.extBut _ _ (hpl p hpp).1 (hp p hpp))) hd₂
      (fun h₃ tk hd₃ hk₃ => hR h₃ tk hd₃ fun b o hb hbd e => hk₃ b o hb hbd (hs₂.extBut _ _ hbd (hs'.extBut _ _ hb e)))
    exact this
end
end
section
section
variable {prog : Program} {w : World} {K : Type} [DecidableEq K] {knd : KeyKind prog w K} {A : Around} {E : Value → Shared → Prop} {s : Shared} {h₀ : Heap} {L l : Addr} {m : Str → Option Value} {news : List (Addr × Obj)} {its : List Value} {kvs : List (K × Value)} {n : Nat}
theorem dl_call {Q : Value → Shared → Prop} (hh : A.handled = none) (F : Fr h₀ L s.heap m) (N : News h₀ L s.heap news) (hbig : h₀.NoLimit) (hm : (l, ({ cls := .type "list", data := .seq its.toArray n } : Obj)) ∈ news) (hP : PairsIn knd news its kvs) (hsz : its.length ≤ sizeLine)
    (k : ∀ d h' o tk, Fr h₀ L h' m → News h₀ L h' ((d, o) :: news) → (∀ p ∈ news, p.1 < d) → (d == sysModules) = false → o.IsDictOf knd (merged [] kvs) → Q (.ref d) { s with heap := h', toks := tk }) :
    wpAny (model prog w) A (call (.type "dict") [.ref l]) Q E s := by
  have lo := F.notModules (modules_low hbig)
  have hlm := (N _ hm).1
  have hllt : l < s.heap.objs.size := Heap.lt_size hlm
  have nlt : ∀ p ∈ news, p.1 < s.heap.objs.size := fun p hp => Heap.lt_size (N p hp).1
  refine callType_codes (Q₁ := fun obj s₁ => obj = .ref s.heap.objs.size ∧ s₁ = { s with heap := s.heap.push { cls := .type "dict", data := .dict #[] } }) PySem.F.kt_called_dict (PySem.F.kt_typeCall_dict_1 _) PySem.F.entry_dict_init (kt_code_dict_new _ ⟨rfl, rfl⟩) ?_
  rintro obj s₁ ⟨rfl, rfl⟩
  have hnew : (s.heap.push { cls := .type "dict", data := .dict #[] }).DictOf knd s.heap.objs.size [] := Heap.DictOf.new s.heap
  have F1 := F.push { cls := .type "dict", data := .dict #[] }
  have N1 := N.push F { cls := .type "dict", data := .dict #[] }
  have hl1 := (N1 _ (.tail _ hm)).1
  refine ⟨hnew.typeIs, PySem.F.args_dict_init_2 _ _, ?_⟩
  unfold Builtin.«dict.__init__»
  refine wpAny_bind ?_
  unfold Builtin.Dict.selfAndRest
  refine wpAny_bind (wpAny_notOrdered_dict hnew.typeIs ?_)
  show wpAny _ _ (pure (s.heap.objs.size, [Value.ref l])) _ _ _
  refine wpAny_pure ?_
  show wpAny _ _ (Builtin.Dict.updateFrom "dict.__init__" s.heap.objs.size (.ref l) [] .none) _ _ _
  unfold Builtin.Dict.updateFrom
  have hT : ({ s with heap := s.heap.push { cls := .type "dict", data := .dict #[] } } : Shared).TypeIs (.ref l) "list" := ⟨_, hl1, rfl⟩
  refine wpAny_bind (wpAny_typeOf hT ?_)
  rw [if_pos (by decide)]
  refine wpAny_bind (keys_none (h := s.heap.push { cls := .type "dict", data := .dict #[] }) hl1 hh fun h2 tk2 hk2 => ?_)
  show wpAny _ _ (rule _ >>= _) _ _ _
  refine wpAny_bind (wpAny_rule (wpAny_bind ?_))
  have hl2 : h2.IsList l its.toArray := ⟨_, hk2 _ _ hl1, rfl, _, rfl⟩
  refine wpAny_pyIter_list hl2 ?_
  have hd2 : h2.DictOf knd s.heap.objs.size [] := hnew.at fun o e => hk2 _ o e
  have hszd : s.heap.objs.size < h2.objs.size := by
    obtain ⟨o, _, _, ho, _⟩ := hd2
    exact Heap.lt_size ho
  have hl2lt : l < h2.objs.size := Nat.lt_trans hllt hszd
  refine wpAny_pure ⟨plainId_quiet XF.plain_dul _, ?_⟩
  have up : ∀ b o, h2.get? b = some o → (h2.push { cls := .type "list_iterator", data := .fields #[.ref l, .int 0 0] }).get? b = some o := fun b o e => Heap.get?_push_of_some _ e
  refine dl_loop (s := { s with heap := h2.push { cls := .type "list_iterator", data := .fields #[.ref l, .int 0 0] }, toks := tk2 }) (A := A.in1) (pl := news) hh (Nat.ne_of_lt hl2lt) (Nat.ne_of_lt hszd) (Nat.ne_of_gt hllt) (fun p hp => ⟨Nat.ne_of_lt (Nat.lt_trans (nlt p hp) hszd), Nat.ne_of_lt (nlt p hp)⟩) hP hsz its.length 0 0 rfl (Nat.zero_le _)
    ⟨_, Heap.get?_push_size _ rfl, rfl, rfl⟩ (hl2.push _) (fun p hp => up _ _ (hk2 _ _ (N1 p (.tail _ hp)).1)) (hd2.push _) fun h' tk hd' hk' => ?_
  obtain ⟨o', ho', hdo⟩ := Heap.dictOf_iff.mp hd'
  have old : ∀ b o, s.heap.get? b = some o → h'.get? b = some o := fun b o e => hk' b o (Nat.ne_of_lt (Nat.lt_trans (Heap.lt_size e) hszd)) (Nat.ne_of_lt (Heap.lt_size e)) (up _ _ (hk2 _ _ (Heap.get?_push_of_some _ e)))
  refine ⟨rfl, k _ h' o' tk (F.keeps old) (fun p hp => ?_) nlt lo hdo⟩
  rcases List.mem_cons.mp hp with rfl | hp
  · exact ⟨ho', (N1 _ (.head _)).2⟩
  · exact ⟨old _ _ (N p hp).1, (N p hp).2⟩
end
end
end
example : True ∧ True := by w_top off; first | (walk1; done) | exact ⟨trivial, trivial⟩
example : True := by
  k_with_none
  k_with "eval Name" => (k_here; (with_reducible show wpAny _ _ (eval (Expr.Name _ _) (compEnvC _ _ _ _)) _ _ _); k_dflt (first | (name_kind "local"; refine' LCgL.ld_own ?zN ?zm ?zC ?zx ?_ ?zk ?zl ?zd; (case zk => kernel_rfl); (case zl => kernel_rfl); (case zd => kernel_rfl); (case zN => k_asm); (case zm => k_mem); (case zC => assumption); (case zx => assumption); k_whole) | (name_kind "globalImplicit"; first | (refine' LCgL.ld_global ?zF ?zX ?zT ?ze ?_ ?zg ?zk ?zl ?zd; (case zg => kernel_rfl); (case zk => kernel_rfl); (case zl => kernel_rfl); (case zd => kernel_rfl); (case zF => k_asm); (case zX => k_asm); (case zT => k_asm); (case ze => k_is); k_whole) | (refine' LCgL.ld_built ?zF ?zX ?zT ?ze ?zv ?zn ?_ ?zg ?zb ?zk ?zl ?zd; (case zg => kernel_rfl); (case zb => kernel_rfl); (case zk => kernel_rfl); (case zl => kernel_rfl); (case zd => kernel_rfl); (case zF => k_asm); (case zX => k_asm); (case zT => k_asm); (case ze => k_is); (case zv => boot_fast); (case zn => decide); k_whole))))
  k_with "eval Name" => (k_here; (fail_if_success (with_reducible show wpAny _ _ (eval (Expr.Name _ _) (compEnvC _ _ _ _)) _ _ _)); k_dflt (first | (name_kind "local"; refine' nameX_L ?zF ?zv ?_ ?za ?zb ?zc; (case zF => k_asm); (case za => kernel_rfl); (case zb => kernel_rfl); (case zc => kernel_rfl); (case zv => rfl); k_whole) | (name_kind "cell"; refine' nameX_C ?zN ?zl ?zm ?zd ?_ ?za ?zb ?zc; (case za => kernel_rfl); (case zb => kernel_rfl); (case zc => kernel_rfl); (case zN => k_asm); (case zl => rfl); (case zm => k_mem); (case zd => k_asm); k_whole) | (name_kind "globalImplicit"; first | (refine' nameX_K ?zF ?zX ?zT ?ze ?_ ?za ?zb ?zc; (case za => kernel_rfl); (case zb => kernel_rfl); (case zc => kernel_rfl); (case zF => k_asm); (case zX => k_asm); (case zT => k_asm); (case ze => k_is); k_whole) | (refine' nameX_B ?zF ?zX ?zT ?ze ?zv ?zn ?_ ?za ?zb ?zc; (case za => kernel_rfl); (case zb => kernel_rfl); (case zc => kernel_rfl); (case zF => k_asm); (case zX => k_asm); (case zT => k_asm); (case ze => k_is); (case zv => boot_fast); (case zn => decide); k_whole))))
  k_with "ite" => (k_closed; first | (with_reducible refine ite_pos ?zi ?_; (case zi => decide +kernel)) | (with_reducible refine ite_neg ?zi ?_; (case zi => decide +kernel)))
  k_with "getAttr ref" => (k_here; k_dflt (refine' get_own ?zF ?zX ?zI ?zg ?zh ?za ?zn ?zl ?zv ?_; (case zF => k_asm); (case zX => k_asm); (case zI => k_inst); (case zl => k_get); (case zg => k_is); (case zh => k_is); (case za => k_is); (case zn => k_is); (case zv => k_handed); k_whole))
  k_with "spliced" => ((with_reducible show wpAny _ _ (spliced (backTo _ (starEach (_ :: _) _))) _ _ _); k_dflt (refine args_cons ?_))
  k_with "newList" => (k_here; k_dflt (refine' newList_K ?zF ?zN ?_ ?zs; (case zF => k_asm); (case zN => k_asm); (case zs => exact Nat.le_of_ble_eq_true rfl); k_whole); k_extra "M46a0")
  k_with "MY ltp" => ((with_reducible rename @LT.lt Nat _ _ _ ∧ _ => kL); first | (with_reducible first | exact kL.1 | exact kL.2 | exact kL.2.1 | exact kL.2.2 | exact kL.2.2.1 | exact kL.2.2.2 | exact kL.2.2.2.1 | exact kL.2.2.2.2 | exact kL.2.2.2.2.1 | exact kL.2.2.2.2.2 | exact kL.2.2.2.2.2.1 | exact kL.2.2.2.2.2.2 | exact kL.2.2.2.2.2.2.1 | exact kL.2.2.2.2.2.2.2 | exact kL.2.2.2.2.2.2.2.1 | exact kL.2.2.2.2.2.2.2.2 | exact kL.2.2.2.2.2.2.2.2.1 | exact kL.2.2.2.2.2.2.2.2.2 | exact kL.2.2.2.2.2.2.2.2.2.1 | exact kL.2.2.2.2.2.2.2.2.2.2 | exact kL.2.2.2.2.2.2.2.2.2.2.1 | exact kL.2.2.2.2.2.2.2.2.2.2.2 | exact kL.2.2.2.2.2.2.2.2.2.2.2.1 | exact kL.2.2.2.2.2.2.2.2.2.2.2.2 | exact kL.2.2.2.2.2.2.2.2.2.2.2.2.1 | exact kL.2.2.2.2.2.2.2.2.2.2.2.2.2 | exact kL.2.2.2.2.2.2.2.2.2.2.2.2.2.1 | exact kL.2.2.2.2.2.2.2.2.2.2.2.2.2.2 | exact kL.2.2.2.2.2.2.2.2.2.2.2.2.2.2.1 | exact kL.2.2.2.2.2.2.2.2.2.2.2.2.2.2.2 | exact kL.2.2.2.2.2.2.2.2.2.2.2.2.2.2.2.1 | exact kL.2.2.2.2.2.2.2.2.2.2.2.2.2.2.2.2 | exact kL.2.2.2.2.2.2.2.2.2.2.2.2.2.2.2.2.1 | exact kL.2.2.2.2.2.2.2.2.2.2.2.2.2.2.2.2.2 | exact kL.2.2.2.2.2.2.2.2.2.2.2.2.2.2.2.2.2.1 | exact kL.2.2.2.2.2.2.2.2.2.2.2.2.2.2.2.2.2.2 | exact kL.2.2.2.2.2.2.2.2.2.2.2.2.2.2.2.2.2.2.1 | exact kL.2.2.2.2.2.2.2.2.2.2.2.2.2.2.2.2.2.2.2 | exact kL.2.2.2.2.2.2.2.2.2.2.2.2.2.2.2.2.2.2.2.1 | exact kL.2.2.2.2.2.2.2.2.2.2.2.2.2.2.2.2.2.2.2.2 | exact kL.2.2.2.2.2.2.2.2.2.2.2.2.2.2.2.2.2.2.2.2.1 | exact kL.2.2.2.2.2.2.2.2.2.2.2.2.2.2.2.2.2.2.2.2.2 | exact kL.2.2.2.2.2.2.2.2.2.2.2.2.2.2.2.2.2.2.2.2.2.1 | exact kL.2.2.2.2.2.2.2.2.2.2.2.2.2.2.2.2.2.2.2.2.2.2 | exact kL.2.2.2.2.2.2.2.2.2.2.2.2.2.2.2.2.2.2.2.2.2.2.1 | exact kL.2.2.2.2.2.2.2.2.2.2.2.2.2.2.2.2.2.2.2.2.2.2.2) | (clear kL; k_extra "MY ltp"))
  k_with "MY ne" => first | (refine Nat.ne_of_gt ?_; k_extra "MY ltp") | (refine Nat.ne_of_lt ?_; k_extra "MY ltp")
  k_with "newTuple" => (k_here; k_dflt (refine' kup_newTuple ?zF ?zN ?_ ?zs; (case zF => k_asm); (case zN => k_asm); (case zs => kmk_size)); k_extra "M46a0")
  k_with "MY ltq" => first | with_reducible assumption | k_extra "MY ltp" | ((with_reducible refine' Nat.lt_trans ?_ ?klb); (case klb => with_reducible assumption); k_extra "MY ltq") | ((with_reducible refine' Nat.lt_trans ?kla ?_); (case kla => with_reducible assumption); k_extra "MY ltp") | ((with_reducible refine' Nat.lt_succ_of_lt ?_); first | with_reducible assumption | k_extra "MY ltp" | ((with_reducible refine' Nat.lt_succ_of_lt ?_); first | with_reducible assumption | k_extra "MY ltp")) | ((with_reducible refine' Mine.mem_allLt ?_ _ ?klm); (case klm => with_reducible assumption); first | with_reducible assumption | k_extra "MY ltp")
  k_with "MY lo" => first | ((with_reducible show @LT.lt Nat _ _ _); (try dsimp only); k_extra "MY ltq") | ((with_reducible show @Ne Nat _ _); (try dsimp only); first | with_reducible assumption | (refine Ne.symm ?_; with_reducible assumption) | (refine Nat.ne_of_gt ?_; k_extra "MY ltq") | (refine Nat.ne_of_lt ?_; k_extra "MY ltq")) | decide
  k_with "H mem" => first | exact List.Mem.head _ | (refine' List.Mem.tail _ ?_; k_extra "H mem") | ((fail_if_success refine' List.Mem.tail _ ?_); change (_ : Addr × Obj) ∈ (_ : List (Addr × Obj)); first | with_reducible assumption | (with_reducible refine' List.mem_append_left _ ?_; k_extra "H mem") | (with_reducible refine' List.mem_append_right _ ?_; k_extra "H mem"))
  k_with "H room" => ((try simp only [depth_under_make, depth_under_kw, depth_in1, depth_deeper, depth_caller]); (try dsimp only [ktrTop]); first | decide | ((try simp only [Nat.add_assoc, Nat.reduceAdd]); (with_reducible rename _ + _ < recursionLimit => kH); first | exact Mine.room_of kH rfl | exact Mine.room_at kH) | omega)
  k_with "H units" => ((try simp only [units_in1, units_deeper, Around.mark_units, units_caller]); (try dsimp only [ktrTop]); first | decide | ((try simp only [Nat.add_assoc, Nat.reduceAdd]); (with_reducible rename _ + _ < cLine => kH); first | exact Mine.room_of kH rfl | exact Mine.room_at kH) | omega)
  k_with "H ne" => (refine neN ?_; (try dsimp only); first | with_reducible assumption | (refine Ne.symm ?_; with_reducible assumption) | (with_reducible first | exact Nat.ne_of_lt (by assumption) | exact Nat.ne_of_gt (by assumption)) | k_extra "MY ne" | ((with_reducible rename (_ ≠ _ ∧ _ ≠ _ ∧ _ ≠ _) ∧ _ => kOff); first | (simp only [kOff, ne_eq, not_false_eq_true]; done) | (refine Ne.symm ?_; simp only [kOff, ne_eq, not_false_eq_true]; done)) | k_extra "MY lo" | omega)
  trivial
section
open PySem.Calls
section
open LCg
section
variable {prog : Program} {w : World} {A : Around} {E : Value → Shared → Prop} {s : Shared} {h₀ : Heap} {L : Addr} {m : Str → Option Value} {env : Env}
-- a comprehension over a tuple that stands in the ground
def SrcTup (prog : Program) (w : World) (A : Around) (h₀ : Heap) (L : Addr) (m : Str → Option Value) (env : Env) (elt : PySem.Expr) (x : Str) (scope : Scope) (cl : List (Str × Addr)) (Fin : Shared → List Value → List (Addr × Obj) → Prop) (xv : Value) (s₁ : Shared) : Prop :=
  ∃ ax its news, xv = .ref ax ∧ A.handled = none ∧ Fr h₀ L s₁.heap m ∧ News h₀ L s₁.heap news ∧ h₀.IsTuple ax its ∧ its.size ≤ sizeLine ∧
    ∀ s₂ : Shared, (∃ h, s₂ = { s₁ with heap := h }) → CompRest prog w A h₀ L m env elt x scope cl s₂ (fun _ => True) (fun i v => its[i]? = some v) (Fin s₂) its.size 0 [] news
theorem ListComp_Tup {elt iter : PySem.Expr} {x : Str} {px : Pos} {scope : Scope} {cl : List (Str × Addr)} {pos : Pos} {Q : Value → Shared → Prop} (_F₀ : Fr h₀ L s.heap m)
    (hclos : closureFor scope env = pure cl) (hcell : ∀ y ∈ scope.names, y.2 ≠ .cell) (hkind : scope.kind = .function)
    (hnames : ∀ y ∈ scope.names, y.2 = .local → scope.names.lookup y.1 = some .local) (hx : scope.names.lookup x = some .local)
    (h : wpAny (model prog w) A (eval iter env) (SrcTup prog w A h₀ L m env elt x scope cl (fun s₂ => FinE h₀ L m s₂ Q)) E s)
    (hs : ∀ x, foldedSetIterable iter env x = pure x) :
    wpAny (model prog w) A (eval (.ListComp elt [⟨.Name x px, iter, [], 0⟩] scope pos) env) Q E s := by
  rw [eval_ListComp]
  refine wpAny_comprehension_free (use := none) rfl hs hclos hkind hnames (wpAny_mono h (fun xv s₁ h₁ => ?_) fun _ _ e => e)
  obtain ⟨ax, its, news, rfl, hh, F, N, ht, hsz, R⟩ := h₁
  have hl : s₁.heap.IsTuple ax its := ht.at fun o e => F.keep _ o e
  have hlt : ax < s₁.heap.objs.size := by obtain ⟨_, e, _⟩ := hl; exact Heap.lt_size e
  refine wpAny_pyIter_tuple hl ?_
  have up : ∀ b o, s₁.heap.get? b = some o → (s₁.heap.push { cls := .type "tuple_iterator", data := .fields #[.ref ax, .int 0 0] }).get? b = some o := fun b o e => Heap.get?_push_of_some _ e
  refine block_U (h₀ := h₀) (S := fun _ => True) (Walks.tuple hh s₁.heap.objs.size ax (Nat.ne_of_lt hlt) its) hsz (fun i h st => by obtain ⟨o, e, _⟩ := st.1; exact ⟨o, e⟩)
    (fun i h h' o nw st e e' k N _ => ⟨by obtain ⟨o', q, r⟩ := st.1; rw [e] at q; cases q; exact ⟨o, e', r⟩, ht.at fun o e => k _ o e⟩) hcell hkind hx ⟨⟨_, Heap.get?_push_size _ rfl, rfl, rfl⟩, hl.at fun o e => up _ o e⟩ (fun b hb => ?_)
    (F.keeps up) (N.grown up) (Nat.ne_of_lt F.ns.lt) (next_is_new F) (fun p hp => Nat.ne_of_lt (Heap.lt_size (N p hp).1)) trivial (R _ ⟨_, rfl⟩) ?_
  · show b < (s₁.heap.push _).objs.size
    rw [Heap.size_push]
    rcases List.mem_cons.mp hb with rfl | hb
    · exact Nat.lt_succ_self _
    · rw [List.mem_singleton.mp hb]; exact Nat.lt_succ_of_lt hlt
  · intro D C h tk m' ys news' F' N' o1 hn hC₀ hD₀ hCL hDL hCD offC fin
    refine ⟨m', hn, fun h'' hs'' => fin D h'' tk (F'.change hs'' hCL hC₀) (fun p hp => ?_) o1⟩
    refine ⟨hs''.extBut _ _ ?_ (N' p hp).1, (N' p hp).2⟩
    rcases List.mem_cons.mp hp with rfl | hp
    · exact Ne.symm hCD
    · exact offC p hp
theorem SrcTup.base {elt : PySem.Expr} {x : Str} {scope : Scope} {cl : List (Str × Addr)} {Fin : Shared → List Value → List (Addr × Obj) → Prop} {ax : Addr} {its : Array Value} {news : List (Addr × Obj)} {s₁ : Shared}
    (hh : A.handled = none) (F : Fr h₀ L s₁.heap m) (N : News h₀ L s₁.heap news) (hl : h₀.IsTuple ax its) (hsz : its.size ≤ sizeLine)
    (h : ∀ g, CompRest prog w A h₀ L m env elt x scope cl { s₁ with heap := g } (fun _ => True) (fun i v => its[i]? = some v) (Fin { s₁ with heap := g }) its.size 0 [] news) :
    SrcTup prog w A h₀ L m env elt x scope cl Fin (.ref ax) s₁ := ⟨ax, its, news, rfl, hh, F, N, hl, hsz, fun _ ⟨g, e⟩ => e ▸ h g⟩
-- the turns by an invariant
theorem compRest_inv {elt : PySem.Expr} {x : Str} {scope : Scope} {cl : List (Str × Addr)} {S : List (Addr × Obj) → Prop} {P : Nat → Value → Prop} {Fin : List Value → List (Addr × Obj) → Prop} {n : Nat} (Inv : Nat → List Value → List (Addr × Obj) → Prop)
    (turn : ∀ i ys news, i < n → Inv i ys news → ∀ v I oI C oC D m₂ h tk (E' : Value → Shared → Prop), P i v → NsObj oC m₂ → m₂ x = some v → Fr h₀ L h m → News h₀ L h ((I, oI) :: (C, oC) :: (D, lst ys) :: news) → Off3 I C D news → ((@Ne Nat I C) ∧ (@Ne Nat I D) ∧ (@Ne Nat C D)) →
      wpAny (model prog w) A (eval elt (compEnvC scope cl C env)) (CompEnd h₀ L m { s with heap := h, toks := tk } I oI C oC D (lst ys) S (fun y news' => Inv (i + 1) (ys ++ [y]) news')) E' { s with heap := h, toks := tk })
    (fin : ∀ ys news, Inv n ys news → Fin ys news) : ∀ k i ys news, i + k = n → Inv i ys news → CompRest prog w A h₀ L m env elt x scope cl s S P Fin k i ys news := by
  intro k
  induction k with
  | zero => intro i ys news e hi; have e' : i = n := e; subst e'; exact fin _ _ hi
  | succ k ih =>
    intro i ys news e hi
    refine CompRest.succ fun v I oI C oC D m₂ h tk E' hP hC hx F N off ne => ?_
    refine wpAny_mono (turn i ys news (by (first | k_extra "MY lo" | omega)) hi v I oI C oC D m₂ h tk E' hP hC hx F N off ne) (fun y s' hy => ?_) fun _ _ e => e
    obtain ⟨h', tk', news', e1, F', N', off', hS, hr⟩ := hy
    exact ⟨h', tk', news', e1, F', N', off', hS, ih (i + 1) _ _ (by (first | k_extra "MY lo" | omega)) hr⟩
theorem compRestT_inv {ct elt : PySem.Expr} {x : Str} {scope : Scope} {cl : List (Str × Addr)} {S : List (Addr × Obj) → Prop} {P : Nat → Value → Prop} {Fin : List Value → List (Addr × Obj) → Prop} {n : Nat} (Inv : Nat → List Value → List (Addr × Obj) → Prop)
    (turn : ∀ i ys news, i < n → Inv i ys news → ∀ v I oI C oC D m₂ h tk (E' : Value → Shared → Prop), P i v → NsObj oC m₂ → m₂ x = some v → Fr h₀ L h m → News h₀ L h ((I, oI) :: (C, oC) :: (D, lst ys) :: news) → Off3 I C D news → ((@Ne Nat I C) ∧ (@Ne Nat I D) ∧ (@Ne Nat C D)) →
      wpAny (model prog w) A (isTrue ct (compEnvC scope cl C env) (eval ct (compEnvC scope cl C env))) (fun ok s' => if ok = true then
        wpAny (model prog w) A (eval elt (compEnvC scope cl C env)) (CompEnd h₀ L m { s with heap := h, toks := tk } I oI C oC D (lst ys) S (fun y news' => Inv (i + 1) (ys ++ [y]) news')) E' s'
        else CompEnd h₀ L m { s with heap := h, toks := tk } I oI C oC D (lst ys) S (fun _ news' => Inv (i + 1) ys news') Value.none s') E' { s with heap := h, toks := tk })
    (fin : ∀ ys news, Inv n ys news → Fin ys news) : ∀ k i ys news, i + k = n → Inv i ys news → LCt.CompRestT prog w A h₀ L m env ct elt x scope cl s S P Fin k i ys news := by
  intro k
  induction k with
  | zero => intro i ys news e hi; have e' : i = n := e; subst e'; exact fin _ _ hi
  | succ k ih =>
    intro i ys news e hi
    refine LCt.CompRestT.succ fun v I oI C oC D m₂ h tk E' hP hC hx F N off ne => ?_
    refine wpAny_mono (turn i ys news (by (first | k_extra "MY lo" | omega)) hi v I oI C oC D m₂ h tk E' hP hC hx F N off ne) (fun ok s' hy => ?_) fun _ _ e => e
    cases ok with
    | true =>
      simp only [if_true] at hy ⊢
      refine wpAny_mono hy (fun y s'' hy => ?_) fun _ _ e => e
      obtain ⟨h', tk', news', e1, F', N', off', hS, hr⟩ := hy
      exact ⟨h', tk', news', e1, F', N', off', hS, ih (i + 1) _ _ (by (first | k_extra "MY lo" | omega)) hr⟩
    | false =>
      simp only [Bool.false_eq_true, if_false] at hy ⊢
      obtain ⟨h', tk', news', e1, F', N', off', hS, hr⟩ := hy
      exact ⟨h', tk', news', e1, F', N', off', hS, ih (i + 1) _ _ (by (first | k_extra "MY lo" | omega)) hr⟩
end
end
end
section
open PySem.Calls
section
section
variable {M : Model} {A : Around} {E : Value → Shared → Prop} {s : Shared} {h₀ : Heap} {L c P : Addr} {m mg mb : Str → Option Value} {news : List (Addr × Obj)} {g : Obj → List (Addr × Obj)} {env : Env}
  {p : Program} {loose : List Str} {mean : ExcName → Option Value} {name qual : Str} {params : Arguments} {body : FuncBody} {scope : Scope} {ps : Array Value} {pos : Pos} {firstLine : Nat} {clos : List (Str × Addr)}
-- a function made in any environment of the module (a comprehension's too)
theorem mk_nest {dV : Value} {Q : Value → Shared → Prop} (F : Fr h₀ L s.heap m) (N : News h₀ L s.heap news) (T : Top p loose mean mg mb h₀) (C : CodeHd h₀ c P) (hge : env.globals = mainGlobals) (hcd : env.code = .ref c) (U : UpdF P (tabObj ps) news g) (ht : TriplesOk ps.toList) (hnf : codeAmong pos ps.toList = none)
    (hcl : closureFor scope env = pure clos)
    (h : ∀ f c' oc vs t ctv doc h' tk, Fr h₀ L h' m →
      News h₀ L h' ((f, kdv_obj name qual params body scope clos dV doc ((mg "__name__").getD .none) c' ctv) :: (c', oc) :: g (tabObj (ps ++ #[rawInt pos.line, rawInt pos.col, .ref c']))) →
      oc.data = .fields vs → vs[1]? = some (.str qual t) → (∀ q ∈ news, q.1 < c') → c' < f → Q (.ref f) { s with heap := h', toks := tk }) :
    wpAny M A (makeTail name qual params body scope env dV .none none pos firstLine) Q E s := by
  obtain ⟨own, rest, rfl, hgr, h1, h2⟩ := U.split
  have hm := N (P, tabObj ps) (List.mem_append_right _ (.head _))
  have hgs := T.g.keeps F.keep
  obtain ⟨bm, ob, b1, b2, b3, b4, b5, b6⟩ := T.bmain
  have hgP : mainGlobals ≠ P := fun q => by
    obtain ⟨o, es, ep, e, hd, _⟩ := hgs
    rw [q, hm.1] at e; cases e; cases hd
  have hbP : bm ≠ P := fun q => by
    have e := F.keep _ _ b3
    rw [q, hm.1] at e; cases e; cases b4
  have hbG : bm ≠ mainGlobals := fun q => by
    obtain ⟨o, es, ep, e, hd, _⟩ := T.g
    rw [q, e] at b3; cases b3; rw [hd] at b6; cases b6
  refine kdv_makeTail (mg := mg) hcl hge hgs hcd (C.keeps F.keep) hm.1 ht hnf hgP ⟨bm, ob, b1, b2, hbG, hbP, F.keep _ _ b3, b4, b5, b6⟩ fun c' ctv doc h' tk hx hle hlt hrec htb => ?_
  obtain ⟨c₂, oc, vs, t, e2, hoc, hd, hv⟩ := hrec
  cases e2
  have hLs : L < s.heap.objs.size := F.ns.lt
  have hLc : L < c' := Nat.lt_of_lt_of_le hLs hle
  have old : ∀ b o, h₀.get? b = some o → h'.get? b = some o := fun b o e => hx b o (fun q => by rw [q, hm.2.2] at e; cases e) (F.keep b o e)
  have fresh : ∀ b, L < b → h₀.get? b = none := fun b hb => Heap.get?_none_of_le (Nat.le_trans F.above (Nat.le_of_lt hb))
  refine h h'.objs.size c' oc vs t ctv doc _ tk ⟨(F.ns.extBut hx hm.2.1.symm).push _, fun b o e => Heap.get?_push_of_some _ (old b o e), F.above⟩ (fun q hq => ?_) hd hv
    (fun q hq => Nat.lt_of_lt_of_le (Heap.lt_size (N q hq).1) hle) hlt
  rcases List.mem_cons.mp hq with rfl | hq
  · exact ⟨Heap.get?_push_size _ rfl, Nat.ne_of_gt (Nat.lt_trans hLc hlt), fresh _ (Nat.lt_trans hLc hlt)⟩
  · rcases List.mem_cons.mp hq with rfl | hq
    · exact ⟨Heap.get?_push_of_some _ hoc, Nat.ne_of_gt hLc, fresh _ hLc⟩
    · rw [hgr] at hq
      rcases List.mem_append.mp hq with hq | hq
      · have n := N q (List.mem_append_left _ hq)
        exact ⟨Heap.get?_push_of_some _ (hx _ _ (h1 q hq) n.1), n.2⟩
      · rcases List.mem_cons.mp hq with rfl | hq
        · exact ⟨Heap.get?_push_of_some _ htb, hm.2⟩
        · have n := N q (List.mem_append_right _ (.tail _ hq))
          exact ⟨Heap.get?_push_of_some _ (hx _ _ (h2 q hq) n.1), n.2⟩
theorem mk_hit {dV : Value} {Q : Value → Shared → Prop} {c' : Addr} (F : Fr h₀ L s.heap m) (N : News h₀ L s.heap news) (T : Top p loose mean mg mb h₀) (C : CodeHd h₀ c P) (hge : env.globals = mainGlobals) (hcd : env.code = .ref c) (hmem : (P, tabObj ps) ∈ news) (ht : TriplesOk ps.toList) (hf : codeAmong pos ps.toList = some (.ref c'))
    (hcl : closureFor scope env = pure clos)
    (h : ∀ f ctv doc h' tk, Fr h₀ L h' m → News h₀ L h' ((f, kdv_obj name qual params body scope clos dV doc ((mg "__name__").getD .none) c' ctv) :: news) → (∀ q ∈ news, q.1 < f) → Q (.ref f) { s with heap := h', toks := tk }) :
    wpAny M A (makeTail name qual params body scope env dV .none none pos firstLine) Q E s := by
  have hm := N (P, tabObj ps) hmem
  have hgs := T.g.keeps F.keep
  obtain ⟨bm, ob, b1, b2, b3, b4, b5, b6⟩ := T.bmain
  have hbP : bm ≠ P := fun q => by
    have e := F.keep _ _ b3
    rw [q, hm.1] at e; cases e; cases b4
  have hbG : bm ≠ mainGlobals := fun q => by
    obtain ⟨o, es, ep, e, hd, _⟩ := T.g
    rw [q, e] at b3; cases b3; rw [hd] at b6; cases b6
  refine kdv_makeTailHit (mg := mg) hcl hge hgs hcd (C.keeps F.keep) hm.1 ht hf ⟨bm, ob, b1, b2, hbG, hbP, F.keep _ _ b3, b4, b5, b6⟩ fun ctv doc h' tk hk hsz => ?_
  have hLs : L < h'.objs.size := Nat.lt_of_lt_of_le F.ns.lt hsz
  have fresh : ∀ b, L < b → h₀.get? b = none := fun b hb => Heap.get?_none_of_le (Nat.le_trans F.above (Nat.le_of_lt hb))
  refine h h'.objs.size ctv doc _ tk ⟨(F.ns.keeps hk).push _, fun b o e => Heap.get?_push_of_some _ (hk b o (F.keep b o e)), F.above⟩ (fun q hq => ?_) (fun q hq => Nat.lt_of_lt_of_le (Heap.lt_size (N q hq).1) hsz)
  rcases List.mem_cons.mp hq with rfl | hq
  · exact ⟨Heap.get?_push_size _ rfl, Nat.ne_of_gt hLs, fresh _ hLs⟩
  · exact ⟨Heap.get?_push_of_some _ (hk _ _ (N q hq).1), (N q hq).2⟩
end
end
end
section
open PySem.Calls
section
section
variable {prog : Program} {w : World} {K : Type} [DecidableEq K] {knd : KeyKind prog w K} {A : Around} {E : Value → Shared → Prop} {s : Shared} {h₀ : Heap} {L a b : Addr} {m : Str → Option Value} {news : List (Addr × Obj)} {kvs : List (K × Value)} {o ob : Obj}
-- a copy of a dict of the ledger
theorem dd_call {Q : Value → Shared → Prop} (F : Fr h₀ L s.heap m) (N : News h₀ L s.heap news) (hbig : h₀.NoLimit) (hm : (a, o) ∈ news) (hdo : o.IsDictOf knd kvs) (lo : (a == sysModules) = false) (hsz : kvs.length ≤ sizeLine)
    (k : ∀ d h' o', Fr h₀ L h' m → News h₀ L h' ((d, o') :: news) → (∀ p ∈ news, p.1 < d) → (d == sysModules) = false → o'.IsDictOf knd kvs → Q (.ref d) { s with heap := h' }) :
    wpAny (model prog w) A (call (.type "dict") [.ref a]) Q E s := by
  refine kt_call_dict lo (Heap.dictOf_iff.mpr ⟨o, (N _ hm).1, hdo⟩) hsz fun h' hd' hs => ?_
  obtain ⟨o', ho', hd''⟩ := Heap.dictOf_iff.mp hd'
  have N1 := News.push F N { cls := .type "dict", data := .dict #[] }
  exact k _ h' o' ((F.push _).change hs (N1 _ (.head _)).2.1 (N1.fresh (.head _))) (N1.setHead N.apart hs ho') (fun p hp => Heap.lt_size (N p hp).1) (F.notModules (modules_low hbig)) hd''
-- a dict and its copy
theorem hits_self (hn : (kvs.map (·.1)).Nodup) : KeqHits A s kvs kvs true := by
  have go : ∀ (r : List (K × Value)), (∀ q ∈ r, valueAt kvs q.1 = some q.2) → KeqHits A s kvs r true := by
    intro r
    induction r with
    | nil => intro _; exact .nil
    | cons q r ih =>
      intro h
      obtain ⟨k, v⟩ := q
      have := KeqHits.hit (h (k, v) (.head _)) (SeqAt.EqAt.same v) (ih fun q hq => h q (.tail _ hq))
      exact this
  refine go kvs fun q hq => ?_
  obtain ⟨i, hi⟩ := List.mem_iff_getElem?.mp hq
  exact valueAt_of_get hn hi
theorem ne_copy {Q : Value → Shared → Prop} (N : News h₀ L s.heap news) (pa : (a, o) ∈ news) (pb : (b, ob) ∈ news) (da : o.IsDictOf knd kvs) (db : ob.IsDictOf knd kvs) (la : (a == sysModules) = false) (lb : (b == sysModules) = false) (hu : A.units < cLine)
    (h : Q (.bool false) s) : wpAny (model prog w) A (compareOp .NotEq (.ref a) (.ref b)) Q E s :=
  kne_pairs N pa pb da db la lb rfl hu (hits_self (keysNodup_of_isDictOf da)) h
-- tuples of the ledger
theorem isTup_news {its : Array Value} {n : Nat} (N : News h₀ L s.heap news) (pa : (a, ({ cls := .type "tuple", data := .seq its n } : Obj)) ∈ news) : s.heap.IsTuple a its := ⟨_, (N _ pa).1, rfl, _, rfl⟩
theorem eqAt_tup {xs ys : Array Value} {n n' : Nat} (N : News h₀ L s.heap news) (pa : (a, ({ cls := .type "tuple", data := .seq xs n } : Obj)) ∈ news) (pb : (b, ({ cls := .type "tuple", data := .seq ys n' } : Obj)) ∈ news) (hu : A.units < cLine) (hz : xs.size = ys.size)
    (he : ∀ j (h1 : j < xs.size) (h2 : j < ys.size), SeqAt.EqAt A.in1 s xs[j] ys[j] true) : SeqAt.RcAt A s (.ref a) (.ref b) true := by
  have := SeqAt.RcAt.tuples (isTup_news N pa) (isTup_news N pb) hu (e := fun _ => true) he
  rw [hz, beq_self_eq_true, Bool.and_true, List.all_eq_true.mpr (fun _ _ => rfl)] at this
  exact this
theorem neAt_tup {xs ys : Array Value} {n n' : Nat} {Q : Value → Shared → Prop} (N : News h₀ L s.heap news) (pa : (a, ({ cls := .type "tuple", data := .seq xs n } : Obj)) ∈ news) (pb : (b, ({ cls := .type "tuple", data := .seq ys n' } : Obj)) ∈ news) (hu : A.units < cLine) (hz : xs.size = ys.size)
    (he : ∀ j (h1 : j < xs.size) (h2 : j < ys.size), SeqAt.EqAt A.in1 s xs[j] ys[j] true) (h : Q (.bool false) s) : wpAny (model prog w) A (compareOp .NotEq (.ref a) (.ref b)) Q E s := by
  have := SeqAt.RcNeAt.tuples (isTup_news N pa) (isTup_news N pb) hu (e := fun _ => true) he
  rw [hz, beq_self_eq_true, Bool.and_true, List.all_eq_true.mpr (fun _ _ => rfl)] at this
  exact this prog w E Q h
-- (tag, data) against (tag, data)
theorem pair_items {tag : Str} {t t' : Tok} {d : Value} : ∀ j (h1 : j < #[Value.str tag t, d].size) (h2 : j < #[Value.str tag t', d].size), SeqAt.EqAt A s #[Value.str tag t, d][j] #[Value.str tag t', d][j] true
  | 0, _, _ => by have := SeqAt.EqAt.str_str (A := A) (s := s) tag t tag t'; rw [beq_self_eq_true] at this; exact this
  | 1, _, _ => SeqAt.EqAt.same d
  | _ + 2, h, _ => absurd h (by simp)
theorem same_items {xs : Array Value} : ∀ j (h1 : j < xs.size) (h2 : j < xs.size), SeqAt.EqAt A s xs[j] xs[j] true := fun _ _ _ => SeqAt.EqAt.same _
end
end
end
example : True ∧ True := by w_top off; first | (walk1; done) | exact ⟨trivial, trivial⟩
example : True := by
  k_with_none
  k_with "eval Name" => (k_here; (with_reducible show wpAny _ _ (eval (Expr.Name _ _) (compEnvC _ _ _ _)) _ _ _); k_dflt (first | (name_kind "local"; refine' LCgL.ld_own ?zN ?zm ?zC ?zx ?_ ?zk ?zl ?zd; (case zk => kernel_rfl); (case zl => kernel_rfl); (case zd => kernel_rfl); (case zN => k_asm); (case zm => k_mem); (case zC => assumption); (case zx => assumption); k_whole) | (name_kind "globalImplicit"; first | (refine' LCgL.ld_global ?zF ?zX ?zT ?ze ?_ ?zg ?zk ?zl ?zd; (case zg => kernel_rfl); (case zk => kernel_rfl); (case zl => kernel_rfl); (case zd => kernel_rfl); (case zF => k_asm); (case zX => k_asm); (case zT => k_asm); (case ze => k_is); k_whole) | (refine' LCgL.ld_built ?zF ?zX ?zT ?ze ?zv ?zn ?_ ?zg ?zb ?zk ?zl ?zd; (case zg => kernel_rfl); (case zb => kernel_rfl); (case zk => kernel_rfl); (case zl => kernel_rfl); (case zd => kernel_rfl); (case zF => k_asm); (case zX => k_asm); (case zT => k_asm); (case ze => k_is); (case zv => boot_fast); (case zn => decide); k_whole))))
  k_with "eval Name" => (k_here; (fail_if_success (with_reducible show wpAny _ _ (eval (Expr.Name _ _) (compEnvC _ _ _ _)) _ _ _)); k_dflt (first | (name_kind "local"; refine' nameX_L ?zF ?zv ?_ ?za ?zb ?zc; (case zF => k_asm); (case za => kernel_rfl); (case zb => kernel_rfl); (case zc => kernel_rfl); (case zv => rfl); k_whole) | (name_kind "cell"; refine' nameX_C ?zN ?zl ?zm ?zd ?_ ?za ?zb ?zc; (case za => kernel_rfl); (case zb => kernel_rfl); (case zc => kernel_rfl); (case zN => k_asm); (case zl => rfl); (case zm => k_mem); (case zd => k_asm); k_whole) | (name_kind "globalImplicit"; first | (refine' nameX_K ?zF ?zX ?zT ?ze ?_ ?za ?zb ?zc; (case za => kernel_rfl); (case zb => kernel_rfl); (case zc => kernel_rfl); (case zF => k_asm); (case zX => k_asm); (case zT => k_asm); (case ze => k_is); k_whole) | (refine' nameX_B ?zF ?zX ?zT ?ze ?zv ?zn ?_ ?za ?zb ?zc; (case za => kernel_rfl); (case zb => kernel_rfl); (case zc => kernel_rfl); (case zF => k_asm); (case zX => k_asm); (case zT => k_asm); (case ze => k_is); (case zv => boot_fast); (case zn => decide); k_whole))))
  k_with "ite" => (k_closed; first | (with_reducible refine ite_pos ?zi ?_; (case zi => decide +kernel)) | (with_reducible refine ite_neg ?zi ?_; (case zi => decide +kernel)))
  k_with "getAttr ref" => (k_here; k_dflt (refine' get_own ?zF ?zX ?zI ?zg ?zh ?za ?zn ?zl ?zv ?_; (case zF => k_asm); (case zX => k_asm); (case zI => k_inst); (case zl => k_get); (case zg => k_is); (case zh => k_is); (case za => k_is); (case zn => k_is); (case zv => k_handed); k_whole))
  k_with "spliced" => ((with_reducible show wpAny _ _ (spliced (backTo _ (starEach (_ :: _) _))) _ _ _); k_dflt (refine args_cons ?_))
  k_with "newList" => (k_here; k_dflt (refine' newList_K ?zF ?zN ?_ ?zs; (case zF => k_asm); (case zN => k_asm); (case zs => exact Nat.le_of_ble_eq_true rfl); k_whole); k_extra "M46a0")
  k_with "MY ltp" => ((with_reducible rename @LT.lt Nat _ _ _ ∧ _ => kL); first | (with_reducible first | exact kL.1 | exact kL.2 | exact kL.2.1 | exact kL.2.2 | exact kL.2.2.1 | exact kL.2.2.2 | exact kL.2.2.2.1 | exact kL.2.2.2.2 | exact kL.2.2.2.2.1 | exact kL.2.2.2.2.2 | exact kL.2.2.2.2.2.1 | exact kL.2.2.2.2.2.2 | exact kL.2.2.2.2.2.2.1 | exact kL.2.2.2.2.2.2.2 | exact kL.2.2.2.2.2.2.2.1 | exact kL.2.2.2.2.2.2.2.2 | exact kL.2.2.2.2.2.2.2.2.1 | exact kL.2.2.2.2.2.2.2.2.2 | exact kL.2.2.2.2.2.2.2.2.2.1 | exact kL.2.2.2.2.2.2.2.2.2.2 | exact kL.2.2.2.2.2.2.2.2.2.2.1 | exact kL.2.2.2.2.2.2.2.2.2.2.2 | exact kL.2.2.2.2.2.2.2.2.2.2.2.1 | exact kL.2.2.2.2.2.2.2.2.2.2.2.2 | exact kL.2.2.2.2.2.2.2.2.2.2.2.2.1 | exact kL.2.2.2.2.2.2.2.2.2.2.2.2.2 | exact kL.2.2.2.2.2.2.2.2.2.2.2.2.2.1 | exact kL.2.2.2.2.2.2.2.2.2.2.2.2.2.2 | exact kL.2.2.2.2.2.2.2.2.2.2.2.2.2.2.1 | exact kL.2.2.2.2.2.2.2.2.2.2.2.2.2.2.2 | exact kL.2.2.2.2.2.2.2.2.2.2.2.2.2.2.2.1 | exact kL.2.2.2.2.2.2.2.2.2.2.2.2.2.2.2.2 | exact kL.2.2.2.2.2.2.2.2.2.2.2.2.2.2.2.2.1 | exact kL.2.2.2.2.2.2.2.2.2.2.2.2.2.2.2.2.2 | exact kL.2.2.2.2.2.2.2.2.2.2.2.2.2.2.2.2.2.1 | exact kL.2.2.2.2.2.2.2.2.2.2.2.2.2.2.2.2.2.2 | exact kL.2.2.2.2.2.2.2.2.2.2.2.2.2.2.2.2.2.2.1 | exact kL.2.2.2.2.2.2.2.2.2.2.2.2.2.2.2.2.2.2.2 | exact kL.2.2.2.2.2.2.2.2.2.2.2.2.2.2.2.2.2.2.2.1 | exact kL.2.2.2.2.2.2.2.2.2.2.2.2.2.2.2.2.2.2.2.2 | exact kL.2.2.2.2.2.2.2.2.2.2.2.2.2.2.2.2.2.2.2.2.1 | exact kL.2.2.2.2.2.2.2.2.2.2.2.2.2.2.2.2.2.2.2.2.2 | exact kL.2.2.2.2.2.2.2.2.2.2.2.2.2.2.2.2.2.2.2.2.2.1 | exact kL.2.2.2.2.2.2.2.2.2.2.2.2.2.2.2.2.2.2.2.2.2.2 | exact kL.2.2.2.2.2.2.2.2.2.2.2.2.2.2.2.2.2.2.2.2.2.2.1 | exact kL.2.2.2.2.2.2.2.2.2.2.2.2.2.2.2.2.2.2.2.2.2.2.2) | (clear kL; k_extra "MY ltp"))
  k_with "MY ne" => first | (refine Nat.ne_of_gt ?_; k_extra "MY ltp") | (refine Nat.ne_of_lt ?_; k_extra "MY ltp")
  k_with "newTuple" => (k_here; k_dflt (refine' kup_newTuple ?zF ?zN ?_ ?zs; (case zF => k_asm); (case zN => k_asm); (case zs => kmk_size)); k_extra "M46a0")
  k_with "MY ltq" => first | with_reducible assumption | k_extra "MY ltp" | ((with_reducible refine' Nat.lt_trans ?_ ?klb); (case klb => with_reducible assumption); k_extra "MY ltq") | ((with_reducible refine' Nat.lt_trans ?kla ?_); (case kla => with_reducible assumption); k_extra "MY ltp") | ((with_reducible refine' Nat.lt_succ_of_lt ?_); first | with_reducible assumption | k_extra "MY ltp" | ((with_reducible refine' Nat.lt_succ_of_lt ?_); first | with_reducible assumption | k_extra "MY ltp")) | ((with_reducible refine' Mine.mem_allLt ?_ _ ?klm); (case klm => with_reducible assumption); first | with_reducible assumption | k_extra "MY ltp")
  k_with "MY lo" => first | ((with_reducible show @LT.lt Nat _ _ _); (try dsimp only); k_extra "MY ltq") | ((with_reducible show @Ne Nat _ _); (try dsimp only); first | with_reducible assumption | (refine Ne.symm ?_; with_reducible assumption) | (refine Nat.ne_of_gt ?_; k_extra "MY ltq") | (refine Nat.ne_of_lt ?_; k_extra "MY ltq")) | decide
  k_with "H mem" => first | exact List.Mem.head _ | (refine' List.Mem.tail _ ?_; k_extra "H mem") | ((fail_if_success refine' List.Mem.tail _ ?_); change (_ : Addr × Obj) ∈ (_ : List (Addr × Obj)); first | with_reducible assumption | (with_reducible refine' List.mem_append_left _ ?_; k_extra "H mem") | (with_reducible refine' List.mem_append_right _ ?_; k_extra "H mem"))
  k_with "H room" => ((try simp only [depth_under_make, depth_under_kw, depth_in1, depth_deeper, depth_caller]); (try dsimp only [ktrTop]); first | decide | ((try simp only [Nat.add_assoc, Nat.reduceAdd]); (with_reducible rename _ + _ < recursionLimit => kH); first | exact Mine.room_of kH rfl | exact Mine.room_at kH) | omega)
  k_with "H units" => ((try simp only [units_in1, units_deeper, Around.mark_units, units_caller]); (try dsimp only [ktrTop]); first | decide | ((try simp only [Nat.add_assoc, Nat.reduceAdd]); (with_reducible rename _ + _ < cLine => kH); first | exact Mine.room_of kH rfl | exact Mine.room_at kH) | omega)
  k_with "H ne" => (refine neN ?_; (try dsimp only); first | with_reducible assumption | (refine Ne.symm ?_; with_reducible assumption) | (with_reducible first | exact Nat.ne_of_lt (by assumption) | exact Nat.ne_of_gt (by assumption)) | k_extra "MY ne" | ((with_reducible rename (_ ≠ _ ∧ _ ≠ _ ∧ _ ≠ _) ∧ _ => kOff); first | (simp only [kOff, ne_eq, not_false_eq_true]; done) | (refine Ne.symm ?_; simp only [kOff, ne_eq, not_false_eq_true]; done)) | k_extra "MY lo" | omega)
  trivial
theorem draw_c0 {w : World} {p : Program} {loose : List Str} {mean : ExcName → Option Value} {mg mb : Str → Option Value} {tp lc : Addr} {i : Int} {ta tm : Tok} {vs : List Value} {ns : List Int} {n c : Nat} {many : Int} {rest : List (Addr × Obj)}
  (hi : IntsAre vs ns) (hlen : 0 < ns.length) (hle : ns.length ≤ 24) (h0 : 0 ≤ i) (h1 : i ≤ 100) (hm : 0 < many) (hoff : OwnOff rest [tp]) (hne : lc ≠ tp)
  : ∀ (dp un : Nat) (gd : Option (List Code)) (cn : Str) (cs : Scope) (a : Addr) (ccd : Value) (cl : List (Str × Addr)) (outer : List Env) (A₀ : Around) (base h₀ : Heap) (L : Addr) (m : Str → Option Value) (s : Shared) (Q E : Value → Shared → Prop)
  (B : Below A₀ base outer h₀) (F : Fr h₀ L s.heap m) (X : (hd.heap_39 w.params).In h₀) (N : News h₀ L s.heap ((tp, listOf #[.ref lc, .int i ta] n) :: (lc, listOf vs.toArray c) :: rest)) (T : Top p loose mean mg mb h₀) (hk : cs.kind = .function)
  (hd : dp + 1 < recursionLimit) (hu : un + 8 < cLine)
  (hret : ∀ r t ta' n' h' tk', 0 ≤ r → r < many → Fr h₀ L h' m → News h₀ L h' ((tp, listOf #[.ref lc, .int (i+1) ta'] n') :: (lc, listOf vs.toArray c) :: rest) → Q (.int r t) { s with heap := h', toks := tk' }),
  wpAny (model PySem.Challenge.rw_nu0220_01.row.prog w) (ktrTop dp un gd cn cs L a ccd cl outer) (call (.ref 358) [.ref tp, .int many tm]) Q E s := by
  k_fill
  intro dp un gd cn cs a ccd cl outer A₀ base h₀ L m s Q E B F X N T hk hd hu hret
  refine wpAny_call ?_
  k_dflt cell_enter
  k_steps
  exact hret _ _ _ _ _ _ (Int.fmod_nonneg_of_pos _ hm) (Int.fmod_lt_of_pos _ hm) (by assumption) (by assumption)
theorem draw_c {w : World} {p : Program} {loose : List Str} {mean : ExcName → Option Value} {mg mb : Str → Option Value} {tp lc : Addr} {i : Int} {ta tm : Tok} {vs : List Value} {ns : List Int} {n c : Nat} {many : Int} {news : List (Addr × Obj)} {g : Obj → List (Addr × Obj)}
  {dp un : Nat} {gd : Option (List Code)} {cn : Str} {cs : Scope} {a : Addr} {ccd : Value} {cl : List (Str × Addr)} {outer : List Env} {A₀ : Around} {base h₀ : Heap} {L : Addr} {m : Str → Option Value} {s : Shared} {Q E : Value → Shared → Prop}
  (B : Below A₀ base outer h₀) (F : Fr h₀ L s.heap m) (X : (hd.heap_39 w.params).In h₀) (N : News h₀ L s.heap news) (T : Top p loose mean mg mb h₀) (hk : cs.kind = .function)
  (U : UpdF tp (listOf #[.ref lc, .int i ta] n) news g) (hc : (lc, listOf vs.toArray c) ∈ news)
  (hi : IntsAre vs ns) (hlen : 0 < ns.length) (hle : ns.length ≤ 24) (h0 : 0 ≤ i) (h1 : i ≤ 100) (hm : 0 < many)
  (hd : dp + 1 < recursionLimit) (hu : un + 8 < cLine)
  (hret : ∀ r t ta' n' h' tk', 0 ≤ r → r < many → Fr h₀ L h' m → News h₀ L h' (g (listOf #[.ref lc, .int (i+1) ta'] n')) → Q (.int r t) { s with heap := h', toks := tk' }) :
  wpAny (model PySem.Challenge.rw_nu0220_01.row.prog w) (ktrTop dp un gd cn cs L a ccd cl outer) (call (.ref 358) [.ref tp, .int many tm]) Q E s := by
  obtain ⟨pre, post, rfl, hg, h1', h2'⟩ := U.split
  have hne : lc ≠ tp := by
    rintro rfl
    rcases List.mem_append.mp hc with h | h
    · exact h1' _ h rfl
    · rcases List.mem_cons.mp h with h | h
      · injection h with _ h
        injection h with _ _ h _
        injection h with h _
        have := congrArg Array.toList h
        simp only [] at this
        subst this
        cases hi
      · exact h2' _ h rfl
  refine draw_c0 (c := c) (n := n) (ta := ta) (rest := pre ++ post) hi hlen hle h0 h1 hm ?_ hne dp un gd cn cs a ccd cl outer A₀ base h₀ L m s Q E B F X ?_ T hk hd hu ?_
  · intro p hp b hb
    rw [List.mem_singleton.mp hb]
    exact (List.mem_append.mp hp).elim (h1' p) (h2' p)
  · intro p hp
    rcases List.mem_cons.mp hp with rfl | hp
    · exact N _ (List.mem_append_right _ (.head _))
    rcases List.mem_cons.mp hp with rfl | hp
    · exact N _ hc
    · exact N _ ((List.mem_append.mp hp).elim (fun h => List.mem_append_left _ h) fun h => List.mem_append_right _ (.tail _ h))
  · intro r t ta' n' h' tk' r0 r1 F' N'
    refine hret r t ta' n' h' tk' r0 r1 F' ?_
    rw [hg]
    intro p hp
    rcases List.mem_append.mp hp with hp | hp
    · exact N' _ (.tail _ (.tail _ (List.mem_append_left _ hp)))
    rcases List.mem_cons.mp hp with rfl | hp
    · exact N' _ (.head _)
    · exact N' _ (.tail _ (.tail _ (List.mem_append_right _ hp)))
example : True ∧ True := by w_top off; first | (walk1; done) | exact ⟨trivial, trivial⟩
example : True := by
  k_with_none
  k_with "eval Name" => (k_here; (with_reducible show wpAny _ _ (eval (Expr.Name _ _) (compEnvC _ _ _ _)) _ _ _); k_dflt (first | (name_kind "local"; refine' LCgL.ld_own ?zN ?zm ?zC ?zx ?_ ?zk ?zl ?zd; (case zk => kernel_rfl); (case zl => kernel_rfl); (case zd => kernel_rfl); (case zN => k_asm); (case zm => k_mem); (case zC => assumption); (case zx => assumption); k_whole) | (name_kind "globalImplicit"; first | (refine' LCgL.ld_global ?zF ?zX ?zT ?ze ?_ ?zg ?zk ?zl ?zd; (case zg => kernel_rfl); (case zk => kernel_rfl); (case zl => kernel_rfl); (case zd => kernel_rfl); (case zF => k_asm); (case zX => k_asm); (case zT => k_asm); (case ze => k_is); k_whole) | (refine' LCgL.ld_built ?zF ?zX ?zT ?ze ?zv ?zn ?_ ?zg ?zb ?zk ?zl ?zd; (case zg => kernel_rfl); (case zb => kernel_rfl); (case zk => kernel_rfl); (case zl => kernel_rfl); (case zd => kernel_rfl); (case zF => k_asm); (case zX => k_asm); (case zT => k_asm); (case ze => k_is); (case zv => boot_fast); (case zn => decide); k_whole))))
  k_with "eval Name" => (k_here; (fail_if_success (with_reducible show wpAny _ _ (eval (Expr.Name _ _) (compEnvC _ _ _ _)) _ _ _)); k_dflt (first | (name_kind "local"; refine' nameX_L ?zF ?zv ?_ ?za ?zb ?zc; (case zF => k_asm); (case za => kernel_rfl); (case zb => kernel_rfl); (case zc => kernel_rfl); (case zv => rfl); k_whole) | (name_kind "cell"; refine' nameX_C ?zN ?zl ?zm ?zd ?_ ?za ?zb ?zc; (case za => kernel_rfl); (case zb => kernel_rfl); (case zc => kernel_rfl); (case zN => k_asm); (case zl => rfl); (case zm => k_mem); (case zd => k_asm); k_whole) | (name_kind "globalImplicit"; first | (refine' nameX_K ?zF ?zX ?zT ?ze ?_ ?za ?zb ?zc; (case za => kernel_rfl); (case zb => kernel_rfl); (case zc => kernel_rfl); (case zF => k_asm); (case zX => k_asm); (case zT => k_asm); (case ze => k_is); k_whole) | (refine' nameX_B ?zF ?zX ?zT ?ze ?zv ?zn ?_ ?za ?zb ?zc; (case za => kernel_rfl); (case zb => kernel_rfl); (case zc => kernel_rfl); (case zF => k_asm); (case zX => k_asm); (case zT => k_asm); (case ze => k_is); (case zv => boot_fast); (case zn => decide); k_whole))))
  k_with "ite" => (k_closed; first | (with_reducible refine ite_pos ?zi ?_; (case zi => decide +kernel)) | (with_reducible refine ite_neg ?zi ?_; (case zi => decide +kernel)))
  k_with "getAttr ref" => (k_here; k_dflt (refine' get_own ?zF ?zX ?zI ?zg ?zh ?za ?zn ?zl ?zv ?_; (case zF => k_asm); (case zX => k_asm); (case zI => k_inst); (case zl => k_get); (case zg => k_is); (case zh => k_is); (case za => k_is); (case zn => k_is); (case zv => k_handed); k_whole))
  k_with "spliced" => ((with_reducible show wpAny _ _ (spliced (backTo _ (starEach (_ :: _) _))) _ _ _); k_dflt (refine args_cons ?_))
  k_with "newList" => (k_here; k_dflt (refine' newList_K ?zF ?zN ?_ ?zs; (case zF => k_asm); (case zN => k_asm); (case zs => exact Nat.le_of_ble_eq_true rfl); k_whole); k_extra "M46a0")
  k_with "MY ltp" => ((with_reducible rename @LT.lt Nat _ _ _ ∧ _ => kL); first | (with_reducible first | exact kL.1 | exact kL.2 | exact kL.2.1 | exact kL.2.2 | exact kL.2.2.1 | exact kL.2.2.2 | exact kL.2.2.2.1 | exact kL.2.2.2.2 | exact kL.2.2.2.2.1 | exact kL.2.2.2.2.2 | exact kL.2.2.2.2.2.1 | exact kL.2.2.2.2.2.2 | exact kL.2.2.2.2.2.2.1 | exact kL.2.2.2.2.2.2.2 | exact kL.2.2.2.2.2.2.2.1 | exact kL.2.2.2.2.2.2.2.2 | exact kL.2.2.2.2.2.2.2.2.1 | exact kL.2.2.2.2.2.2.2.2.2 | exact kL.2.2.2.2.2.2.2.2.2.1 | exact kL.2.2.2.2.2.2.2.2.2.2 | exact kL.2.2.2.2.2.2.2.2.2.2.1 | exact kL.2.2.2.2.2.2.2.2.2.2.2 | exact kL.2.2.2.2.2.2.2.2.2.2.2.1 | exact kL.2.2.2.2.2.2.2.2.2.2.2.2 | exact kL.2.2.2.2.2.2.2.2.2.2.2.2.1 | exact kL.2.2.2.2.2.2.2.2.2.2.2.2.2 | exact kL.2.2.2.2.2.2.2.2.2.2.2.2.2.1 | exact kL.2.2.2.2.2.2.2.2.2.2.2.2.2.2 | exact kL.2.2.2.2.2.2.2.2.2.2.2.2.2.2.1 | exact kL.2.2.2.2.2.2.2.2.2.2.2.2.2.2.2 | exact kL.2.2.2.2.2.2.2.2.2.2.2.2.2.2.2.1 | exact kL.2.2.2.2.2.2.2.2.2.2.2.2.2.2.2.2 | exact kL.2.2.2.2.2.2.2.2.2.2.2.2.2.2.2.2.1 | exact kL.2.2.2.2.2.2.2.2.2.2.2.2.2.2.2.2.2 | exact kL.2.2.2.2.2.2.2.2.2.2.2.2.2.2.2.2.2.1 | exact kL.2.2.2.2.2.2.2.2.2.2.2.2.2.2.2.2.2.2 | exact kL.2.2.2.2.2.2.2.2.2.2.2.2.2.2.2.2.2.2.1 | exact kL.2.2.2.2.2.2.2.2.2.2.2.2.2.2.2.2.2.2.2 | exact kL.2.2.2.2.2.2.2.2.2.2.2.2.2.2.2.2.2.2.2.1 | exact kL.2.2.2.2.2.2.2.2.2.2.2.2.2.2.2.2.2.2.2.2 | exact kL.2.2.2.2.2.2.2.2.2.2.2.2.2.2.2.2.2.2.2.2.1 | exact kL.2.2.2.2.2.2.2.2.2.2.2.2.2.2.2.2.2.2.2.2.2 | exact kL.2.2.2.2.2.2.2.2.2.2.2.2.2.2.2.2.2.2.2.2.2.1 | exact kL.2.2.2.2.2.2.2.2.2.2.2.2.2.2.2.2.2.2.2.2.2.2 | exact kL.2.2.2.2.2.2.2.2.2.2.2.2.2.2.2.2.2.2.2.2.2.2.1 | exact kL.2.2.2.2.2.2.2.2.2.2.2.2.2.2.2.2.2.2.2.2.2.2.2) | (clear kL; k_extra "MY ltp"))
  k_with "MY ne" => first | (refine Nat.ne_of_gt ?_; k_extra "MY ltp") | (refine Nat.ne_of_lt ?_; k_extra "MY ltp")
  k_with "newTuple" => (k_here; k_dflt (refine' kup_newTuple ?zF ?zN ?_ ?zs; (case zF => k_asm); (case zN => k_asm); (case zs => kmk_size)); k_extra "M46a0")
  k_with "MY ltq" => first | with_reducible assumption | k_extra "MY ltp" | ((with_reducible refine' Nat.lt_trans ?_ ?klb); (case klb => with_reducible assumption); k_extra "MY ltq") | ((with_reducible refine' Nat.lt_trans ?kla ?_); (case kla => with_reducible assumption); k_extra "MY ltp") | ((with_reducible refine' Nat.lt_succ_of_lt ?_); first | with_reducible assumption | k_extra "MY ltp" | ((with_reducible refine' Nat.lt_succ_of_lt ?_); first | with_reducible assumption | k_extra "MY ltp")) | ((with_reducible refine' Mine.mem_allLt ?_ _ ?klm); (case klm => with_reducible assumption); first | with_reducible assumption | k_extra "MY ltp")
  k_with "MY lo" => first | ((with_reducible show @LT.lt Nat _ _ _); (try dsimp only); k_extra "MY ltq") | ((with_reducible show @Ne Nat _ _); (try dsimp only); first | with_reducible assumption | (refine Ne.symm ?_; with_reducible assumption) | (refine Nat.ne_of_gt ?_; k_extra "MY ltq") | (refine Nat.ne_of_lt ?_; k_extra "MY ltq")) | decide
  k_with "H mem" => first | exact List.Mem.head _ | (refine' List.Mem.tail _ ?_; k_extra "H mem") | ((fail_if_success refine' List.Mem.tail _ ?_); change (_ : Addr × Obj) ∈ (_ : List (Addr × Obj)); first | with_reducible assumption | (with_reducible refine' List.mem_append_left _ ?_; k_extra "H mem") | (with_reducible refine' List.mem_append_right _ ?_; k_extra "H mem"))
  k_with "H room" => ((try simp only [depth_under_make, depth_under_kw, depth_in1, depth_deeper, depth_caller]); (try dsimp only [ktrTop]); first | decide | ((try simp only [Nat.add_assoc, Nat.reduceAdd]); (with_reducible rename _ + _ < recursionLimit => kH); first | exact Mine.room_of kH rfl | exact Mine.room_at kH) | omega)
  k_with "H units" => ((try simp only [units_in1, units_deeper, Around.mark_units, units_caller]); (try dsimp only [ktrTop]); first | decide | ((try simp only [Nat.add_assoc, Nat.reduceAdd]); (with_reducible rename _ + _ < cLine => kH); first | exact Mine.room_of kH rfl | exact Mine.room_at kH) | omega)
  k_with "H ne" => (refine neN ?_; (try dsimp only); first | with_reducible assumption | (refine Ne.symm ?_; with_reducible assumption) | (with_reducible first | exact Nat.ne_of_lt (by assumption) | exact Nat.ne_of_gt (by assumption)) | k_extra "MY ne" | ((with_reducible rename (_ ≠ _ ∧ _ ≠ _ ∧ _ ≠ _) ∧ _ => kOff); first | (simp only [kOff, ne_eq, not_false_eq_true]; done) | (refine Ne.symm ?_; simp only [kOff, ne_eq, not_false_eq_true]; done)) | k_extra "MY lo" | omega)
  trivial
theorem tup_in {K : Frag} {h : Heap} {a : Addr} {o : Obj} {its : Array Value} {n : Nat} (X : K.In h) (e : K.lookup a = some o) (hc : o.cls = .type "tuple") (hd : o.data = .seq its n) : h.IsTuple a its := ⟨o, X _ _ e, hc, n, hd⟩
def tagsL : List Str := ["cmap", "GDEF", "GSUB", "GPOS", "kern", "post"].map Str.ofString
abbrev tup (vs : List Value) : Obj := { cls := .type "tuple", data := .seq vs.toArray }
abbrev sK (w : World) := PySem.strKind PySem.Challenge.rw_nu0220_01.row.prog w
theorem news_back {h₀ h : Heap} {L : Addr} {A B : List (Addr × Obj)} (N : News h₀ L h B) (hs : ∀ q ∈ A, q ∈ B) : News h₀ L h (A ++ B) := fun p hp => (List.mem_append.mp hp).elim (fun h => N p (hs p h)) (N p)
def FnAt (f : Addr) (news : List (Addr × Obj)) : Prop := ∃ o fd, (f, o) ∈ news ∧ o.data = .func fd ∧ o.cls = .type "function" ∧ o.dict = none
def ReaderOk (w : World) (f : Addr) (tag : Str) (news : List (Addr × Obj)) : Prop :=
  FnAt f news ∧ ∀ (data : Value) {p : Program} {loose : List Str} {mean : ExcName → Option Value} {mg mb : Str → Option Value} (dp un : Nat) (gd : Option (List Code)) (cn : Str) (cs : Scope) (a : Addr) (ccd : Value) (cl : List (Str × Addr)) (outer : List Env) (A₀ : Around) (base h₀ : Heap) (L : Addr) (m : Str → Option Value) (s : Shared) (Q E : Value → Shared → Prop) (rest : List (Addr × Obj)),
    (∀ q ∈ news, q ∈ rest) → Below A₀ base outer h₀ → Fr h₀ L s.heap m → (hd.heap_39 w.params).In h₀ → News h₀ L s.heap rest → Top p loose mean mg mb h₀ → cs.kind = .function → dp + 4 < recursionLimit → un + 32 < cLine →
    (∀ t tt h' tk', Fr h₀ L h' m → News h₀ L h' ((t, tup [.str tag tt, data]) :: rest) → (∀ p ∈ rest, p.1 < t) → Q (.ref t) { s with heap := h', toks := tk' }) →
    wpAny (model PySem.Challenge.rw_nu0220_01.row.prog w) (ktrTop dp un gd cn cs L a ccd cl outer) (call (.ref f) [data]) Q E s
theorem ReaderOk.mono {w : World} {f : Addr} {tag : Str} {news news' : List (Addr × Obj)} (h : ReaderOk w f tag news) (hs : ∀ p ∈ news, p ∈ news') : ReaderOk w f tag news' :=
  ⟨by obtain ⟨o, fd, a, b⟩ := h.1; exact ⟨o, fd, hs _ a, b⟩, fun data p loose mean mg mb dp un gd cn cs a ccd cl outer A₀ base h₀ L m s Q E rest hr => h.2 data dp un gd cn cs a ccd cl outer A₀ base h₀ L m s Q E rest fun q hq => hr q (hs q hq)⟩
def TabSt (qual : Str) (ps : Array Value) (tl : List (Addr × Obj)) : Prop := ∃ c' oc vs t, ps = #[rawInt 151, rawInt 23, .ref c'] ∧ (c', oc) ∈ tl ∧ oc.data = .fields vs ∧ vs[1]? = some (.str qual t)
theorem TabSt.mono {qual : Str} {ps : Array Value} {tl tl' : List (Addr × Obj)} (h : TabSt qual ps tl) (hs : ∀ p ∈ tl, p ∈ tl') : TabSt qual ps tl' := by
  obtain ⟨c', oc, vs, t, a, b, c, d⟩ := h; exact ⟨c', oc, vs, t, a, hs _ b, c, d⟩
abbrev qualL : Str := Str.ofString "_law_readers.<locals>.<lambda>"
def ReadersIn (w : World) (rvs : List (Str × Value)) (tl : List (Addr × Obj)) : Prop := ∀ tag ∈ tagsL, ∃ f, valueAt rvs tag = some (.ref f) ∧ ReaderOk w f tag tl
theorem tagsL_nodup : tagsL.Nodup := by decide +kernel
theorem readersIn_of {w : World} {fs : List (Str × Value)} {tl : List (Addr × Obj)} (hmap : fs.map (·.1) = tagsL) (hrd : ∀ q ∈ fs, ∃ f, q.2 = .ref f ∧ ReaderOk w f q.1 tl) : ReadersIn w (merged [] fs) tl := by
  have hn : (fs.map (·.1)).Nodup := by rw [hmap]; exact tagsL_nodup
  rw [merged_nil_of_nodup fs hn]
  intro tag ht
  rw [← hmap] at ht
  obtain ⟨q, hq, rfl⟩ := List.mem_map.mp ht
  obtain ⟨i, hi⟩ := List.mem_iff_getElem?.mp hq
  obtain ⟨f, e, r⟩ := hrd q hq
  exact ⟨f, by rw [← e]; exact valueAt_of_get hn hi, r⟩
theorem ReadersIn.mono {w : World} {rvs : List (Str × Value)} {tl tl' : List (Addr × Obj)} (h : ReadersIn w rvs tl) (hs : ∀ p ∈ tl, p ∈ tl') : ReadersIn w rvs tl' := fun tag ht => let ⟨f, e, r⟩ := h tag ht; ⟨f, e, r.mono hs⟩
def RdInv (w : World) (rest : List (Addr × Obj)) (i : Nat) (ys : List Value) (news' : List (Addr × Obj)) : Prop :=
  ∃ ps tl fs, news' = (360, tabObj ps) :: tl ∧ OwnOff tl [360] ∧ ((i = 0 ∧ ps = #[]) ∨ TabSt qualL ps tl) ∧ (∀ q ∈ rest, q ∈ tl) ∧ PairsIn (sK w) tl ys fs ∧ fs.map (·.1) = tagsL.take i ∧ ∀ q ∈ fs, ∃ f, q.2 = .ref f ∧ ReaderOk w f q.1 tl
theorem off_cons {p : Addr × Obj} {l : List (Addr × Obj)} {b : Addr} (h : @Ne Nat p.1 b) (r : OwnOff l [b]) : OwnOff (p :: l) [b] := fun q hq c hc => by
  rcases List.mem_cons.mp hq with rfl | hq
  · rw [List.mem_singleton.mp hc]; exact h
  · exact r q hq c hc
section
variable {w : World} {g : Heap} {L D' f c' t I C D : Addr} {fo oc to oI oC : Obj} {h' : Heap} {tk tk' : Nat} {m : Str → Option Value} {s : Shared} {ys : List Value} {fs : List (Str × Value)} {tag : Str} {tk1 : Tok} {n : Nat} {ps ps' : Array Value} {tl rest : List (Addr × Obj)} {i : Nat} {vs : Array Value} {tq : Tok}
theorem rd_step (F : Fr g L h' m) (N : News g L h' ((D', { cls := .type "tuple", data := .seq [Value.str tag tk1, .ref f].toArray n }) :: (f, fo) :: (t, to) :: (I, oI) :: (C, oC) :: (D, LCg.lst ys) :: (360, tabObj ps) :: tl))
    (hDf : @LT.lt Nat _ f D') (htf : @LT.lt Nat _ t f) (hI : @LT.lt Nat _ I t) (hC : @LT.lt Nat _ C t) (hD : @LT.lt Nat _ D t) (h3 : @LT.lt Nat _ 360 t) (off : ((@Ne Nat 360 I) ∧ (@Ne Nat 360 C) ∧ (@Ne Nat 360 D)) ∧ LCg.Off3 I C D tl)
    (off1 : OwnOff tl [360]) (htab : TabSt qualL ps tl) (sub : ∀ q ∈ rest, q ∈ tl) (hPr : PairsIn (sK w) tl ys fs) (hmap : fs.map (·.1) = tagsL.take i) (hrd : ∀ q ∈ fs, ∃ f, q.2 = .ref f ∧ ReaderOk w f q.1 tl) (htag : tagsL[i]? = some tag)
    (hR : ReaderOk w f tag ((f, fo) :: (t, to) :: tl)) :
    LCg.CompEnd g L m { s with heap := h₀', toks := tk } I oI C oC D (LCg.lst ys) (fun _ => True) (fun y news' => RdInv w rest (i + 1) (ys ++ [y]) news') (.ref D') { s with heap := h', toks := tk' } := by
  have s1 : ∀ q ∈ tl, q ∈ (D', ({ cls := .type "tuple", data := .seq [Value.str tag tk1, .ref f].toArray n } : Obj)) :: (f, fo) :: (t, to) :: tl := fun q hq => .tail _ (.tail _ (.tail _ hq))
  refine ⟨h', tk', (360, tabObj ps) :: (D', ({ cls := .type "tuple", data := .seq [Value.str tag tk1, .ref f].toArray n } : Obj)) :: (f, fo) :: (t, to) :: tl, rfl, F, fun p hp => N p ?_, ?_, trivial, ps, _, fs ++ [(tag, .ref f)], rfl, ?_, .inr (htab.mono s1), fun q hq => s1 q (sub q hq), (hPr.mono s1).snoc (.head _) (strKind_is _ _ _ _), ?_, ?_⟩
  · simp only [List.mem_cons] at hp ⊢
    rcases hp with h | h | h | h | h | h | h | h <;> simp only [h, true_or, or_true]
  · exact ⟨off.1, ⟨Nat.ne_of_gt (by (first | k_extra "MY lo" | omega)), Nat.ne_of_gt (by (first | k_extra "MY lo" | omega)), Nat.ne_of_gt (by (first | k_extra "MY lo" | omega))⟩, ⟨Nat.ne_of_gt (by (first | k_extra "MY lo" | omega)), Nat.ne_of_gt (by (first | k_extra "MY lo" | omega)), Nat.ne_of_gt (by (first | k_extra "MY lo" | omega))⟩, ⟨Nat.ne_of_gt (by (first | k_extra "MY lo" | omega)), Nat.ne_of_gt (by (first | k_extra "MY lo" | omega)), Nat.ne_of_gt (by (first | k_extra "MY lo" | omega))⟩, off.2⟩
  · exact off_cons (Nat.ne_of_gt (by show (360 : Nat) < D'; (first | k_extra "MY lo" | omega))) (off_cons (Nat.ne_of_gt (by show (360 : Nat) < f; (first | k_extra "MY lo" | omega))) (off_cons (Nat.ne_of_gt (by show (360 : Nat) < t; (first | k_extra "MY lo" | omega))) off1))
  · rw [List.map_append, hmap, List.take_add_one, htag]; rfl
  · intro q hq
    rcases List.mem_append.mp hq with hq | hq
    · obtain ⟨f', e, r⟩ := hrd q hq
      exact ⟨f', e, r.mono s1⟩
    · rw [List.mem_singleton.mp hq]
      exact ⟨f, rfl, hR.mono fun p hp => .tail _ hp⟩
end
example : True := by
  k_with "MY fn" => (refine wpAny_call ?_; k_dflt cell_enter)
  k_with "MY cls" => (k_dflt (refine' call_cls ?zq1 ?zq2 ?zq3 ?zq4 ?zq5 ?zq6 ?_; (case zq1 => k_asm); (case zq2 => k_asm); (case zq3 => k_asm); (case zq4 => k_is); (case zq5 => k_is); (case zq6 => k_is); k_extra "M6a5f"))
  k_with "MY sub" => repeat' (first | exact List.forall_mem_nil _ | exact Mine.sub_refl | (refine Mine.sub_cons (by k_mem) ?_) | refine Mine.sub_tail ?_)
  k_with "callWith ref" => (k_here; k_dflt (first | refine' callWith_K ?zq1 ?zq2 ?_; (case zq1 => k_asm); (case zq2 => k_is); k_whole | (refine' callWith_K0 (Frag.In.keeps ?zq1 (Fr.keep ?zqF)) ?zq2 ?_; (case zqF => k_asm); (case zq1 => k_asm); (case zq2 => k_is); k_whole) | refine' callWith_K0 ?zq1 ?zq2 ?_; (case zq1 => k_in); (case zq2 => k_is); k_whole))
  k_with "eval Lambda" => (k_here; k_dflt (refine' kdv_lam ?zqd ?zqk ?_; (case zqd => exact rfl); (case zqk => exact rfl)))
  k_with "evalAll" => (k_here; (with_reducible show wpAny _ _ (evalAll (evalEach _ _)) _ _ _); k_dflt (first | refine kdv_all1 ?_ | refine kdv_all0 ?_))
  k_with "makeFunction" => (k_here; k_dflt (refine' kdv_tuple ?zqF ?zqN ?zqe ?_; (case zqF => k_asm); (case zqN => k_asm); (case zqe => exact rfl)); k_extra "Md797")
  k_with "makeTail" => (k_here; (first | (k_dflt (refine' Mine.mk_nest (c := 362) (P := 360) ?zqF ?zqN ?zqT ?zqC ?zqg ?zqd ?zqU ?zqt ?zqn ?zql ?_; (case zqF => k_asm); (case zqN => k_asm); (case zqT => k_asm); (case zqC => kn_code); (case zqg => rfl); (case zqd => rfl); (case zqU => k_updF); (case zqt => kn_triples); (case zqn => kn_among); (case zql => rfl)); k_extra "Mcfca") | (k_dflt (refine' Mine.mk_hit (c := 362) (P := 360) ?zqF ?zqN ?zqT ?zqC ?zqg ?zqd ?zqm ?zqt ?zqn ?zql ?_; (case zqF => k_asm); (case zqN => k_asm); (case zqT => k_asm); (case zqC => kn_code); (case zqg => rfl); (case zqd => rfl); (case zqm => k_mem); (case zqt => kn_triples); (case zqn => kn_hit); (case zql => rfl)); k_extra "M69cc")))
  trivial
local macro_rules | `(tactic| k_extra "Mcfca") => `(tactic| (intro x0 x1 x2 x3 x4 x5 x6 x7 x8 x9 x10 x11 x12 x13 x14; (try dsimp only at x10); (try k_lt x13); (try k_lt2 x14)))
local macro_rules | `(tactic| k_extra "M69cc") => `(tactic| (intro x0 x1 x2 x3 x4 x5 x6 x7; (try dsimp only at x6); (try k_lt x7)))
theorem rd0 {w : World} {p : Program} {loose : List Str} {mean : ExcName → Option Value} {mg mb : Str → Option Value} {ps : Array Value} {rest : List (Addr × Obj)}
  (h360 : OwnOff rest [360]) (htab : ps = #[] ∨ TabSt qualL ps rest)
  : ∀ (dp un : Nat) (gd : Option (List Code)) (cn : Str) (cs : Scope) (a : Addr) (ccd : Value) (cl : List (Str × Addr)) (outer : List Env) (A₀ : Around) (base h₀ : Heap) (L : Addr) (m : Str → Option Value) (s : Shared) (Q E : Value → Shared → Prop)
  (_B : Below A₀ base outer h₀) (_F : Fr h₀ L s.heap m) (_X : (hd.heap_39 w.params).In h₀) (_N : News h₀ L s.heap ((360, tabObj ps) :: rest)) (_T : Top p loose mean mg mb h₀) (_hk : cs.kind = .function)
  (_hd : dp + 6 < recursionLimit) (_hu : un + 64 < cLine)
  (_hret : ∀ d o rvs ps' tl h' tk', Fr h₀ L h' m → News h₀ L h' ((d, o) :: (360, tabObj ps') :: tl) → (∀ q ∈ rest, q ∈ tl) → OwnOff tl [360] → TabSt qualL ps' tl → o.IsDictOf (sK w) rvs → ReadersIn w rvs tl → (d == sysModules) = false → (∀ p ∈ tl, p.1 < d) → @LT.lt Nat _ 360 d → Q (.ref d) { s with heap := h', toks := tk' }) (_hc : CodeHd base 362 360),
  wpAny (model PySem.Challenge.rw_nu0220_01.row.prog w) (ktrTop dp un gd cn cs L a ccd cl outer) (call (.ref 363) []) Q E s := by
  k_fill
  intro dp un gd cn cs a ccd cl outer A₀ base h₀ L m s Q E B F X N T hk hd hu hret
  intro hcd
  refine wpAny_call ?_
  k_dflt cell_enter
  repeat' ((fail_if_success (with_reducible show wpAny _ _ (eval (Expr.ListComp _ _ _ _) _) _ _ _)); (first | (k_unfold; (try dsimp only)) | walk1 | (dsimp only; walk1) | fail "no step"))
  k_dflt (refine ListComp_Tup (by k_asm) (by rfl) (by decide) (by rfl) (by decide) (by rfl) ?_ (by intro _; rfl))
  walk1
  refine SrcTup.base (by rfl) (by k_asm) (by k_asm) (tup_in (by k_asm) (by k_is) rfl rfl) (by first | size_fits | exact Nat.le_of_ble_eq_true rfl) ?_
  intro g'
  refine compRest_inv (RdInv w rest) ?_ ?_ _ 0 [] _ rfl ?_
  · rename_i g₁ L₁ h₁ FG' F₁ N₁ B₁ X₁ T₁
    rintro i ys news hi ⟨ps, tl, fs, rfl, off1, tab, sub, hPr, hmap, hrd⟩ v I oI C oC D m₂ h tk E' hP hC hx F' N' off ne
    clear F₁ N₁ hret
    have hCd : CodeHd g₁ 362 360 := hcd.keeps (Below.stays B₁)
    obtain ⟨tag, tok, rfl, htag⟩ : ∃ tag tok, v = .str tag tok ∧ tagsL[i]? = some tag := by
      rcases i with _ | _ | _ | _ | _ | _ | i
      any_goals exact ⟨_, _, (Option.some.inj hP).symm, rfl⟩
      exact absurd hi (by simp)
    simp only [LCg.Off3] at off
    rcases tab with ⟨hi0, rfl⟩ | ⟨c', oc, vs, t, rfl, hmc, hdc, hvc⟩
    · clear hP
      k_steps
      rename_i tD hq0 lt f c' oc vs tq ctv doc hq1 tk1 d1 d2 l1 l2 D' hq2 F2 N2 l3
      have sc : ∀ q ∈ tl, q ∈ (c', oc) :: tl := fun q hq => .tail _ hq
      refine rd_step (t := tD) (to := kdv_tup [.str tag tok]) (fo := kdv_obj _ _ _ _ _ _ _ _ _ _ _) (ps := #[rawInt 151, rawInt 23, .ref c']) (tl := (c', oc) :: tl) F2 (news_sub N2 (by k_extra "MY sub")) (by (first | k_extra "MY lo" | omega)) (by (first | k_extra "MY lo" | omega)) (by (first | k_extra "MY lo" | omega)) (by (first | k_extra "MY lo" | omega)) (by (first | k_extra "MY lo" | omega)) (by (first | k_extra "MY lo" | omega)) ⟨off.1, ⟨Nat.ne_of_gt (by (first | k_extra "MY lo" | omega)), Nat.ne_of_gt (by (first | k_extra "MY lo" | omega)), Nat.ne_of_gt (by (first | k_extra "MY lo" | omega))⟩, off.2⟩ (off_cons (Nat.ne_of_gt (by (first | k_extra "MY lo" | omega))) off1) ⟨c', oc, _, tq, rfl, .head _, d1, d2⟩ (fun q hq => sc q (sub q hq)) (hPr.mono sc) hmap (fun q hq => let ⟨f, e, r⟩ := hrd q hq; ⟨f, e, r.mono sc⟩) htag ?_
      refine ⟨⟨_, _, .head _, rfl, rfl, rfl⟩, ?_⟩
      intro data p loose mean mg mb dp un gd cn cs a ccd cl outer A₀ base h₀ L m s Q E rest hsub B F X N T hk hd hu hret
      have N1 := news_back N hsub
      (simp only [List.cons_append] at N1)
      clear N
      refine wpAny_call ?_
      (refine' kdv_codeE ?zk1 ?zk2 ?zk3 ?zk4 ?zk5 ?zkA ?zkF ?zkK ?zk6 ?zk7 ?zk8 ?zk9 ?zkB ?_ ?zc2 ?zc3 ?zc4 ?zc5; (case zkA => exact rfl); (case zkF => exact rfl); (case zkK => exact hk); (case zk1 => exact B); (case zk2 => exact F); (case zk3 => exact X); (case zk4 => exact N1); (case zk5 => exact T); (case zk6 => exact .head _); (case zk7 => first | exact codeRec_news N1 (.tail _ (.tail _ (.head _))) (by assumption) (by assumption) | exact codeRec_news N1 (.tail _ (.tail _ (List.mem_append_left _ (by assumption)))) (by assumption) (by assumption)); (case zk8 => k_room); (case zk9 => exact kdv_binds N1 (.tail _ (.head _)) rfl rfl rfl); (case zc5 => decide); (case zkB => exact locs rfl); (case zc2 => exact rfl); (case zc3 => exact rfl); (case zc4 => exact rfl); intro g' L' h' FG' F' N' B' X' T'; (try dsimp only))
      k_steps
      refine hret _ tok _ _ (by k_asm) (news_sub (by k_asm) (sub_cons (.head _) ?_)) (fun p hp => mem_allLt (l := tl ++ rest) (by simp only [*]) p (List.mem_append_right _ hp))
      exact fun p hp => by first | exact .tail _ (.tail _ (.tail _ (.tail _ (List.mem_append_right _ hp)))) | exact .tail _ (.tail _ (.tail _ (List.mem_append_right _ hp)))
    · clear hP
      k_steps
      rename_i tD hq0 lt f ctv doc hq1 tk1 l1 D' hq2 F2 N2 l3
      refine rd_step (t := tD) (to := kdv_tup [.str tag tok]) (fo := kdv_obj _ _ _ _ _ _ _ _ _ _ _) (ps := #[rawInt 151, rawInt 23, .ref c']) (tl := tl) F2 (news_sub N2 (by k_extra "MY sub")) (by (first | k_extra "MY lo" | omega)) (by (first | k_extra "MY lo" | omega)) (by (first | k_extra "MY lo" | omega)) (by (first | k_extra "MY lo" | omega)) (by (first | k_extra "MY lo" | omega)) (by (first | k_extra "MY lo" | omega)) off off1 ⟨c', oc, _, t, rfl, hmc, hdc, hvc⟩ sub hPr hmap hrd htag ?_
      refine ⟨⟨_, _, .head _, rfl, rfl, rfl⟩, ?_⟩
      intro data p loose mean mg mb dp un gd cn cs a ccd cl outer A₀ base h₀ L m s Q E rest hsub B F X N T hk hd hu hret
      have N1 := news_back N hsub
      (simp only [List.cons_append] at N1)
      clear N
      refine wpAny_call ?_
      (refine' kdv_codeE ?zk1 ?zk2 ?zk3 ?zk4 ?zk5 ?zkA ?zkF ?zkK ?zk6 ?zk7 ?zk8 ?zk9 ?zkB ?_ ?zc2 ?zc3 ?zc4 ?zc5; (case zkA => exact rfl); (case zkF => exact rfl); (case zkK => exact hk); (case zk1 => exact B); (case zk2 => exact F); (case zk3 => exact X); (case zk4 => exact N1); (case zk5 => exact T); (case zk6 => exact .head _); (case zk7 => first | exact codeRec_news N1 (.tail _ (.tail _ (.head _))) (by assumption) (by assumption) | exact codeRec_news N1 (.tail _ (.tail _ (List.mem_append_left _ (by assumption)))) (by assumption) (by assumption)); (case zk8 => k_room); (case zk9 => exact kdv_binds N1 (.tail _ (.head _)) rfl rfl rfl); (case zc5 => decide); (case zkB => exact locs rfl); (case zc2 => exact rfl); (case zc3 => exact rfl); (case zc4 => exact rfl); intro g' L' h' FG' F' N' B' X' T'; (try dsimp only))
      k_steps
      refine hret _ tok _ _ (by k_asm) (news_sub (by k_asm) (sub_cons (.head _) ?_)) (fun p hp => mem_allLt (l := tl ++ rest) (by simp only [*]) p (List.mem_append_right _ hp))
      exact fun p hp => by first | exact .tail _ (.tail _ (.tail _ (.tail _ (List.mem_append_right _ hp)))) | exact .tail _ (.tail _ (.tail _ (List.mem_append_right _ hp)))
  · rintro ys news ⟨ps', tl, fs, rfl, off1, tab, sub, hPr, hmap, hrd⟩ D h tk F' N' o1
    have hys : ys.length ≤ sizeLine := by rw [hPr.length, ← List.length_map (f := (·.1)), hmap]; exact Nat.le_of_ble_eq_true rfl
    k_steps
    refine dl_call (knd := sK w) (hh := rfl) (by k_asm) (by k_asm) (Top.nolimit (by k_asm)) (.head _) (hPr.mono fun p hp => .tail _ (.tail _ hp)) hys ?_
    intro d h1 o1 tk1 F1 N1 l1 lo hdo
    k_steps
    rename_i kF kN
    refine hret d o1 _ ps' tl _ _ (by k_asm) (news_sub (by k_asm) (by k_extra "MY sub")) sub off1 (tab.resolve_left fun h => absurd h.1 (by simp)) hdo (readersIn_of hmap hrd) lo (fun p hp => l1 p (.tail _ (.tail _ hp))) (l1 _ (.tail _ (.head _)))
  · exact ⟨_, rest, [], rfl, h360, htab.imp (fun e => ⟨rfl, e⟩) id, fun _ h => h, .nil, rfl, fun _ h => nomatch h⟩
example : True ∧ True := by w_top off; first | (walk1; done) | exact ⟨trivial, trivial⟩
example : True := by
  k_with_none
  k_with "eval Name" => (k_here; (with_reducible show wpAny _ _ (eval (Expr.Name _ _) (compEnvC _ _ _ _)) _ _ _); k_dflt (first | (name_kind "local"; refine' LCgL.ld_own ?zN ?zm ?zC ?zx ?_ ?zk ?zl ?zd; (case zk => kernel_rfl); (case zl => kernel_rfl); (case zd => kernel_rfl); (case zN => k_asm); (case zm => k_mem); (case zC => assumption); (case zx => assumption); k_whole) | (name_kind "globalImplicit"; first | (refine' LCgL.ld_global ?zF ?zX ?zT ?ze ?_ ?zg ?zk ?zl ?zd; (case zg => kernel_rfl); (case zk => kernel_rfl); (case zl => kernel_rfl); (case zd => kernel_rfl); (case zF => k_asm); (case zX => k_asm); (case zT => k_asm); (case ze => k_is); k_whole) | (refine' LCgL.ld_built ?zF ?zX ?zT ?ze ?zv ?zn ?_ ?zg ?zb ?zk ?zl ?zd; (case zg => kernel_rfl); (case zb => kernel_rfl); (case zk => kernel_rfl); (case zl => kernel_rfl); (case zd => kernel_rfl); (case zF => k_asm); (case zX => k_asm); (case zT => k_asm); (case ze => k_is); (case zv => boot_fast); (case zn => decide); k_whole))))
  k_with "eval Name" => (k_here; (fail_if_success (with_reducible show wpAny _ _ (eval (Expr.Name _ _) (compEnvC _ _ _ _)) _ _ _)); k_dflt (first | (name_kind "local"; refine' nameX_L ?zF ?zv ?_ ?za ?zb ?zc; (case zF => k_asm); (case za => kernel_rfl); (case zb => kernel_rfl); (case zc => kernel_rfl); (case zv => rfl); k_whole) | (name_kind "cell"; refine' nameX_C ?zN ?zl ?zm ?zd ?_ ?za ?zb ?zc; (case za => kernel_rfl); (case zb => kernel_rfl); (case zc => kernel_rfl); (case zN => k_asm); (case zl => rfl); (case zm => k_mem); (case zd => k_asm); k_whole) | (name_kind "globalImplicit"; first | (refine' nameX_K ?zF ?zX ?zT ?ze ?_ ?za ?zb ?zc; (case za => kernel_rfl); (case zb => kernel_rfl); (case zc => kernel_rfl); (case zF => k_asm); (case zX => k_asm); (case zT => k_asm); (case ze => k_is); k_whole) | (refine' nameX_B ?zF ?zX ?zT ?ze ?zv ?zn ?_ ?za ?zb ?zc; (case za => kernel_rfl); (case zb => kernel_rfl); (case zc => kernel_rfl); (case zF => k_asm); (case zX => k_asm); (case zT => k_asm); (case ze => k_is); (case zv => boot_fast); (case zn => decide); k_whole))))
  k_with "ite" => (k_closed; first | (with_reducible refine ite_pos ?zi ?_; (case zi => decide +kernel)) | (with_reducible refine ite_neg ?zi ?_; (case zi => decide +kernel)))
  k_with "getAttr ref" => (k_here; k_dflt (refine' get_own ?zF ?zX ?zI ?zg ?zh ?za ?zn ?zl ?zv ?_; (case zF => k_asm); (case zX => k_asm); (case zI => k_inst); (case zl => k_get); (case zg => k_is); (case zh => k_is); (case za => k_is); (case zn => k_is); (case zv => k_handed); k_whole))
  k_with "spliced" => ((with_reducible show wpAny _ _ (spliced (backTo _ (starEach (_ :: _) _))) _ _ _); k_dflt (refine args_cons ?_))
  k_with "newList" => (k_here; k_dflt (refine' newList_K ?zF ?zN ?_ ?zs; (case zF => k_asm); (case zN => k_asm); (case zs => exact Nat.le_of_ble_eq_true rfl); k_whole); k_extra "M46a0")
  k_with "MY ltp" => ((with_reducible rename @LT.lt Nat _ _ _ ∧ _ => kL); first | (with_reducible first | exact kL.1 | exact kL.2 | exact kL.2.1 | exact kL.2.2 | exact kL.2.2.1 | exact kL.2.2.2 | exact kL.2.2.2.1 | exact kL.2.2.2.2 | exact kL.2.2.2.2.1 | exact kL.2.2.2.2.2 | exact kL.2.2.2.2.2.1 | exact kL.2.2.2.2.2.2 | exact kL.2.2.2.2.2.2.1 | exact kL.2.2.2.2.2.2.2 | exact kL.2.2.2.2.2.2.2.1 | exact kL.2.2.2.2.2.2.2.2 | exact kL.2.2.2.2.2.2.2.2.1 | exact kL.2.2.2.2.2.2.2.2.2 | exact kL.2.2.2.2.2.2.2.2.2.1 | exact kL.2.2.2.2.2.2.2.2.2.2 | exact kL.2.2.2.2.2.2.2.2.2.2.1 | exact kL.2.2.2.2.2.2.2.2.2.2.2 | exact kL.2.2.2.2.2.2.2.2.2.2.2.1 | exact kL.2.2.2.2.2.2.2.2.2.2.2.2 | exact kL.2.2.2.2.2.2.2.2.2.2.2.2.1 | exact kL.2.2.2.2.2.2.2.2.2.2.2.2.2 | exact kL.2.2.2.2.2.2.2.2.2.2.2.2.2.1 | exact kL.2.2.2.2.2.2.2.2.2.2.2.2.2.2 | exact kL.2.2.2.2.2.2.2.2.2.2.2.2.2.2.1 | exact kL.2.2.2.2.2.2.2.2.2.2.2.2.2.2.2 | exact kL.2.2.2.2.2.2.2.2.2.2.2.2.2.2.2.1 | exact kL.2.2.2.2.2.2.2.2.2.2.2.2.2.2.2.2 | exact kL.2.2.2.2.2.2.2.2.2.2.2.2.2.2.2.2.1 | exact kL.2.2.2.2.2.2.2.2.2.2.2.2.2.2.2.2.2 | exact kL.2.2.2.2.2.2.2.2.2.2.2.2.2.2.2.2.2.1 | exact kL.2.2.2.2.2.2.2.2.2.2.2.2.2.2.2.2.2.2 | exact kL.2.2.2.2.2.2.2.2.2.2.2.2.2.2.2.2.2.2.1 | exact kL.2.2.2.2.2.2.2.2.2.2.2.2.2.2.2.2.2.2.2 | exact kL.2.2.2.2.2.2.2.2.2.2.2.2.2.2.2.2.2.2.2.1 | exact kL.2.2.2.2.2.2.2.2.2.2.2.2.2.2.2.2.2.2.2.2 | exact kL.2.2.2.2.2.2.2.2.2.2.2.2.2.2.2.2.2.2.2.2.1 | exact kL.2.2.2.2.2.2.2.2.2.2.2.2.2.2.2.2.2.2.2.2.2 | exact kL.2.2.2.2.2.2.2.2.2.2.2.2.2.2.2.2.2.2.2.2.2.1 | exact kL.2.2.2.2.2.2.2.2.2.2.2.2.2.2.2.2.2.2.2.2.2.2 | exact kL.2.2.2.2.2.2.2.2.2.2.2.2.2.2.2.2.2.2.2.2.2.2.1 | exact kL.2.2.2.2.2.2.2.2.2.2.2.2.2.2.2.2.2.2.2.2.2.2.2) | (clear kL; k_extra "MY ltp"))
  k_with "MY ne" => first | (refine Nat.ne_of_gt ?_; k_extra "MY ltp") | (refine Nat.ne_of_lt ?_; k_extra "MY ltp")
  k_with "newTuple" => (k_here; k_dflt (refine' kup_newTuple ?zF ?zN ?_ ?zs; (case zF => k_asm); (case zN => k_asm); (case zs => kmk_size)); k_extra "M46a0")
  k_with "MY ltq" => first | with_reducible assumption | k_extra "MY ltp" | ((with_reducible refine' Nat.lt_trans ?_ ?klb); (case klb => with_reducible assumption); k_extra "MY ltq") | ((with_reducible refine' Nat.lt_trans ?kla ?_); (case kla => with_reducible assumption); k_extra "MY ltp") | ((with_reducible refine' Nat.lt_succ_of_lt ?_); first | with_reducible assumption | k_extra "MY ltp" | ((with_reducible refine' Nat.lt_succ_of_lt ?_); first | with_reducible assumption | k_extra "MY ltp")) | ((with_reducible refine' Mine.mem_allLt ?_ _ ?klm); (case klm => with_reducible assumption); first | with_reducible assumption | k_extra "MY ltp")
  k_with "MY lo" => first | ((with_reducible show @LT.lt Nat _ _ _); (try dsimp only); k_extra "MY ltq") | ((with_reducible show @Ne Nat _ _); (try dsimp only); first | with_reducible assumption | (refine Ne.symm ?_; with_reducible assumption) | (refine Nat.ne_of_gt ?_; k_extra "MY ltq") | (refine Nat.ne_of_lt ?_; k_extra "MY ltq")) | decide
  k_with "H mem" => first | exact List.Mem.head _ | (refine' List.Mem.tail _ ?_; k_extra "H mem") | ((fail_if_success refine' List.Mem.tail _ ?_); change (_ : Addr × Obj) ∈ (_ : List (Addr × Obj)); first | with_reducible assumption | (with_reducible refine' List.mem_append_left _ ?_; k_extra "H mem") | (with_reducible refine' List.mem_append_right _ ?_; k_extra "H mem"))
  k_with "H room" => ((try simp only [depth_under_make, depth_under_kw, depth_in1, depth_deeper, depth_caller]); (try dsimp only [ktrTop]); first | decide | ((try simp only [Nat.add_assoc, Nat.reduceAdd]); (with_reducible rename _ + _ < recursionLimit => kH); first | exact Mine.room_of kH rfl | exact Mine.room_at kH) | omega)
  k_with "H units" => ((try simp only [units_in1, units_deeper, Around.mark_units, units_caller]); (try dsimp only [ktrTop]); first | decide | ((try simp only [Nat.add_assoc, Nat.reduceAdd]); (with_reducible rename _ + _ < cLine => kH); first | exact Mine.room_of kH rfl | exact Mine.room_at kH) | omega)
  k_with "H ne" => (refine neN ?_; (try dsimp only); first | with_reducible assumption | (refine Ne.symm ?_; with_reducible assumption) | (with_reducible first | exact Nat.ne_of_lt (by assumption) | exact Nat.ne_of_gt (by assumption)) | k_extra "MY ne" | ((with_reducible rename (_ ≠ _ ∧ _ ≠ _ ∧ _ ≠ _) ∧ _ => kOff); first | (simp only [kOff, ne_eq, not_false_eq_true]; done) | (refine Ne.symm ?_; simp only [kOff, ne_eq, not_false_eq_true]; done)) | k_extra "MY lo" | omega)
  trivial
section
variable {w : World} {f : Addr} {tag : Str} {nw news : List (Addr × Obj)} {p : Program} {loose : List Str} {mean : ExcName → Option Value} {mg mb : Str → Option Value} {dp un : Nat} {gd : Option (List Code)} {cn : Str} {cs : Scope} {a : Addr} {ccd : Value} {cl : List (Str × Addr)} {outer : List Env} {A₀ : Around} {base h₀ : Heap} {L : Addr} {m : Str → Option Value} {s : Shared}
theorem ro_call {data : Value} {Q E : Value → Shared → Prop} (h : ReaderOk w f tag nw) (hs : ∀ q ∈ nw, q ∈ news) (B : Below A₀ base outer h₀) (F : Fr h₀ L s.heap m) (X : (hd.heap_39 w.params).In h₀) (N : News h₀ L s.heap news) (T : Top p loose mean mg mb h₀) (hk : cs.kind = .function) (hd : dp + 4 < recursionLimit) (hu : un + 32 < cLine)
    (hret : ∀ t tt h' tk', Fr h₀ L h' m → News h₀ L h' ((t, tup [.str tag tt, data]) :: news) → (∀ p ∈ news, p.1 < t) → Q (.ref t) { s with heap := h', toks := tk' }) :
    wpAny (model PySem.Challenge.rw_nu0220_01.row.prog w) (ktrTop dp un gd cn cs L a ccd cl outer) (call (.ref f) [data]) Q E s :=
  h.2 data dp un gd cn cs a ccd cl outer A₀ base h₀ L m s Q E news hs B F X N T hk hd hu hret
theorem ro_fn {hh : Heap} (h : ReaderOk w f tag nw) (hs : ∀ q ∈ nw, q ∈ news) (N : News h₀ L hh news) : PySem.W.FnAt f hh := by
  obtain ⟨⟨oc, od, dt, sl⟩, fd, hm, hd, _⟩ := h.1
  simp only at hd; subst hd
  exact .of N (hs _ hm)
def PartIs (tag : Str) (kvs : List (Str × Value)) (oth v : Value) (t : Addr) (ot : Obj) : Prop := (∃ d tt, valueAt kvs tag = some d ∧ v = .ref t ∧ ot = tup [.str tag tt, d]) ∨ (valueAt kvs tag = none ∧ v = oth)
end
example : True := by
  k_with "MY fn" => (refine wpAny_call ?_; k_dflt cell_enter)
  k_with "MY cls" => (k_dflt (refine' call_cls ?zq1 ?zq2 ?zq3 ?zq4 ?zq5 ?zq6 ?_; (case zq1 => k_asm); (case zq2 => k_asm); (case zq3 => k_asm); (case zq4 => k_is); (case zq5 => k_is); (case zq6 => k_is); k_extra "M6a5f"))
  k_with "MY sub" => repeat' (first | exact List.forall_mem_nil _ | exact Mine.sub_refl | (refine Mine.sub_cons (by k_mem) ?_) | refine Mine.sub_tail ?_)
  k_with "callWith ref" => (k_here; k_dflt (first | refine' callWith_K ?zq1 ?zq2 ?_; (case zq1 => k_asm); (case zq2 => k_is); k_whole | (refine' callWith_K0 (Frag.In.keeps ?zq1 (Fr.keep ?zqF)) ?zq2 ?_; (case zqF => k_asm); (case zq1 => k_asm); (case zq2 => k_is); k_whole) | refine' callWith_K0 ?zq1 ?zq2 ?_; (case zq1 => k_in); (case zq2 => k_is); k_whole))
  k_with "MY tl" => repeat' (with_reducible first | exact Mine.sub_refl | refine Mine.sub_tail ?_)
  k_with "And" => ((with_reducible show PySem.W.FnAt _ _ ∧ _); k_dflt (refine' ⟨ro_fn ?zqr ?zqs ?zqN, ?_⟩; (case zqr => with_reducible assumption); (case zqN => k_asm); (case zqs => first | (with_reducible exact Mine.sub_refl) | k_extra "MY tl")); try dsimp only [List.nil_append, List.cons_append])
  k_with "callWith ref" => (k_here; k_dflt (first | (refine' callWith_K ?zq1 ?zq2 ?_; (case zq1 => k_asm); (case zq2 => k_is); k_whole) | (refine' callWith_K0 (Frag.In.keeps ?zq1 (Fr.keep ?zqF)) ?zq2 ?_; (case zqF => k_asm); (case zq1 => k_asm); (case zq2 => k_is); k_whole) | (refine' callWith_K0 ?zq1 ?zq2 ?_; (case zq1 => k_in); (case zq2 => k_is); k_whole) | (refine' callWith_F ?zq1 ?_; (case zq1 => refine' Mine.ro_fn ?zqr ?zqs ?zqN; (case zqr => with_reducible assumption); (case zqN => k_asm); (case zqs => first | (with_reducible exact Mine.sub_refl) | k_extra "MY tl")); k_whole)))
  k_with "call ref" => (k_here; k_dflt (refine' Mine.ro_call (by with_reducible assumption) ?zqs ?zqB ?zqF ?zqX ?zqN ?zqT ?zqk ?zqd ?zqu ?_; (case zqB => k_asm); (case zqF => k_asm); (case zqX => k_asm); (case zqN => k_asm); (case zqT => k_asm); (case zqs => first | (with_reducible exact Mine.sub_refl) | k_extra "MY tl"); (case zqk => first | exact rfl | assumption); (case zqd => ktr_room); (case zqu => ktr_units)); k_extra "Me7b0")
  k_with "compareOp In str ref" => (k_here; k_dflt (refine kda_in (knd := PySem.strKind _ _) (by k_asm) (by first | assumption | k_mem) (by k_asm) (by k_asm) (strKind_is _ _ _ _) _ (congrArg Option.isSome (by assumption)) ?_); (try dsimp only [Option.isSome]))
  k_with "subscriptTail" => (k_here; k_dflt (refine kda_item (knd := PySem.strKind _ _) (by k_asm) (by first | assumption | k_mem) (by k_asm) (strKind_is _ _ _ _) (by assumption) ?_))
  k_with "subscriptTail Name" => (k_here; k_dflt (refine kda_item (knd := PySem.strKind _ _) (by k_asm) (by first | assumption | k_mem) (by k_asm) (strKind_is _ _ _ _) (by assumption) ?_))
  trivial
local macro_rules | `(tactic| k_extra "Me7b0") => `(tactic| (intro x0 x1 x2 x3 x4 x5 x6; (try k_lt x6)))
theorem ro {w : World} {p : Program} {loose : List Str} {mean : ExcName → Option Value} {mg mb : Str → Option Value} {ta rd : Addr} {o ro : Obj} {tag : Str} {tq : Tok} {oth : Value} {kvs rvs : List (Str × Value)} {rest : List (Addr × Obj)}
  (hdi : o.IsDictOf (sK w) kvs) (lo : (ta == sysModules) = false) (hdr : ro.IsDictOf (sK w) rvs) (lor : (rd == sysModules) = false) (hrd : ReadersIn w rvs rest) (htag : tag ∈ tagsL) (hma : (ta, o) ∈ rest) (hmr : (rd, ro) ∈ rest)
  : ∀ (dp un : Nat) (gd : Option (List Code)) (cn : Str) (cs : Scope) (a : Addr) (ccd : Value) (cl : List (Str × Addr)) (outer : List Env) (A₀ : Around) (base h₀ : Heap) (L : Addr) (m : Str → Option Value) (s : Shared) (Q E : Value → Shared → Prop)
  (_B : Below A₀ base outer h₀) (_F : Fr h₀ L s.heap m) (_X : (hd.heap_39 w.params).In h₀) (_N : News h₀ L s.heap (rest)) (_T : Top p loose mean mg mb h₀) (_hk : cs.kind = .function)
  (_hd : dp + 8 < recursionLimit) (_hu : un + 64 < cLine)
  (_hret : ∀ v t ot h' tk', Fr h₀ L h' m → News h₀ L h' ((t, ot) :: rest) → PartIs tag kvs oth v t ot → Q v { s with heap := h', toks := tk' }) ,
  wpAny (model PySem.Challenge.rw_nu0220_01.row.prog w) (ktrTop dp un gd cn cs L a ccd cl outer) (call (.ref 297) [.ref ta, .str tag tq, .ref rd, oth]) Q E s := by
  k_fill
  intro dp un gd cn cs a ccd cl outer A₀ base h₀ L m s Q E B F X N T hk hd hu hret
  obtain ⟨f, hf, hok⟩ := hrd tag htag
  rcases hv : valueAt kvs tag with _ | dv
  · refine wpAny_call ?_
    k_dflt cell_enter
    k_steps
    rename_i kF kN
    exact hret _ ta o _ _ (by k_asm) (news_sub (by k_asm) (sub_cons hma sub_refl)) (.inr ⟨hv, rfl⟩)
  · refine wpAny_call ?_
    k_dflt cell_enter
    k_steps
    refine hret _ _ _ _ _ (by k_asm) (by k_asm) (.inl ⟨dv, _, hv, rfl, rfl⟩)
section
variable {w : World} {news tl₀ : List (Addr × Obj)} {p : Program} {loose : List Str} {mean : ExcName → Option Value} {mg mb : Str → Option Value} {dp un : Nat} {gd : Option (List Code)} {cn : Str} {cs : Scope} {a : Addr} {ccd : Value} {cl : List (Str × Addr)} {outer : List Env} {A₀ : Around} {base h₀ : Heap} {L : Addr} {m : Str → Option Value} {s : Shared} {ps : Array Value} {g : Obj → List (Addr × Obj)}
theorem rd_call {Q E : Value → Shared → Prop} (B : Below A₀ base outer h₀) (F : Fr h₀ L s.heap m) (X : (hd.heap_39 w.params).In h₀) (N : News h₀ L s.heap news) (T : Top p loose mean mg mb h₀) (hk : cs.kind = .function) (hd : dp + 6 < recursionLimit) (hu : un + 64 < cLine)
    (hc : CodeHd base 362 360) (U : UpdF 360 (tabObj ps) news g) (htab : ps = #[] ∨ TabSt qualL ps tl₀) (hs : ∀ q ∈ tl₀, q ∈ news) (ho : ∀ q ∈ tl₀, q.1 ≠ 360)
    (hret : ∀ d o rvs ps' tl h' tk', Fr h₀ L h' m → News h₀ L h' ((d, o) :: (g (tabObj ps') ++ tl)) → (∀ q ∈ g (tabObj ps'), q.1 < d) → (∀ q ∈ news, q.1 ≠ 360 → q ∈ tl) → OwnOff tl [360] → TabSt qualL ps' tl → o.IsDictOf (sK w) rvs → ReadersIn w rvs tl → (d == sysModules) = false → (∀ p ∈ tl, p.1 < d) → Q (.ref d) { s with heap := h', toks := tk' }) :
    wpAny (model PySem.Challenge.rw_nu0220_01.row.prog w) (ktrTop dp un gd cn cs L a ccd cl outer) (call (.ref 363) []) Q E s := by
  obtain ⟨pre, post, rfl, hg, h1, h2⟩ := U.split
  have hoff : OwnOff (pre ++ post) [360] := fun q hq b hb => by
    rw [List.mem_singleton.mp hb]
    exact (List.mem_append.mp hq).elim (h1 q) (h2 q)
  have hsub : ∀ q ∈ tl₀, q ∈ pre ++ post := fun q hq => by
    rcases List.mem_append.mp (hs q hq) with h | h
    · exact List.mem_append_left _ h
    · rcases List.mem_cons.mp h with rfl | h
      · exact absurd rfl (ho _ hq)
      · exact List.mem_append_right _ h
  refine rd0 (ps := ps) (rest := pre ++ post) hoff (htab.imp id (·.mono hsub)) dp un gd cn cs a ccd cl outer A₀ base h₀ L m s Q E B F X (news_sub N fun q hq => ?_) T hk hd hu ?_ hc
  · rcases List.mem_cons.mp hq with rfl | hq
    · exact List.mem_append_right _ (.head _)
    · exact (List.mem_append.mp hq).elim (fun h => List.mem_append_left _ h) fun h => List.mem_append_right _ (.tail _ h)
  · intro d o rvs ps' tl h' tk' F' N' sub off tab hdo hrd lo hlt h360
    have hgl : ∀ q ∈ g (tabObj ps'), q = (360, tabObj ps') ∨ q ∈ tl := fun q hq => by
      rw [hg] at hq
      rcases List.mem_append.mp hq with h | h
      · exact .inr (sub q (List.mem_append_left _ h))
      · rcases List.mem_cons.mp h with rfl | h
        · exact .inl rfl
        · exact .inr (sub q (List.mem_append_right _ h))
    refine hret d o rvs ps' tl h' tk' F' (fun q hq => ?_) (fun q hq => ?_) (fun q hq hne => ?_) off tab hdo hrd lo hlt
    · rcases List.mem_cons.mp hq with rfl | hq
      · exact N' _ (.head _)
      · rcases List.mem_append.mp hq with hq | hq
        · rcases hgl q hq with rfl | h
          · exact N' _ (.tail _ (.head _))
          · exact N' _ (.tail _ (.tail _ h))
        · exact N' _ (.tail _ (.tail _ hq))
    · rcases hgl q hq with rfl | h
      · exact h360
      · exact hlt q h
    · rcases List.mem_append.mp hq with h | h
      · exact sub q (List.mem_append_left _ h)
      · rcases List.mem_cons.mp h with rfl | h
        · exact absurd rfl hne
        · exact sub q (List.mem_append_right _ h)
end
section
open PySem.Calls
section
section
variable {M : Model} {A : Around} {E : Value → Shared → Prop} {s : Shared} {h₀ : Heap} {L : Addr} {m : Str → Option Value} {news : List (Addr × Obj)} {tag : Str} {kvs : List (Str × Value)} {Q : Value → Shared → Prop}
def PartPost (h₀ : Heap) (L : Addr) (m : Str → Option Value) (news : List (Addr × Obj)) (tag : Str) (kvs : List (Str × Value)) (s : Shared) (v : Value) (s' : Shared) : Prop :=
  ∃ t ot h' tk', s' = { s with heap := h', toks := tk' } ∧ Fr h₀ L h' m ∧ News h₀ L h' ((t, ot) :: news) ∧ PartIs tag kvs .none v t ot
theorem PartPost.hit {t : Addr} {tt : Tok} {d : Value} {h' : Heap} {tk' : Nat} {all : List (Addr × Obj)} (F : Fr h₀ L h' m) (N : News h₀ L h' all) (hm : (t, tup [.str tag tt, d]) ∈ all) (hs : ∀ p ∈ news, p ∈ all) (hv : valueAt kvs tag = some d) :
    PartPost h₀ L m news tag kvs s (.ref t) { s with heap := h', toks := tk' } :=
  ⟨t, _, h', tk', rfl, F, news_sub N (sub_cons hm hs), .inl ⟨d, tt, hv, rfl, rfl⟩⟩
theorem PartPost.miss {t : Addr} {ot : Obj} {h' : Heap} {tk' : Nat} {all : List (Addr × Obj)} (F : Fr h₀ L h' m) (N : News h₀ L h' all) (hm : (t, ot) ∈ all) (hs : ∀ p ∈ news, p ∈ all) (hv : valueAt kvs tag = none) :
    PartPost h₀ L m news tag kvs s .none { s with heap := h', toks := tk' } :=
  ⟨t, ot, h', tk', rfl, F, news_sub N (sub_cons hm hs), .inr ⟨hv, rfl⟩⟩
theorem part_merge {x : Sem Value} (tag : Str) (kvs : List (Str × Value)) (_F : Fr h₀ L s.heap m) (_N : News h₀ L s.heap news) (h1 : valueAt kvs tag = none → wpAny M A x (PartPost h₀ L m news tag kvs s) E s) (h1' : ∀ d, valueAt kvs tag = some d → wpAny M A x (PartPost h₀ L m news tag kvs s) E s)
    (h2 : ∀ v t ot h' tk', Fr h₀ L h' m → News h₀ L h' ((t, ot) :: news) → PartIs tag kvs .none v t ot → Q v { s with heap := h', toks := tk' }) : wpAny M A x Q E s := by
  refine wpAny_mono (Q := PartPost h₀ L m news tag kvs s) ?_ (fun v s' ⟨t, ot, h', tk', e, F', N', hp⟩ => by subst e; exact h2 v t ot h' tk' F' N' hp) fun _ _ x => x
  rcases e : valueAt kvs tag with _ | d
  · exact h1 e
  · exact h1' d e
theorem part_eq {t t' : Addr} {ot ot' : Obj} {v v' : Value} (N : News h₀ L s.heap news) (p : PartIs tag kvs .none v t ot) (q : PartIs tag kvs .none v' t' ot') (hm : (t, ot) ∈ news) (hm' : (t', ot') ∈ news) (hu : A.units < cLine) : SeqAt.EqAt A s v v' true := by
  rcases p with ⟨d, tt, e, rfl, rfl⟩ | ⟨e, rfl⟩
  · rcases q with ⟨d', tt', e', rfl, rfl⟩ | ⟨e', _⟩
    · rw [e] at e'; cases e'
      by_cases h : t = t'
      · subst h; exact SeqAt.EqAt.same _
      · exact SeqAt.EqAt.of_refs h (eqAt_tup N hm hm' hu rfl pair_items)
    · rw [e] at e'; cases e'
  · rcases q with ⟨d', tt', e', _⟩ | ⟨_, rfl⟩
    · rw [e] at e'; cases e'
    · exact SeqAt.EqAt.same _
end
section
variable {prog : Program} {w : World} {A : Around} {E : Value → Shared → Prop} {s : Shared} {h₀ : Heap} {L l l' : Addr} {m : Str → Option Value} {news : List (Addr × Obj)} {Q : Value → Shared → Prop}
theorem eq_list2 {a b a' b' : Value} {n n' : Nat} (N : News h₀ L s.heap news) (hl : (l, ({ cls := .type "list", data := .seq #[a, b] n } : Obj)) ∈ news) (hl' : (l', ({ cls := .type "list", data := .seq #[a', b'] n' } : Obj)) ∈ news) (hu : A.units < cLine)
    (h1 : SeqAt.EqAt A.in1 s a a' true) (h2 : SeqAt.EqAt A.in1 s b b' true) (h : Q (.bool true) s) : wpAny (model prog w) A (compareOp .Eq (.ref l) (.ref l')) Q E s := by
  refine SeqAt.eq_listAt (items := #[a, b]) (items2 := #[a', b']) (e := fun _ => true) ⟨_, (N _ hl).1, rfl, _, rfl⟩ ⟨_, (N _ hl').1, rfl, _, rfl⟩ rfl hu (fun j j1 j2 => ?_) ?_
  · match j, j1, j2 with
    | 0, _, _ => exact h1
    | 1, _, _ => exact h2
    | _ + 2, h, _ => exact absurd h (by simp)
  · rw [List.all_eq_true.mpr (fun _ _ => rfl)]; exact h
theorem eq_tup {xs ys : Array Value} {n n' : Nat} (N : News h₀ L s.heap news) (pa : (l, ({ cls := .type "tuple", data := .seq xs n } : Obj)) ∈ news) (pb : (l', ({ cls := .type "tuple", data := .seq ys n' } : Obj)) ∈ news) (hu : A.units < cLine) (hz : xs.size = ys.size)
    (he : ∀ j (h1 : j < xs.size) (h2 : j < ys.size), SeqAt.EqAt A.in1 s xs[j] ys[j] true) (h : Q (.bool true) s) : wpAny (model prog w) A (compareOp .Eq (.ref l) (.ref l')) Q E s :=
  eqAt_tup N pa pb hu hz he prog w E Q h
end
end
end
example : True ∧ True := by w_top off; first | (walk1; done) | exact ⟨trivial, trivial⟩
example : True := by
  k_with_none
  k_with "eval Name" => (k_here; (with_reducible show wpAny _ _ (eval (Expr.Name _ _) (compEnvC _ _ _ _)) _ _ _); k_dflt (first | (name_kind "local"; refine' LCgL.ld_own ?zN ?zm ?zC ?zx ?_ ?zk ?zl ?zd; (case zk => kernel_rfl); (case zl => kernel_rfl); (case zd => kernel_rfl); (case zN => k_asm); (case zm => k_mem); (case zC => assumption); (case zx => assumption); k_whole) | (name_kind "globalImplicit"; first | (refine' LCgL.ld_global ?zF ?zX ?zT ?ze ?_ ?zg ?zk ?zl ?zd; (case zg => kernel_rfl); (case zk => kernel_rfl); (case zl => kernel_rfl); (case zd => kernel_rfl); (case zF => k_asm); (case zX => k_asm); (case zT => k_asm); (case ze => k_is); k_whole) | (refine' LCgL.ld_built ?zF ?zX ?zT ?ze ?zv ?zn ?_ ?zg ?zb ?zk ?zl ?zd; (case zg => kernel_rfl); (case zb => kernel_rfl); (case zk => kernel_rfl); (case zl => kernel_rfl); (case zd => kernel_rfl); (case zF => k_asm); (case zX => k_asm); (case zT => k_asm); (case ze => k_is); (case zv => boot_fast); (case zn => decide); k_whole))))
  k_with "eval Name" => (k_here; (fail_if_success (with_reducible show wpAny _ _ (eval (Expr.Name _ _) (compEnvC _ _ _ _)) _ _ _)); k_dflt (first | (name_kind "local"; refine' nameX_L ?zF ?zv ?_ ?za ?zb ?zc; (case zF => k_asm); (case za => kernel_rfl); (case zb => kernel_rfl); (case zc => kernel_rfl); (case zv => rfl); k_whole) | (name_kind "cell"; refine' nameX_C ?zN ?zl ?zm ?zd ?_ ?za ?zb ?zc; (case za => kernel_rfl); (case zb => kernel_rfl); (case zc => kernel_rfl); (case zN => k_asm); (case zl => rfl); (case zm => k_mem); (case zd => k_asm); k_whole) | (name_kind "globalImplicit"; first | (refine' nameX_K ?zF ?zX ?zT ?ze ?_ ?za ?zb ?zc; (case za => kernel_rfl); (case zb => kernel_rfl); (case zc => kernel_rfl); (case zF => k_asm); (case zX => k_asm); (case zT => k_asm); (case ze => k_is); k_whole) | (refine' nameX_B ?zF ?zX ?zT ?ze ?zv ?zn ?_ ?za ?zb ?zc; (case za => kernel_rfl); (case zb => kernel_rfl); (case zc => kernel_rfl); (case zF => k_asm); (case zX => k_asm); (case zT => k_asm); (case ze => k_is); (case zv => boot_fast); (case zn => decide); k_whole))))
  k_with "ite" => (k_closed; first | (with_reducible refine ite_pos ?zi ?_; (case zi => decide +kernel)) | (with_reducible refine ite_neg ?zi ?_; (case zi => decide +kernel)))
  k_with "getAttr ref" => (k_here; k_dflt (refine' get_own ?zF ?zX ?zI ?zg ?zh ?za ?zn ?zl ?zv ?_; (case zF => k_asm); (case zX => k_asm); (case zI => k_inst); (case zl => k_get); (case zg => k_is); (case zh => k_is); (case za => k_is); (case zn => k_is); (case zv => k_handed); k_whole))
  k_with "spliced" => ((with_reducible show wpAny _ _ (spliced (backTo _ (starEach (_ :: _) _))) _ _ _); k_dflt (refine args_cons ?_))
  k_with "newList" => (k_here; k_dflt (refine' newList_K ?zF ?zN ?_ ?zs; (case zF => k_asm); (case zN => k_asm); (case zs => exact Nat.le_of_ble_eq_true rfl); k_whole); k_extra "M46a0")
  k_with "MY ltp" => ((with_reducible rename @LT.lt Nat _ _ _ ∧ _ => kL); first | (with_reducible first | exact kL.1 | exact kL.2 | exact kL.2.1 | exact kL.2.2 | exact kL.2.2.1 | exact kL.2.2.2 | exact kL.2.2.2.1 | exact kL.2.2.2.2 | exact kL.2.2.2.2.1 | exact kL.2.2.2.2.2 | exact kL.2.2.2.2.2.1 | exact kL.2.2.2.2.2.2 | exact kL.2.2.2.2.2.2.1 | exact kL.2.2.2.2.2.2.2 | exact kL.2.2.2.2.2.2.2.1 | exact kL.2.2.2.2.2.2.2.2 | exact kL.2.2.2.2.2.2.2.2.1 | exact kL.2.2.2.2.2.2.2.2.2 | exact kL.2.2.2.2.2.2.2.2.2.1 | exact kL.2.2.2.2.2.2.2.2.2.2 | exact kL.2.2.2.2.2.2.2.2.2.2.1 | exact kL.2.2.2.2.2.2.2.2.2.2.2 | exact kL.2.2.2.2.2.2.2.2.2.2.2.1 | exact kL.2.2.2.2.2.2.2.2.2.2.2.2 | exact kL.2.2.2.2.2.2.2.2.2.2.2.2.1 | exact kL.2.2.2.2.2.2.2.2.2.2.2.2.2 | exact kL.2.2.2.2.2.2.2.2.2.2.2.2.2.1 | exact kL.2.2.2.2.2.2.2.2.2.2.2.2.2.2 | exact kL.2.2.2.2.2.2.2.2.2.2.2.2.2.2.1 | exact kL.2.2.2.2.2.2.2.2.2.2.2.2.2.2.2 | exact kL.2.2.2.2.2.2.2.2.2.2.2.2.2.2.2.1 | exact kL.2.2.2.2.2.2.2.2.2.2.2.2.2.2.2.2 | exact kL.2.2.2.2.2.2.2.2.2.2.2.2.2.2.2.2.1 | exact kL.2.2.2.2.2.2.2.2.2.2.2.2.2.2.2.2.2 | exact kL.2.2.2.2.2.2.2.2.2.2.2.2.2.2.2.2.2.1 | exact kL.2.2.2.2.2.2.2.2.2.2.2.2.2.2.2.2.2.2 | exact kL.2.2.2.2.2.2.2.2.2.2.2.2.2.2.2.2.2.2.1 | exact kL.2.2.2.2.2.2.2.2.2.2.2.2.2.2.2.2.2.2.2 | exact kL.2.2.2.2.2.2.2.2.2.2.2.2.2.2.2.2.2.2.2.1 | exact kL.2.2.2.2.2.2.2.2.2.2.2.2.2.2.2.2.2.2.2.2 | exact kL.2.2.2.2.2.2.2.2.2.2.2.2.2.2.2.2.2.2.2.2.1 | exact kL.2.2.2.2.2.2.2.2.2.2.2.2.2.2.2.2.2.2.2.2.2 | exact kL.2.2.2.2.2.2.2.2.2.2.2.2.2.2.2.2.2.2.2.2.2.1 | exact kL.2.2.2.2.2.2.2.2.2.2.2.2.2.2.2.2.2.2.2.2.2.2 | exact kL.2.2.2.2.2.2.2.2.2.2.2.2.2.2.2.2.2.2.2.2.2.2.1 | exact kL.2.2.2.2.2.2.2.2.2.2.2.2.2.2.2.2.2.2.2.2.2.2.2) | (clear kL; k_extra "MY ltp"))
  k_with "MY ne" => first | (refine Nat.ne_of_gt ?_; k_extra "MY ltp") | (refine Nat.ne_of_lt ?_; k_extra "MY ltp")
  k_with "newTuple" => (k_here; k_dflt (refine' kup_newTuple ?zF ?zN ?_ ?zs; (case zF => k_asm); (case zN => k_asm); (case zs => kmk_size)); k_extra "M46a0")
  k_with "MY ltq" => first | with_reducible assumption | k_extra "MY ltp" | ((with_reducible refine' Nat.lt_trans ?_ ?klb); (case klb => with_reducible assumption); k_extra "MY ltq") | ((with_reducible refine' Nat.lt_trans ?kla ?_); (case kla => with_reducible assumption); k_extra "MY ltp") | ((with_reducible refine' Nat.lt_succ_of_lt ?_); first | with_reducible assumption | k_extra "MY ltp" | ((with_reducible refine' Nat.lt_succ_of_lt ?_); first | with_reducible assumption | k_extra "MY ltp")) | ((with_reducible refine' Mine.mem_allLt ?_ _ ?klm); (case klm => with_reducible assumption); first | with_reducible assumption | k_extra "MY ltp")
  k_with "MY lo" => first | ((with_reducible show @LT.lt Nat _ _ _); (try dsimp only); k_extra "MY ltq") | ((with_reducible show @Ne Nat _ _); (try dsimp only); first | with_reducible assumption | (refine Ne.symm ?_; with_reducible assumption) | (refine Nat.ne_of_gt ?_; k_extra "MY ltq") | (refine Nat.ne_of_lt ?_; k_extra "MY ltq")) | decide
  k_with "H mem" => first | exact List.Mem.head _ | (refine' List.Mem.tail _ ?_; k_extra "H mem") | ((fail_if_success refine' List.Mem.tail _ ?_); change (_ : Addr × Obj) ∈ (_ : List (Addr × Obj)); first | with_reducible assumption | (with_reducible refine' List.mem_append_left _ ?_; k_extra "H mem") | (with_reducible refine' List.mem_append_right _ ?_; k_extra "H mem"))
  k_with "H room" => ((try simp only [depth_under_make, depth_under_kw, depth_in1, depth_deeper, depth_caller]); (try dsimp only [ktrTop]); first | decide | ((try simp only [Nat.add_assoc, Nat.reduceAdd]); (with_reducible rename _ + _ < recursionLimit => kH); first | exact Mine.room_of kH rfl | exact Mine.room_at kH) | omega)
  k_with "H units" => ((try simp only [units_in1, units_deeper, Around.mark_units, units_caller]); (try dsimp only [ktrTop]); first | decide | ((try simp only [Nat.add_assoc, Nat.reduceAdd]); (with_reducible rename _ + _ < cLine => kH); first | exact Mine.room_of kH rfl | exact Mine.room_at kH) | omega)
  k_with "H ne" => (refine neN ?_; (try dsimp only); first | with_reducible assumption | (refine Ne.symm ?_; with_reducible assumption) | (with_reducible first | exact Nat.ne_of_lt (by assumption) | exact Nat.ne_of_gt (by assumption)) | k_extra "MY ne" | ((with_reducible rename (_ ≠ _ ∧ _ ≠ _ ∧ _ ≠ _) ∧ _ => kOff); first | (simp only [kOff, ne_eq, not_false_eq_true]; done) | (refine Ne.symm ?_; simp only [kOff, ne_eq, not_false_eq_true]; done)) | k_extra "MY lo" | omega)
  trivial
def EmptyD (w : World) (o : Obj) : Prop := o.IsDictOf (PySem.strKind PySem.Challenge.rw_nu0220_01.row.prog w) [] ∧ o.IsDictOf (PySem.intKind PySem.Challenge.rw_nu0220_01.row.prog w) []
def GdefIn (w : World) (c : List (Int × Int)) (g : Addr) (gw : List (Addr × Obj)) : Prop := ∃ (d c1 d1 e1 c2 d2 e2 l q1 q2 : Addr) (k1 k2 k3 k4 k5 j1 j2 : Tok) (kvs : List (Int × Value)) (o1 o2 o3 o4 : Obj) (n : Nat),
  ((g, instObj 203 d) ∈ gw ∧ (d, dictOf [{ hash := PyData.keyHash w.params (Str.ofString "classes"), key := .str (Str.ofString "classes") k1, val := .ref c1 }, { hash := PyData.keyHash w.params (Str.ofString "attach"), key := .str (Str.ofString "attach") k2, val := .ref c2 }, { hash := PyData.keyHash w.params (Str.ofString "sets"), key := .str (Str.ofString "sets") k3, val := .ref l }, { hash := PyData.keyHash w.params (Str.ofString "points"), key := .str (Str.ofString "points") k4, val := .ref q1 }, { hash := PyData.keyHash w.params (Str.ofString "carets"), key := .str (Str.ofString "carets") k5, val := .ref q2 }] 5) ∈ gw ∧ (c1, instObj 155 d1) ∈ gw ∧ (d1, dictOf [{ hash := PyData.keyHash w.params (Str.ofString "classes"), key := .str (Str.ofString "classes") j1, val := .ref e1 }] 1) ∈ gw ∧ (e1, o1) ∈ gw ∧ (c2, instObj 155 d2) ∈ gw ∧ (d2, dictOf [{ hash := PyData.keyHash w.params (Str.ofString "classes"), key := .str (Str.ofString "classes") j2, val := .ref e2 }] 1) ∈ gw ∧ (e2, o2) ∈ gw ∧ (l, listOf #[] n) ∈ gw ∧ (q1, o3) ∈ gw ∧ (q2, o4) ∈ gw) ∧
  (o1.IsDictOf (PySem.intKind PySem.Challenge.rw_nu0220_01.row.prog w) kvs ∧ FlatPairs PyData.int kvs (kdfD c) ∧ c.length ≤ 3 ∧ EmptyD w o2 ∧ EmptyD w o3 ∧ EmptyD w o4 ∧ (e1 == sysModules) = false ∧ (e2 == sysModules) = false ∧ (q1 == sysModules) = false ∧ (q2 == sysModules) = false)
theorem GdefIn.elim {w : World} {c : List (Int × Int)} {g : Addr} {gw : List (Addr × Obj)} {P : Prop} (h : GdefIn w c g gw) (k : ∀ (d c1 d1 e1 c2 d2 e2 l q1 q2 : Addr) (k1 k2 k3 k4 k5 j1 j2 : Tok) (kvs : List (Int × Value)) (o1 o2 o3 o4 : Obj) (n : Nat), (g, instObj 203 d) ∈ gw → (d, dictOf [{ hash := PyData.keyHash w.params (Str.ofString "classes"), key := .str (Str.ofString "classes") k1, val := .ref c1 }, { hash := PyData.keyHash w.params (Str.ofString "attach"), key := .str (Str.ofString "attach") k2, val := .ref c2 }, { hash := PyData.keyHash w.params (Str.ofString "sets"), key := .str (Str.ofString "sets") k3, val := .ref l }, { hash := PyData.keyHash w.params (Str.ofString "points"), key := .str (Str.ofString "points") k4, val := .ref q1 }, { hash := PyData.keyHash w.params (Str.ofString "carets"), key := .str (Str.ofString "carets") k5, val := .ref q2 }] 5) ∈ gw → (c1, instObj 155 d1) ∈ gw → (d1, dictOf [{ hash := PyData.keyHash w.params (Str.ofString "classes"), key := .str (Str.ofString "classes") j1, val := .ref e1 }] 1) ∈ gw → (e1, o1) ∈ gw → (c2, instObj 155 d2) ∈ gw → (d2, dictOf [{ hash := PyData.keyHash w.params (Str.ofString "classes"), key := .str (Str.ofString "classes") j2, val := .ref e2 }] 1) ∈ gw → (e2, o2) ∈ gw → (l, listOf #[] n) ∈ gw → (q1, o3) ∈ gw → (q2, o4) ∈ gw → o1.IsDictOf (PySem.intKind PySem.Challenge.rw_nu0220_01.row.prog w) kvs → FlatPairs PyData.int kvs (kdfD c) → c.length ≤ 3 → EmptyD w o2 → EmptyD w o3 → EmptyD w o4 → (e1 == sysModules) = false → (e2 == sysModules) = false → (q1 == sysModules) = false → (q2 == sysModules) = false → P) : P := by
  obtain ⟨d, c1, d1, e1, c2, d2, e2, l, q1, q2, k1, k2, k3, k4, k5, j1, j2, kvs, o1, o2, o3, o4, n, ⟨m1, m2, m3, m4, m5, m6, m7, m8, m9, m10, m11⟩, ⟨f1, f2, f3, f4, f5, f6, f7, f8, f9, f10⟩⟩ := h
  exact k _ _ _ _ _ _ _ _ _ _ _ _ _ _ _ _ _ _ _ _ _ _ _ m1 m2 m3 m4 m5 m6 m7 m8 m9 m10 m11 f1 f2 f3 f4 f5 f6 f7 f8 f9 f10
theorem GdefIn.intro {w : World} {c : List (Int × Int)} {g : Addr} {gw : List (Addr × Obj)} {d c1 d1 e1 c2 d2 e2 l q1 q2 : Addr} {k1 k2 k3 k4 k5 j1 j2 : Tok} {kvs : List (Int × Value)} {o1 o2 o3 o4 : Obj} {n : Nat} (m1 : (g, instObj 203 d) ∈ gw) (m2 : (d, dictOf [{ hash := PyData.keyHash w.params (Str.ofString "classes"), key := .str (Str.ofString "classes") k1, val := .ref c1 }, { hash := PyData.keyHash w.params (Str.ofString "attach"), key := .str (Str.ofString "attach") k2, val := .ref c2 }, { hash := PyData.keyHash w.params (Str.ofString "sets"), key := .str (Str.ofString "sets") k3, val := .ref l }, { hash := PyData.keyHash w.params (Str.ofString "points"), key := .str (Str.ofString "points") k4, val := .ref q1 }, { hash := PyData.keyHash w.params (Str.ofString "carets"), key := .str (Str.ofString "carets") k5, val := .ref q2 }] 5) ∈ gw) (m3 : (c1, instObj 155 d1) ∈ gw) (m4 : (d1, dictOf [{ hash := PyData.keyHash w.params (Str.ofString "classes"), key := .str (Str.ofString "classes") j1, val := .ref e1 }] 1) ∈ gw) (m5 : (e1, o1) ∈ gw) (m6 : (c2, instObj 155 d2) ∈ gw) (m7 : (d2, dictOf [{ hash := PyData.keyHash w.params (Str.ofString "classes"), key := .str (Str.ofString "classes") j2, val := .ref e2 }] 1) ∈ gw) (m8 : (e2, o2) ∈ gw) (m9 : (l, listOf #[] n) ∈ gw) (m10 : (q1, o3) ∈ gw) (m11 : (q2, o4) ∈ gw) (f1 : o1.IsDictOf (PySem.intKind PySem.Challenge.rw_nu0220_01.row.prog w) kvs) (f2 : FlatPairs PyData.int kvs (kdfD c)) (f3 : c.length ≤ 3) (f4 : EmptyD w o2) (f5 : EmptyD w o3) (f6 : EmptyD w o4) (f7 : (e1 == sysModules) = false) (f8 : (e2 == sysModules) = false) (f9 : (q1 == sysModules) = false) (f10 : (q2 == sysModules) = false) : GdefIn w c g gw := ⟨_, _, _, _, _, _, _, _, _, _, _, _, _, _, _, _, _, _, _, _, _, _, _, ⟨m1, m2, m3, m4, m5, m6, m7, m8, m9, m10, m11⟩, ⟨f1, f2, f3, f4, f5, f6, f7, f8, f9, f10⟩⟩
theorem GdefIn.mono {w : World} {c : List (Int × Int)} {g : Addr} {gw gw' : List (Addr × Obj)} (h : GdefIn w c g gw) (hs : ∀ p ∈ gw, p ∈ gw') : GdefIn w c g gw' := by
  refine h.elim ?_
  intro d c1 d1 e1 c2 d2 e2 l q1 q2 k1 k2 k3 k4 k5 j1 j2 kvs o1 o2 o3 o4 n m1 m2 m3 m4 m5 m6 m7 m8 m9 m10 m11 f1 f2 f3 f4 f5 f6 f7 f8 f9 f10
  exact GdefIn.intro (hs _ m1) (hs _ m2) (hs _ m3) (hs _ m4) (hs _ m5) (hs _ m6) (hs _ m7) (hs _ m8) (hs _ m9) (hs _ m10) (hs _ m11) f1 f2 f3 f4 f5 f6 f7 f8 f9 f10
theorem news_gen {h₀ h : Heap} {L : Addr} {l : List (Addr × Obj)} (N : News h₀ L h l) : ∃ R, R = l ∧ News h₀ L h R := ⟨l, rfl, N⟩
theorem mem_of_eq {α : Type} {R l : List α} {a : α} (e : R = l) (h : a ∈ l) : a ∈ R := e ▸ h
theorem news_app {h₀ h : Heap} {L : Addr} {A B : List (Addr × Obj)} (N : News h₀ L h (A ++ B)) : News h₀ L h (B ++ A) := fun p hp => N p ((List.mem_append.mp hp).elim (List.mem_append_right _) (List.mem_append_left _))
example : True := by
  k_with "MY enter" => (refine' code_def ?zk1 ?zk2 ?zk3 ?zk4 ?zk5 ?zkA ?zkF ?zkK ?zk6 ?zk7 ?zk8 ?zk9 ?zkB ?_ ?zc2 ?zc3 ?zc4 ?zc5; (case zkA => exact rfl); (case zkF => exact rfl); (case zkK => k_asm); (case zk1 => k_asm); (case zk2 => k_asm); (case zk3 => k_asm); (case zk4 => k_asm); (case zk5 => k_asm); (case zk6 => k_is); (case zk7 => k_is); (case zk8 => ktr_room); (case zk9 => first | exact BindsTo.of_eq rfl | exact binds_K (by k_in) rfl (by k_is) rfl rfl rfl); (case zc5 => decide); (case zkB => exact locs rfl); (case zc2 => exact rfl); (case zc3 => exact rfl); (case zc4 => exact rfl); k_extra "M91c7")
  k_with "MY enterC" => (refine' code_defC ?zk1 ?zk2 ?zk3 ?zk4 ?zk5 ?zkA ?zkF ?zkK ?zk6 ?zk7 ?zk8 ?zk9 ?zkB ?zkD ?_ ?zc2 ?zc3 ?zc4; (case zkA => exact rfl); (case zkF => exact rfl); (case zkK => k_asm); (case zk1 => k_asm); (case zk2 => k_asm); (case zk3 => k_asm); (case zk4 => k_asm); (case zk5 => k_asm); (case zk6 => k_is); (case zk7 => k_is); (case zk8 => ktr_room); (case zk9 => first | exact BindsTo.of_eq rfl | exact binds_K (by k_in) rfl (by k_is) rfl rfl rfl); (case zkB => exact rfl); (case zkD => decide +kernel); (case zc2 => exact rfl); (case zc3 => exact rfl); (case zc4 => exact rfl); k_extra "M289d")
  k_with "MY fn" => (refine wpAny_call ?_; k_dflt (first | k_extra "MY enter" | k_extra "MY enterC"))
  k_with "MY cls" => (k_dflt (refine' call_cls ?zq1 ?zq2 ?zq3 ?zq4 ?zq5 ?zq6 ?_; (case zq1 => k_asm); (case zq2 => k_asm); (case zq3 => k_asm); (case zq4 => k_is); (case zq5 => k_is); (case zq6 => k_is); k_extra "M274b"))
  k_with "MY sub" => repeat' (first | exact List.forall_mem_nil _ | exact Mine.sub_refl | (refine Mine.sub_cons (by k_mem) ?_) | refine Mine.sub_tail ?_)
  k_with "callWith ref" => (k_here; k_dflt (first | refine' callWith_K ?zq1 ?zq2 ?_; (case zq1 => k_asm); (case zq2 => k_is); k_whole | (refine' callWith_K0 (Frag.In.keeps ?zq1 (Fr.keep ?zqF)) ?zq2 ?_; (case zqF => k_asm); (case zq1 => k_asm); (case zq2 => k_is); k_whole) | refine' callWith_K0 ?zq1 ?zq2 ?_; (case zq1 => k_in); (case zq2 => k_is); k_whole))
  k_with "MY lt" => first | assumption | exact Mine.mem_allLt (by assumption) | (refine Mine.mem_allLt ?_; simp only [*]; done)
  trivial
local macro_rules | `(tactic| k_extra "M91c7") => `(tactic| (intro x0 x1 x2 x3 x4 x5 x6 x7 x8; (try dsimp only); (try k_lift x6); (try k_fold)))
local macro_rules | `(tactic| k_extra "M289d") => `(tactic| (intro x0 x1 x2 x3 x4 x5 x6 x7 x8 x9 x10 x11 x12; (try k_lt x12); k_cells x8; (try simp only [List.cons_append, List.nil_append] at x7); (try dsimp only); (try k_lift x9); (try k_fold)))
local macro_rules | `(tactic| k_extra "M274b") => `(tactic| (intro x0 x1 x2 x3 x4 x5 x6; (try k_lt x5); (try k_lt2 x6); (try k_sweep); first | k_extra "MY enter" | k_extra "MY enterC"))
theorem cd0 {w : World} {p : Program} {loose : List Str} {mean : ExcName → Option Value} {mg mb : Str → Option Value} {e : Addr} {rest : List (Addr × Obj)}
  
  : ∀ (dp un : Nat) (gd : Option (List Code)) (cn : Str) (cs : Scope) (a : Addr) (ccd : Value) (cl : List (Str × Addr)) (outer : List Env) (A₀ : Around) (base h₀ : Heap) (L : Addr) (m : Str → Option Value) (s : Shared) (Q E : Value → Shared → Prop)
  (_B : Below A₀ base outer h₀) (_F : Fr h₀ L s.heap m) (_X : (hd.heap_39 w.params).In h₀) (_N : News h₀ L s.heap (rest)) (_T : Top p loose mean mg mb h₀) (_hk : cs.kind = .function)
  (_hd : dp + 4 < recursionLimit) (_hu : un + 40 < cLine)
  (_hret : ∀ c d k h' tk', Fr h₀ L h' m → News h₀ L h' ((c, instObj 155 d) :: (d, dictOf [{ hash := PyData.keyHash w.params (Str.ofString "classes"), key := .str (Str.ofString "classes") k, val := .ref e }] 1) :: rest) → (∀ q ∈ rest, q.1 < d) → @LT.lt Nat _ d c → Q (.ref c) { s with heap := h', toks := tk' }) ,
  wpAny (model PySem.Challenge.rw_nu0220_01.row.prog w) (ktrTop dp un gd cn cs L a ccd cl outer) (call (.ref 155) [.ref e]) Q E s := by
  k_fill
  intro dp un gd cn cs a ccd cl outer A₀ base h₀ L m s Q E B F X N T hk hd hu hret
  k_extra "MY cls"
  k_steps
  exact hret _ _ _ _ _ (by k_asm) (by k_asm) (by k_extra "MY lt") (by assumption)

theorem gn0 {w : World} {p : Program} {loose : List Str} {mean : ExcName → Option Value} {mg mb : Str → Option Value} {c1 c2 l : Addr} {rest : List (Addr × Obj)}
  
  : ∀ (dp un : Nat) (gd : Option (List Code)) (cn : Str) (cs : Scope) (a : Addr) (ccd : Value) (cl : List (Str × Addr)) (outer : List Env) (A₀ : Around) (base h₀ : Heap) (L : Addr) (m : Str → Option Value) (s : Shared) (Q E : Value → Shared → Prop)
  (_B : Below A₀ base outer h₀) (_F : Fr h₀ L s.heap m) (_X : (hd.heap_39 w.params).In h₀) (_N : News h₀ L s.heap (rest)) (_T : Top p loose mean mg mb h₀) (_hk : cs.kind = .function)
  (_hd : dp + 4 < recursionLimit) (_hu : un + 40 < cLine)
  (_hret : ∀ x d q1 q2 o1 o2 k1 k2 k3 k4 k5 h' tk', Fr h₀ L h' m → News h₀ L h' ((q2, o2) :: (q1, o1) :: (x, instObj 203 d) :: (d, dictOf [{ hash := PyData.keyHash w.params (Str.ofString "classes"), key := .str (Str.ofString "classes") k1, val := .ref c1 }, { hash := PyData.keyHash w.params (Str.ofString "attach"), key := .str (Str.ofString "attach") k2, val := .ref c2 }, { hash := PyData.keyHash w.params (Str.ofString "sets"), key := .str (Str.ofString "sets") k3, val := .ref l }, { hash := PyData.keyHash w.params (Str.ofString "points"), key := .str (Str.ofString "points") k4, val := .ref q1 }, { hash := PyData.keyHash w.params (Str.ofString "carets"), key := .str (Str.ofString "carets") k5, val := .ref q2 }] 5) :: rest) → EmptyD w o1 → EmptyD w o2 → (q1 == sysModules) = false → (q2 == sysModules) = false → (∀ q ∈ rest, q.1 < d) → @LT.lt Nat _ d x → @LT.lt Nat _ x q1 → @LT.lt Nat _ q1 q2 → Q (.ref x) { s with heap := h', toks := tk' }) ,
  wpAny (model PySem.Challenge.rw_nu0220_01.row.prog w) (ktrTop dp un gd cn cs L a ccd cl outer) (call (.ref 203) [.ref c1, .ref c2, .ref l]) Q E s := by
  k_fill
  intro dp un gd cn cs a ccd cl outer A₀ base h₀ L m s Q E B F X N T hk hd hu hret
  k_extra "MY cls"
  k_steps
  refine hret _ _ _ _ _ _ _ _ _ _ _ _ _ (by k_asm) (by k_asm) ⟨by assumption, by assumption⟩ ⟨by assumption, by assumption⟩ (by assumption) (by assumption) (by k_extra "MY lt") ?_ ?_ ?_
  all_goals (first | k_extra "MY lo" | omega)

example : True := by
  k_with "call ref" => (k_here; (with_reducible show wpAny _ _ (call (Value.ref 155) _) _ _ _); k_dflt (refine' Mine.cd0  _ _ _ _ _ _ _ _ _ _ _ _ _ _ _ _ _ ?zqB ?zqF ?zqX ?zqN ?zqT ?zqk ?zqd ?zqu ?_; (case zqB => k_asm); (case zqF => k_asm); (case zqX => k_asm); (case zqN => k_asm); (case zqT => k_asm); (case zqk => first | exact rfl | assumption); (case zqd => ktr_room); (case zqu => ktr_units)); k_extra "M32c7")
  k_with "call ref" => (k_here; (with_reducible show wpAny _ _ (call (Value.ref 203) _) _ _ _); k_dflt (refine' Mine.gn0  _ _ _ _ _ _ _ _ _ _ _ _ _ _ _ _ _ ?zqB ?zqF ?zqX ?zqN ?zqT ?zqk ?zqd ?zqu ?_; (case zqB => k_asm); (case zqF => k_asm); (case zqX => k_asm); (case zqN => k_asm); (case zqT => k_asm); (case zqk => first | exact rfl | assumption); (case zqd => ktr_room); (case zqu => ktr_units)); k_extra "M4d79")
  trivial
local macro_rules | `(tactic| k_extra "M32c7") => `(tactic| (intro x0 x1 x2 x3 x4 x5 x6 x7 x8; (try dsimp only [List.cons_append] at x6); (try k_lt x7); (try k_lt2 x8); (try k_sweep)))
local macro_rules | `(tactic| k_extra "M4d79") => `(tactic| (intro x0 x1 x2 x3 x4 x5 x6 x7 x8 x9 x10 x11 x12 x13 x14 x15 x16 x17 x18 x19 x20 x21 x22; (try dsimp only [List.cons_append] at x14); (try k_lt x19); (try k_lt2 x20); (try k_lt2 x21); (try k_lt2 x22); (try k_sweep)))
theorem ng0 {w : World} {p : Program} {loose : List Str} {mean : ExcName → Option Value} {mg mb : Str → Option Value}  {rest : List (Addr × Obj)}
  
  : ∀ (dp un : Nat) (gd : Option (List Code)) (cn : Str) (cs : Scope) (a : Addr) (ccd : Value) (cl : List (Str × Addr)) (outer : List Env) (A₀ : Around) (base h₀ : Heap) (L : Addr) (m : Str → Option Value) (s : Shared) (Q E : Value → Shared → Prop)
  (_B : Below A₀ base outer h₀) (_F : Fr h₀ L s.heap m) (_X : (hd.heap_39 w.params).In h₀) (_N : News h₀ L s.heap (rest)) (_T : Top p loose mean mg mb h₀) (_hk : cs.kind = .function)
  (_hd : dp + 8 < recursionLimit) (_hu : un + 80 < cLine)
  (_hret : ∀ g gw h' tk', Fr h₀ L h' m → News h₀ L h' (rest ++ gw) → GdefIn w [] g gw → (∀ p ∈ gw, ∀ q ∈ rest, q.1 < p.1) → Q (.ref g) { s with heap := h', toks := tk' }) ,
  wpAny (model PySem.Challenge.rw_nu0220_01.row.prog w) (ktrTop dp un gd cn cs L a ccd cl outer) (call (.ref 214) []) Q E s := by
  k_fill
  intro dp un gd cn cs a ccd cl outer A₀ base h₀ L m s Q E B F X N T hk hd hu hret
  k_extra "MY fn"
  k_steps
  rename News _ _ _ _ => NN
  refine hret _ [_, _, _, _, _, _, _, _, _, _, _] _ _ (by k_asm) (news_app (B := rest) NN) (GdefIn.intro (kvs := []) (by k_mem) (by k_mem) (by k_mem) (by k_mem) (by k_mem) (by k_mem) (by k_mem) (by k_mem) (by k_mem) (by k_mem) (by k_mem) (by assumption) .nil (Nat.zero_le _) ⟨by assumption, by assumption⟩ (by assumption) (by assumption) (by assumption) (by assumption) (by assumption) (by assumption)) ?_
  rename ∀ p, p ∈ rest → p.1 < _ => hb
  intro p hp q hq
  have h : @LT.lt Nat _ q.1 _ := hb q hq
  simp only [List.mem_cons, List.not_mem_nil, or_false] at hp
  rcases hp with rfl | rfl | rfl | rfl | rfl | rfl | rfl | rfl | rfl | rfl | rfl
  all_goals (show @LT.lt Nat _ _ _)
  all_goals (first | k_extra "MY lo" | omega)
example : True ∧ True := by w_top off; first | (walk1; done) | exact ⟨trivial, trivial⟩
example : True := by
  k_with_none
  k_with "eval Name" => (k_here; (with_reducible show wpAny _ _ (eval (Expr.Name _ _) (compEnvC _ _ _ _)) _ _ _); k_dflt (first | (name_kind "local"; refine' LCgL.ld_own ?zN ?zm ?zC ?zx ?_ ?zk ?zl ?zd; (case zk => kernel_rfl); (case zl => kernel_rfl); (case zd => kernel_rfl); (case zN => k_asm); (case zm => k_mem); (case zC => assumption); (case zx => assumption); k_whole) | (name_kind "globalImplicit"; first | (refine' LCgL.ld_global ?zF ?zX ?zT ?ze ?_ ?zg ?zk ?zl ?zd; (case zg => kernel_rfl); (case zk => kernel_rfl); (case zl => kernel_rfl); (case zd => kernel_rfl); (case zF => k_asm); (case zX => k_asm); (case zT => k_asm); (case ze => k_is); k_whole) | (refine' LCgL.ld_built ?zF ?zX ?zT ?ze ?zv ?zn ?_ ?zg ?zb ?zk ?zl ?zd; (case zg => kernel_rfl); (case zb => kernel_rfl); (case zk => kernel_rfl); (case zl => kernel_rfl); (case zd => kernel_rfl); (case zF => k_asm); (case zX => k_asm); (case zT => k_asm); (case ze => k_is); (case zv => boot_fast); (case zn => decide); k_whole))))
  k_with "eval Name" => (k_here; (fail_if_success (with_reducible show wpAny _ _ (eval (Expr.Name _ _) (compEnvC _ _ _ _)) _ _ _)); k_dflt (first | (name_kind "local"; refine' nameX_L ?zF ?zv ?_ ?za ?zb ?zc; (case zF => k_asm); (case za => kernel_rfl); (case zb => kernel_rfl); (case zc => kernel_rfl); (case zv => rfl); k_whole) | (name_kind "cell"; refine' nameX_C ?zN ?zl ?zm ?zd ?_ ?za ?zb ?zc; (case za => kernel_rfl); (case zb => kernel_rfl); (case zc => kernel_rfl); (case zN => k_asm); (case zl => rfl); (case zm => k_mem); (case zd => k_asm); k_whole) | (name_kind "globalImplicit"; first | (refine' nameX_K ?zF ?zX ?zT ?ze ?_ ?za ?zb ?zc; (case za => kernel_rfl); (case zb => kernel_rfl); (case zc => kernel_rfl); (case zF => k_asm); (case zX => k_asm); (case zT => k_asm); (case ze => k_is); k_whole) | (refine' nameX_B ?zF ?zX ?zT ?ze ?zv ?zn ?_ ?za ?zb ?zc; (case za => kernel_rfl); (case zb => kernel_rfl); (case zc => kernel_rfl); (case zF => k_asm); (case zX => k_asm); (case zT => k_asm); (case ze => k_is); (case zv => boot_fast); (case zn => decide); k_whole))))
  k_with "ite" => (k_closed; first | (with_reducible refine ite_pos ?zi ?_; (case zi => decide +kernel)) | (with_reducible refine ite_neg ?zi ?_; (case zi => decide +kernel)))
  k_with "getAttr ref" => (k_here; k_dflt (refine' get_own ?zF ?zX ?zI ?zg ?zh ?za ?zn ?zl ?zv ?_; (case zF => k_asm); (case zX => k_asm); (case zI => k_inst); (case zl => k_get); (case zg => k_is); (case zh => k_is); (case za => k_is); (case zn => k_is); (case zv => k_handed); k_whole))
  k_with "spliced" => ((with_reducible show wpAny _ _ (spliced (backTo _ (starEach (_ :: _) _))) _ _ _); k_dflt (refine args_cons ?_))
  k_with "newList" => (k_here; k_dflt (refine' newList_K ?zF ?zN ?_ ?zs; (case zF => k_asm); (case zN => k_asm); (case zs => exact Nat.le_of_ble_eq_true rfl); k_whole); k_extra "M46a0")
  k_with "MY ltp" => ((with_reducible rename @LT.lt Nat _ _ _ ∧ _ => kL); first | (with_reducible first | exact kL.1 | exact kL.2 | exact kL.2.1 | exact kL.2.2 | exact kL.2.2.1 | exact kL.2.2.2 | exact kL.2.2.2.1 | exact kL.2.2.2.2 | exact kL.2.2.2.2.1 | exact kL.2.2.2.2.2 | exact kL.2.2.2.2.2.1 | exact kL.2.2.2.2.2.2 | exact kL.2.2.2.2.2.2.1 | exact kL.2.2.2.2.2.2.2 | exact kL.2.2.2.2.2.2.2.1 | exact kL.2.2.2.2.2.2.2.2 | exact kL.2.2.2.2.2.2.2.2.1 | exact kL.2.2.2.2.2.2.2.2.2 | exact kL.2.2.2.2.2.2.2.2.2.1 | exact kL.2.2.2.2.2.2.2.2.2.2 | exact kL.2.2.2.2.2.2.2.2.2.2.1 | exact kL.2.2.2.2.2.2.2.2.2.2.2 | exact kL.2.2.2.2.2.2.2.2.2.2.2.1 | exact kL.2.2.2.2.2.2.2.2.2.2.2.2 | exact kL.2.2.2.2.2.2.2.2.2.2.2.2.1 | exact kL.2.2.2.2.2.2.2.2.2.2.2.2.2 | exact kL.2.2.2.2.2.2.2.2.2.2.2.2.2.1 | exact kL.2.2.2.2.2.2.2.2.2.2.2.2.2.2 | exact kL.2.2.2.2.2.2.2.2.2.2.2.2.2.2.1 | exact kL.2.2.2.2.2.2.2.2.2.2.2.2.2.2.2 | exact kL.2.2.2.2.2.2.2.2.2.2.2.2.2.2.2.1 | exact kL.2.2.2.2.2.2.2.2.2.2.2.2.2.2.2.2 | exact kL.2.2.2.2.2.2.2.2.2.2.2.2.2.2.2.2.1 | exact kL.2.2.2.2.2.2.2.2.2.2.2.2.2.2.2.2.2 | exact kL.2.2.2.2.2.2.2.2.2.2.2.2.2.2.2.2.2.1 | exact kL.2.2.2.2.2.2.2.2.2.2.2.2.2.2.2.2.2.2 | exact kL.2.2.2.2.2.2.2.2.2.2.2.2.2.2.2.2.2.2.1 | exact kL.2.2.2.2.2.2.2.2.2.2.2.2.2.2.2.2.2.2.2 | exact kL.2.2.2.2.2.2.2.2.2.2.2.2.2.2.2.2.2.2.2.1 | exact kL.2.2.2.2.2.2.2.2.2.2.2.2.2.2.2.2.2.2.2.2 | exact kL.2.2.2.2.2.2.2.2.2.2.2.2.2.2.2.2.2.2.2.2.1 | exact kL.2.2.2.2.2.2.2.2.2.2.2.2.2.2.2.2.2.2.2.2.2 | exact kL.2.2.2.2.2.2.2.2.2.2.2.2.2.2.2.2.2.2.2.2.2.1 | exact kL.2.2.2.2.2.2.2.2.2.2.2.2.2.2.2.2.2.2.2.2.2.2 | exact kL.2.2.2.2.2.2.2.2.2.2.2.2.2.2.2.2.2.2.2.2.2.2.1 | exact kL.2.2.2.2.2.2.2.2.2.2.2.2.2.2.2.2.2.2.2.2.2.2.2) | (clear kL; k_extra "MY ltp"))
  k_with "MY ne" => first | (refine Nat.ne_of_gt ?_; k_extra "MY ltp") | (refine Nat.ne_of_lt ?_; k_extra "MY ltp")
  k_with "newTuple" => (k_here; k_dflt (refine' kup_newTuple ?zF ?zN ?_ ?zs; (case zF => k_asm); (case zN => k_asm); (case zs => kmk_size)); k_extra "M46a0")
  k_with "MY ltq" => first | with_reducible assumption | k_extra "MY ltp" | ((with_reducible refine' Nat.lt_trans ?_ ?klb); (case klb => with_reducible assumption); k_extra "MY ltq") | ((with_reducible refine' Nat.lt_trans ?kla ?_); (case kla => with_reducible assumption); k_extra "MY ltp") | ((with_reducible refine' Nat.lt_succ_of_lt ?_); first | with_reducible assumption | k_extra "MY ltp" | ((with_reducible refine' Nat.lt_succ_of_lt ?_); first | with_reducible assumption | k_extra "MY ltp")) | ((with_reducible refine' Mine.mem_allLt ?_ _ ?klm); (case klm => with_reducible assumption); first | with_reducible assumption | k_extra "MY ltp")
  k_with "MY lo" => first | ((with_reducible show @LT.lt Nat _ _ _); (try dsimp only); k_extra "MY ltq") | ((with_reducible show @Ne Nat _ _); (try dsimp only); first | with_reducible assumption | (refine Ne.symm ?_; with_reducible assumption) | (refine Nat.ne_of_gt ?_; k_extra "MY ltq") | (refine Nat.ne_of_lt ?_; k_extra "MY ltq")) | decide
  k_with "H mem" => first | exact List.Mem.head _ | (refine' List.Mem.tail _ ?_; k_extra "H mem") | ((fail_if_success refine' List.Mem.tail _ ?_); change (_ : Addr × Obj) ∈ (_ : List (Addr × Obj)); first | with_reducible assumption | (with_reducible refine' List.mem_append_left _ ?_; k_extra "H mem") | (with_reducible refine' List.mem_append_right _ ?_; k_extra "H mem"))
  k_with "H room" => ((try simp only [depth_under_make, depth_under_kw, depth_in1, depth_deeper, depth_caller]); (try dsimp only [ktrTop]); first | decide | ((try simp only [Nat.add_assoc, Nat.reduceAdd]); (with_reducible rename _ + _ < recursionLimit => kH); first | exact Mine.room_of kH rfl | exact Mine.room_at kH) | omega)
  k_with "H units" => ((try simp only [units_in1, units_deeper, Around.mark_units, units_caller]); (try dsimp only [ktrTop]); first | decide | ((try simp only [Nat.add_assoc, Nat.reduceAdd]); (with_reducible rename _ + _ < cLine => kH); first | exact Mine.room_of kH rfl | exact Mine.room_at kH) | omega)
  k_with "H ne" => (refine neN ?_; (try dsimp only); first | with_reducible assumption | (refine Ne.symm ?_; with_reducible assumption) | (with_reducible first | exact Nat.ne_of_lt (by assumption) | exact Nat.ne_of_gt (by assumption)) | k_extra "MY ne" | ((with_reducible rename (_ ≠ _ ∧ _ ≠ _ ∧ _ ≠ _) ∧ _ => kOff); first | (simp only [kOff, ne_eq, not_false_eq_true]; done) | (refine Ne.symm ?_; simp only [kOff, ne_eq, not_false_eq_true]; done)) | k_extra "MY lo" | omega)
  trivial
abbrev iK (w : World) := PySem.intKind PySem.Challenge.rw_nu0220_01.row.prog w
section
variable {prog : Program} {w : World} {A : Around} {E : Value → Shared → Prop} {s : Shared} {h₀ : Heap} {L d : Addr} {m : Str → Option Value} {news : List (Addr × Obj)} {o : Obj} {kvs : List (Int × Value)} {c : List (Int × Int)}
theorem kdf_key : ∀ {kvs : List (Int × Value)} {c : List (Int × Int)}, FlatPairs PyData.int kvs (kdfD c) → ∀ (j : Nat) (k : Int) (x : Value), kvs[j]? = some (k, x) → (c.map (·.1))[j]? = some k := by
  intro kvs c hf
  have e : kvs.map (·.1) = c.map (·.1) := by
    generalize hD : kdfD c = D at hf
    induction hf generalizing c with
    | nil => cases c with
      | nil => rfl
      | cons p r => cases hD
    | cons hfl _ ih =>
      cases c with
      | nil => cases hD
      | cons p r =>
        unfold kdfD at hD
        rw [List.map_cons] at hD
        injection hD with h1 h2
        injection h1 with h3 _
        injection h3 with h3
        rw [List.map_cons, List.map_cons, ih h2, h3]
  intro j k x hx
  rw [← e, List.getElem?_map, hx]; rfl
theorem ints_of {vs : List Value} {ns : List Int} (hl : vs.length = ns.length) (h : ∀ (j : Nat) (v : Value), vs[j]? = some v → ∃ n : Int, ns[j]? = some n ∧ ∃ t : Tok, v = Value.int n t) : IntsAre vs ns := kdy_ints hl h
theorem srt {Q : Value → Shared → Prop} (hh : A.handled = none) (F : Fr h₀ L s.heap m) (N : News h₀ L s.heap news) (hm : (d, o) ∈ news) (i1 : o.IsDictOf (intKind prog w) kvs) (fl : FlatPairs PyData.int kvs (kdfD c)) (hc : c.length ≤ 3) (lo : (d == sysModules) = false)
    (h : ∀ B vs ns n h' tk, Fr h₀ L h' m → News h₀ L h' ((B, listOf vs.toArray n) :: news) → (∀ q ∈ news, q.1 < B) → IntsAre vs ns → ns.length ≤ 3 → ns.Perm (c.map (·.1)) → ns.Pairwise (· ≤ ·) → Q (.ref B) { s with heap := h', toks := tk }) :
    wpAny (model prog w) A (call (.builtin "sorted") [.ref d]) Q E s := by
  have hD : s.heap.DictOf (intKind prog w) d kvs := Heap.dictOf_iff.mpr ⟨o, (N _ hm).1, i1⟩
  obtain ⟨ep, hat⟩ := hD.dictAt
  have hlen : kvs.length = c.length := by have := fl.length; rw [kdfD_length] at this; (first | k_extra "MY lo" | omega)
  refine kdu_sorted (kdl_dict (knd := intKind prog w) (kvs := kvs) (ep := ep) lo) hh F N hat (by rw [hlen]; exact Nat.le_trans hc (Nat.le_of_ble_eq_true rfl)) fun B h' tk vs F' N' l1 hl hv => ?_
  have hi : IntsAre vs (c.map (·.1)) := by
    refine kdy_ints (by rw [hl, hlen, List.length_map]) fun j v hj => ?_
    obtain ⟨k, x, hx, hk⟩ := hv j v hj
    exact ⟨k, kdf_key fl j k x hx, Value.isInt_shape hk⟩
  refine ksk_lsort (news' := fun o => (B, o) :: news) F' N' (fun o => .head (fun p hp => Nat.ne_of_lt (l1 p hp))) rfl hi (by rw [List.length_map]; (first | k_extra "MY lo" | omega)) fun vs' ns' c' h'' F'' N'' hi' hl' hp ho _ => ?_
  exact h B vs' ns' c' h'' tk F'' N'' l1 hi' (by rw [hl', List.length_map]; exact hc) hp ho
end

inductive RowsAre (c : List (Int × Int)) (tl : List (Addr × Obj)) : List Value → List Int → Prop
  | nil : RowsAre c tl [] []
  | snoc {ys : List Value} {ns : List Int} {q : Addr} {n : Int} {k1 k2 : Tok} (r : RowsAre c tl ys ns) (hm : (q, tup [.int n k1, .int (kdfLook c n 0) k2]) ∈ tl) : RowsAre c tl (ys ++ [.ref q]) (ns ++ [n])
theorem RowsAre.mono {c : List (Int × Int)} {tl tl' : List (Addr × Obj)} {ys : List Value} {ns : List Int} (h : RowsAre c tl ys ns) (hs : ∀ p ∈ tl, p ∈ tl') : RowsAre c tl' ys ns := by
  induction h with
  | nil => exact .nil
  | snoc _ hm ih => exact .snoc ih (hs _ hm)
theorem RowsAre.length {c : List (Int × Int)} {tl : List (Addr × Obj)} {ys : List Value} {ns : List Int} (h : RowsAre c tl ys ns) : ys.length = ns.length := by
  induction h with
  | nil => rfl
  | snoc _ _ ih => simp [ih]
def RowsC (c : List (Int × Int)) (t : Addr) (tw : List (Addr × Obj)) : Prop := ∃ ys ns, ns.Perm (c.map (·.1)) ∧ ns.Pairwise (· ≤ ·) ∧ (t, tup ys) ∈ tw ∧ RowsAre c tw ys ns
theorem RowsC.mono {c : List (Int × Int)} {t : Addr} {tl tl' : List (Addr × Obj)} (h : RowsC c t tl) (hs : ∀ p ∈ tl, p ∈ tl') : RowsC c t tl' := by
  obtain ⟨ys, ns, a, b, d, e⟩ := h
  exact ⟨ys, ns, a, b, hs _ d, e.mono hs⟩
theorem kdf_has {c : List (Int × Int)} {n : Int} (h : n ∈ c.map (·.1)) : kdfHas c n = true := by
  obtain ⟨p, hp, e⟩ := List.mem_map.mp h
  unfold kdfHas
  exact List.any_eq_true.mpr ⟨p, hp, by simp [e]⟩
def RowInv (c : List (Int × Int)) (head : List (Addr × Obj)) (rest : List (Addr × Obj)) (base : Nat) (ns : List Int) (i : Nat) (ys : List Value) (news' : List (Addr × Obj)) : Prop :=
  ∃ tn, news' = head ++ (tn ++ rest) ∧ RowsAre c tn ys (ns.take i) ∧ ∀ p ∈ tn, base < p.1
theorem rows_eq {A : Around} {s : Shared} {h₀ : Heap} {L : Addr} {c : List (Int × Int)} {news tl tl' : List (Addr × Obj)} (N : News h₀ L s.heap news) (s1 : ∀ p ∈ tl, p ∈ news) (s2 : ∀ p ∈ tl', p ∈ news) (hu : A.units < cLine) : ∀ {ys ys' : List Value} {ns : List Int}, RowsAre c tl ys ns → RowsAre c tl' ys' ns →
    ∀ j (h1 : j < ys.length) (h2 : j < ys'.length), SeqAt.EqAt A s ys[j] ys'[j] true := by
  intro ys ys' ns h
  induction h generalizing ys' with
  | nil => intro _ j h1; exact absurd h1 (Nat.not_lt_zero _)
  | @snoc ys ns q n k1 k2 r hm ih =>
    intro h' j h1 h2
    generalize e : ns ++ [n] = ns2 at h'
    cases h' with
    | nil => exact absurd e (by simp)
    | @snoc ys2 ns2 q2 n2 k3 k4 r2 hm2 =>
      obtain ⟨e1, e2⟩ := List.append_inj' e rfl
      subst e1
      injection e2 with e2
      subst e2
      have hl := r.length
      have hl2 := r2.length
      by_cases hj : j < ys.length
      · rw [List.getElem_append_left hj, List.getElem_append_left (by (first | k_extra "MY lo" | omega))]
        exact ih r2 j hj (by (first | k_extra "MY lo" | omega))
      · have hj1 : j = ys.length := by simp at h1; (first | k_extra "MY lo" | omega)
        subst hj1
        rw [List.getElem_append_right (Nat.le_refl _), List.getElem_append_right (by (first | k_extra "MY lo" | omega))]
        simp only [Nat.sub_self, hl, hl2, List.getElem_cons_zero]
        by_cases hq : q = q2
        · subst hq; exact SeqAt.EqAt.same _
        · refine SeqAt.EqAt.of_refs hq (eqAt_tup N (s1 _ hm) (s2 _ hm2) hu rfl fun j h1 h2 => ?_)
          match j, h1, h2 with
          | 0, _, _ => have := SeqAt.EqAt.int_int (A := A.in1) (s := s) n k1 n k3; simpa using this
          | 1, _, _ => have := SeqAt.EqAt.int_int (A := A.in1) (s := s) (kdfLook c n 0) k2 (kdfLook c n 0) k4; simpa using this
          | _ + 2, h, _ => exact absurd h (by simp)
theorem rowsC_eq {A : Around} {s : Shared} {h₀ : Heap} {L : Addr} {c : List (Int × Int)} {t t' : Addr} {news tl tl' : List (Addr × Obj)} (N : News h₀ L s.heap news) (s1 : ∀ p ∈ tl, p ∈ news) (s2 : ∀ p ∈ tl', p ∈ news) (hu : A.units + 1 < cLine) (h : RowsC c t tl) (h' : RowsC c t' tl') : SeqAt.EqAt A s (.ref t) (.ref t') true := by
  by_cases hq : t = t'
  · subst hq; exact SeqAt.EqAt.same _
  · obtain ⟨ys, ns, p1, o1, m1, r1⟩ := h
    obtain ⟨ys', ns', p2, o2, m2, r2⟩ := h'
    obtain rfl : ns = ns' := lks_uniq (p1.trans p2.symm) o1 o2
    have hl := r1.length
    have hl2 := r2.length
    refine SeqAt.EqAt.of_refs hq (eqAt_tup N (s1 _ m1) (s2 _ m2) (by (first | k_extra "MY lo" | omega)) (by simp [hl, hl2]) fun j h1 h2 => ?_)
    simp only [List.getElem_toArray]
    exact rows_eq (A := A.in1) N s1 s2 (by simp only [units_in1]; (first | k_extra "MY lo" | omega)) r1 r2 j (by simpa using h1) (by simpa using h2)
example : True ∧ True := by w_top off; first | (walk1; done) | exact ⟨trivial, trivial⟩
example : True := by
  k_with_none
  k_with "eval Name" => (k_here; (with_reducible show wpAny _ _ (eval (Expr.Name _ _) (compEnvC _ _ _ _)) _ _ _); k_dflt (first | (name_kind "local"; refine' LCgL.ld_own ?zN ?zm ?zC ?zx ?_ ?zk ?zl ?zd; (case zk => kernel_rfl); (case zl => kernel_rfl); (case zd => kernel_rfl); (case zN => k_asm); (case zm => k_mem); (case zC => assumption); (case zx => assumption); k_whole) | (name_kind "globalImplicit"; first | (refine' LCgL.ld_global ?zF ?zX ?zT ?ze ?_ ?zg ?zk ?zl ?zd; (case zg => kernel_rfl); (case zk => kernel_rfl); (case zl => kernel_rfl); (case zd => kernel_rfl); (case zF => k_asm); (case zX => k_asm); (case zT => k_asm); (case ze => k_is); k_whole) | (refine' LCgL.ld_built ?zF ?zX ?zT ?ze ?zv ?zn ?_ ?zg ?zb ?zk ?zl ?zd; (case zg => kernel_rfl); (case zb => kernel_rfl); (case zk => kernel_rfl); (case zl => kernel_rfl); (case zd => kernel_rfl); (case zF => k_asm); (case zX => k_asm); (case zT => k_asm); (case ze => k_is); (case zv => boot_fast); (case zn => decide); k_whole))))
  k_with "eval Name" => (k_here; (fail_if_success (with_reducible show wpAny _ _ (eval (Expr.Name _ _) (compEnvC _ _ _ _)) _ _ _)); k_dflt (first | (name_kind "local"; refine' nameX_L ?zF ?zv ?_ ?za ?zb ?zc; (case zF => k_asm); (case za => kernel_rfl); (case zb => kernel_rfl); (case zc => kernel_rfl); (case zv => rfl); k_whole) | (name_kind "cell"; refine' nameX_C ?zN ?zl ?zm ?zd ?_ ?za ?zb ?zc; (case za => kernel_rfl); (case zb => kernel_rfl); (case zc => kernel_rfl); (case zN => k_asm); (case zl => rfl); (case zm => k_mem); (case zd => k_asm); k_whole) | (name_kind "globalImplicit"; first | (refine' nameX_K ?zF ?zX ?zT ?ze ?_ ?za ?zb ?zc; (case za => kernel_rfl); (case zb => kernel_rfl); (case zc => kernel_rfl); (case zF => k_asm); (case zX => k_asm); (case zT => k_asm); (case ze => k_is); k_whole) | (refine' nameX_B ?zF ?zX ?zT ?ze ?zv ?zn ?_ ?za ?zb ?zc; (case za => kernel_rfl); (case zb => kernel_rfl); (case zc => kernel_rfl); (case zF => k_asm); (case zX => k_asm); (case zT => k_asm); (case ze => k_is); (case zv => boot_fast); (case zn => decide); k_whole))))
  k_with "ite" => (k_closed; first | (with_reducible refine ite_pos ?zi ?_; (case zi => decide +kernel)) | (with_reducible refine ite_neg ?zi ?_; (case zi => decide +kernel)))
  k_with "getAttr ref" => (k_here; k_dflt (refine' get_own ?zF ?zX ?zI ?zg ?zh ?za ?zn ?zl ?zv ?_; (case zF => k_asm); (case zX => k_asm); (case zI => k_inst); (case zl => k_get); (case zg => k_is); (case zh => k_is); (case za => k_is); (case zn => k_is); (case zv => k_handed); k_whole))
  k_with "spliced" => ((with_reducible show wpAny _ _ (spliced (backTo _ (starEach (_ :: _) _))) _ _ _); k_dflt (refine args_cons ?_))
  k_with "newList" => (k_here; k_dflt (refine' newList_K ?zF ?zN ?_ ?zs; (case zF => k_asm); (case zN => k_asm); (case zs => exact Nat.le_of_ble_eq_true rfl); k_whole); k_extra "M46a0")
  k_with "MY ltp" => ((with_reducible rename @LT.lt Nat _ _ _ ∧ _ => kL); first | (with_reducible first | exact kL.1 | exact kL.2 | exact kL.2.1 | exact kL.2.2 | exact kL.2.2.1 | exact kL.2.2.2 | exact kL.2.2.2.1 | exact kL.2.2.2.2 | exact kL.2.2.2.2.1 | exact kL.2.2.2.2.2 | exact kL.2.2.2.2.2.1 | exact kL.2.2.2.2.2.2 | exact kL.2.2.2.2.2.2.1 | exact kL.2.2.2.2.2.2.2 | exact kL.2.2.2.2.2.2.2.1 | exact kL.2.2.2.2.2.2.2.2 | exact kL.2.2.2.2.2.2.2.2.1 | exact kL.2.2.2.2.2.2.2.2.2 | exact kL.2.2.2.2.2.2.2.2.2.1 | exact kL.2.2.2.2.2.2.2.2.2.2 | exact kL.2.2.2.2.2.2.2.2.2.2.1 | exact kL.2.2.2.2.2.2.2.2.2.2.2 | exact kL.2.2.2.2.2.2.2.2.2.2.2.1 | exact kL.2.2.2.2.2.2.2.2.2.2.2.2 | exact kL.2.2.2.2.2.2.2.2.2.2.2.2.1 | exact kL.2.2.2.2.2.2.2.2.2.2.2.2.2 | exact kL.2.2.2.2.2.2.2.2.2.2.2.2.2.1 | exact kL.2.2.2.2.2.2.2.2.2.2.2.2.2.2 | exact kL.2.2.2.2.2.2.2.2.2.2.2.2.2.2.1 | exact kL.2.2.2.2.2.2.2.2.2.2.2.2.2.2.2 | exact kL.2.2.2.2.2.2.2.2.2.2.2.2.2.2.2.1 | exact kL.2.2.2.2.2.2.2.2.2.2.2.2.2.2.2.2 | exact kL.2.2.2.2.2.2.2.2.2.2.2.2.2.2.2.2.1 | exact kL.2.2.2.2.2.2.2.2.2.2.2.2.2.2.2.2.2 | exact kL.2.2.2.2.2.2.2.2.2.2.2.2.2.2.2.2.2.1 | exact kL.2.2.2.2.2.2.2.2.2.2.2.2.2.2.2.2.2.2 | exact kL.2.2.2.2.2.2.2.2.2.2.2.2.2.2.2.2.2.2.1 | exact kL.2.2.2.2.2.2.2.2.2.2.2.2.2.2.2.2.2.2.2 | exact kL.2.2.2.2.2.2.2.2.2.2.2.2.2.2.2.2.2.2.2.1 | exact kL.2.2.2.2.2.2.2.2.2.2.2.2.2.2.2.2.2.2.2.2 | exact kL.2.2.2.2.2.2.2.2.2.2.2.2.2.2.2.2.2.2.2.2.1 | exact kL.2.2.2.2.2.2.2.2.2.2.2.2.2.2.2.2.2.2.2.2.2 | exact kL.2.2.2.2.2.2.2.2.2.2.2.2.2.2.2.2.2.2.2.2.2.1 | exact kL.2.2.2.2.2.2.2.2.2.2.2.2.2.2.2.2.2.2.2.2.2.2 | exact kL.2.2.2.2.2.2.2.2.2.2.2.2.2.2.2.2.2.2.2.2.2.2.1 | exact kL.2.2.2.2.2.2.2.2.2.2.2.2.2.2.2.2.2.2.2.2.2.2.2) | (clear kL; k_extra "MY ltp"))
  k_with "MY ne" => first | (refine Nat.ne_of_gt ?_; k_extra "MY ltp") | (refine Nat.ne_of_lt ?_; k_extra "MY ltp")
  k_with "newTuple" => (k_here; k_dflt (refine' kup_newTuple ?zF ?zN ?_ ?zs; (case zF => k_asm); (case zN => k_asm); (case zs => kmk_size)); k_extra "M46a0")
  k_with "MY ltq" => first | with_reducible assumption | k_extra "MY ltp" | ((with_reducible refine' Nat.lt_trans ?_ ?klb); (case klb => with_reducible assumption); k_extra "MY ltq") | ((with_reducible refine' Nat.lt_trans ?kla ?_); (case kla => with_reducible assumption); k_extra "MY ltp") | ((with_reducible refine' Nat.lt_succ_of_lt ?_); first | with_reducible assumption | k_extra "MY ltp" | ((with_reducible refine' Nat.lt_succ_of_lt ?_); first | with_reducible assumption | k_extra "MY ltp")) | ((with_reducible refine' Mine.mem_allLt ?_ _ ?klm); (case klm => with_reducible assumption); first | with_reducible assumption | k_extra "MY ltp")
  k_with "MY lo" => first | ((with_reducible show @LT.lt Nat _ _ _); (try dsimp only); k_extra "MY ltq") | ((with_reducible show @Ne Nat _ _); (try dsimp only); first | with_reducible assumption | (refine Ne.symm ?_; with_reducible assumption) | (refine Nat.ne_of_gt ?_; k_extra "MY ltq") | (refine Nat.ne_of_lt ?_; k_extra "MY ltq")) | decide
  k_with "H mem" => first | exact List.Mem.head _ | (refine' List.Mem.tail _ ?_; k_extra "H mem") | ((fail_if_success refine' List.Mem.tail _ ?_); change (_ : Addr × Obj) ∈ (_ : List (Addr × Obj)); first | with_reducible assumption | (with_reducible refine' List.mem_append_left _ ?_; k_extra "H mem") | (with_reducible refine' List.mem_append_right _ ?_; k_extra "H mem"))
  k_with "H room" => ((try simp only [depth_under_make, depth_under_kw, depth_in1, depth_deeper, depth_caller]); (try dsimp only [ktrTop]); first | decide | ((try simp only [Nat.add_assoc, Nat.reduceAdd]); (with_reducible rename _ + _ < recursionLimit => kH); first | exact Mine.room_of kH rfl | exact Mine.room_at kH) | omega)
  k_with "H units" => ((try simp only [units_in1, units_deeper, Around.mark_units, units_caller]); (try dsimp only [ktrTop]); first | decide | ((try simp only [Nat.add_assoc, Nat.reduceAdd]); (with_reducible rename _ + _ < cLine => kH); first | exact Mine.room_of kH rfl | exact Mine.room_at kH) | omega)
  k_with "H ne" => (refine neN ?_; (try dsimp only); first | with_reducible assumption | (refine Ne.symm ?_; with_reducible assumption) | (with_reducible first | exact Nat.ne_of_lt (by assumption) | exact Nat.ne_of_gt (by assumption)) | k_extra "MY ne" | ((with_reducible rename (_ ≠ _ ∧ _ ≠ _ ∧ _ ≠ _) ∧ _ => kOff); first | (simp only [kOff, ne_eq, not_false_eq_true]; done) | (refine Ne.symm ?_; simp only [kOff, ne_eq, not_false_eq_true]; done)) | k_extra "MY lo" | omega)
  trivial
theorem row_step {g : Heap} {L I C D D' a1 a2 a3 a4 a5 ax : Addr} {oI oC x1 x2 x3 x4 x5 : Obj} {h h' : Heap} {tk tk' : Nat} {m : Str → Option Value} {s : Shared} {ys : List Value} {ns : List Int} {n : Int} {k1 k2 : Tok} {c : List (Int × Int)} {tn rest : List (Addr × Obj)} {i base : Nat} {its : Array Value}
    (F : Fr g L h' m) (N : News g L h' ((D', tup [.int n k1, .int (kdfLook c n 0) k2]) :: (I, oI) :: (C, oC) :: (D, LCg.lst ys) :: (a1, x1) :: (a2, x2) :: (a3, x3) :: (a4, x4) :: (a5, x5) :: (tn ++ rest)))
    (q1 : @LT.lt Nat _ I D') (q2 : @LT.lt Nat _ C D') (q3 : @LT.lt Nat _ D D') (q4 : @LT.lt Nat _ base D') (off : LCg.Off3 I C D ((a1, x1) :: (a2, x2) :: (a3, x3) :: (a4, x4) :: (a5, x5) :: (tn ++ rest)))
    (hS : LCg.SrcAt g ax its ((a1, x1) :: (a2, x2) :: (a3, x3) :: (a4, x4) :: (a5, x5) :: ((D', tup [.int n k1, .int (kdfLook c n 0) k2]) :: tn ++ rest))) (hr : RowsAre c tn ys (ns.take i)) (hn : ns[i]? = some n) (hb : ∀ p ∈ tn, base < p.1) :
    LCg.CompEnd g L m { s with heap := h, toks := tk } I oI C oC D (LCg.lst ys) (LCg.SrcAt g ax its) (fun y news' => RowInv c [(a1, x1), (a2, x2), (a3, x3), (a4, x4), (a5, x5)] rest base ns (i + 1) (ys ++ [y]) news') (.ref D') { s with heap := h', toks := tk' } := by
  refine ⟨h', tk', (a1, x1) :: (a2, x2) :: (a3, x3) :: (a4, x4) :: (a5, x5) :: ((D', tup [.int n k1, .int (kdfLook c n 0) k2]) :: tn ++ rest), rfl, F, fun p hp => N p ?_, ?_, hS, (D', tup [.int n k1, .int (kdfLook c n 0) k2]) :: tn, rfl, ?_, ?_⟩
  · simp only [List.mem_cons, List.cons_append] at hp ⊢
    rcases hp with h | h | h | h | h | h | h | h | h | h <;> simp only [h, true_or, or_true]
  · obtain ⟨b1, b2, b3, b4, b5, b6⟩ := off
    exact ⟨b1, b2, b3, b4, b5, ⟨Nat.ne_of_gt q1, Nat.ne_of_gt q2, Nat.ne_of_gt q3⟩, b6⟩
  · rw [List.take_add_one, hn]
    exact RowsAre.snoc (hr.mono fun p hp => .tail _ hp) (.head _)
  · intro p hp
    rcases List.mem_cons.mp hp with rfl | hp
    · exact q4
    · exact hb p hp
theorem ints_at {vs : List Value} {ns : List Int} (h : IntsAre vs ns) {i : Nat} {v : Value} (e : vs.toArray[i]? = some v) : ∃ n t, v = .int n t ∧ ns[i]? = some n := by
  rw [List.getElem?_toArray] at e
  induction h generalizing i with
  | nil => cases e
  | cons n t _ ih =>
    cases i with
    | zero => simp at e; exact ⟨n, t, e.symm, rfl⟩
    | succ i => simp at e; exact ih e
def ToldC (c : List (Int × Int)) (t : Addr) (tw : List (Addr × Obj)) : Prop := ∃ r, (t, tup [.ref r, .none]) ∈ tw ∧ RowsC c r tw
example : True := by
  k_with "MY enter" => (refine' code_def ?zk1 ?zk2 ?zk3 ?zk4 ?zk5 ?zkA ?zkF ?zkK ?zk6 ?zk7 ?zk8 ?zk9 ?zkB ?_ ?zc2 ?zc3 ?zc4 ?zc5; (case zkA => exact rfl); (case zkF => exact rfl); (case zkK => k_asm); (case zk1 => k_asm); (case zk2 => k_asm); (case zk3 => k_asm); (case zk4 => k_asm); (case zk5 => k_asm); (case zk6 => k_is); (case zk7 => k_is); (case zk8 => ktr_room); (case zk9 => first | exact BindsTo.of_eq rfl | exact binds_K (by k_in) rfl (by k_is) rfl rfl rfl); (case zc5 => decide); (case zkB => exact locs rfl); (case zc2 => exact rfl); (case zc3 => exact rfl); (case zc4 => exact rfl); k_extra "M91c7")
  k_with "MY enterC" => (refine' code_defC ?zk1 ?zk2 ?zk3 ?zk4 ?zk5 ?zkA ?zkF ?zkK ?zk6 ?zk7 ?zk8 ?zk9 ?zkB ?zkD ?_ ?zc2 ?zc3 ?zc4; (case zkA => exact rfl); (case zkF => exact rfl); (case zkK => k_asm); (case zk1 => k_asm); (case zk2 => k_asm); (case zk3 => k_asm); (case zk4 => k_asm); (case zk5 => k_asm); (case zk6 => k_is); (case zk7 => k_is); (case zk8 => ktr_room); (case zk9 => first | exact BindsTo.of_eq rfl | exact binds_K (by k_in) rfl (by k_is) rfl rfl rfl); (case zkB => exact rfl); (case zkD => decide +kernel); (case zc2 => exact rfl); (case zc3 => exact rfl); (case zc4 => exact rfl); k_extra "M289d")
  k_with "MY fn" => (refine wpAny_call ?_; k_dflt (first | k_extra "MY enter" | k_extra "MY enterC"))
  k_with "MY cls" => (k_dflt (refine' call_cls ?zq1 ?zq2 ?zq3 ?zq4 ?zq5 ?zq6 ?_; (case zq1 => k_asm); (case zq2 => k_asm); (case zq3 => k_asm); (case zq4 => k_is); (case zq5 => k_is); (case zq6 => k_is); k_extra "M274b"))
  k_with "MY sub" => repeat' (first | exact List.forall_mem_nil _ | exact Mine.sub_refl | (refine Mine.sub_cons (by k_mem) ?_) | refine Mine.sub_tail ?_)
  k_with "callWith ref" => (k_here; k_dflt (first | refine' callWith_K ?zq1 ?zq2 ?_; (case zq1 => k_asm); (case zq2 => k_is); k_whole | (refine' callWith_K0 (Frag.In.keeps ?zq1 (Fr.keep ?zqF)) ?zq2 ?_; (case zqF => k_asm); (case zq1 => k_asm); (case zq2 => k_is); k_whole) | refine' callWith_K0 ?zq1 ?zq2 ?_; (case zq1 => k_in); (case zq2 => k_is); k_whole))
  k_with "MY lt" => first | assumption | exact Mine.mem_allLt (by assumption) | (refine Mine.mem_allLt ?_; simp only [*]; done)
  k_with "getItem ref int" => (k_here; k_dflt (refine kdt_getItem (knd := PySem.intKind _ _) (by k_asm) (by k_mem) (by assumption) (intKind_is _ _ _ _) (by assumption) ?_))
  k_with "call type:tuple" => (k_here; (with_reducible show wpAny _ _ (call (Value.type _) [Value.ref _]) _ _ _); k_dflt (refine' kde_tupleOf ?zq1 ?zq2 ?zq3 ?zq4 ?zq5 ?_; (case zq1 => k_asm); (case zq2 => k_asm); (case zq3 => exact News.isList (by k_asm) (by k_mem)); (case zq4 => (simp only [List.size_toArray]; (first | k_extra "MY lo" | omega))); (case zq5 => first | exact List.toList_toArray | exact List.toList_toArray _ | exact Array.toList_toArray _)); k_extra "M46a0")
  trivial
theorem cm0 {w : World} {p : Program} {loose : List Str} {mean : ExcName → Option Value} {mg mb : Str → Option Value} {cm d e : Addr} {o : Obj} {j1 j2 : Tok} {kvs : List (Int × Value)} {c : List (Int × Int)} {rest : List (Addr × Obj)}
  (m1 : (cm, instObj 346 d) ∈ rest) (m2 : (d, dictOf [{ hash := PyData.keyHash w.params (Str.ofString "codes"), key := .str (Str.ofString "codes") j1, val := .ref e }, { hash := PyData.keyHash w.params (Str.ofString "variations"), key := .str (Str.ofString "variations") j2, val := .none }] 2) ∈ rest) (m3 : (e, o) ∈ rest) (i1 : o.IsDictOf (PySem.intKind PySem.Challenge.rw_nu0220_01.row.prog w) kvs) (fl : FlatPairs PyData.int kvs (kdfD c)) (hc : c.length ≤ 3) (lo : (e == sysModules) = false)
  : ∀ (dp un : Nat) (gd : Option (List Code)) (cn : Str) (cs : Scope) (a : Addr) (ccd : Value) (cl : List (Str × Addr)) (outer : List Env) (A₀ : Around) (base h₀ : Heap) (L : Addr) (m : Str → Option Value) (s : Shared) (Q E : Value → Shared → Prop)
  (_B : Below A₀ base outer h₀) (_F : Fr h₀ L s.heap m) (_X : (hd.heap_39 w.params).In h₀) (_N : News h₀ L s.heap (rest)) (_T : Top p loose mean mg mb h₀) (_hk : cs.kind = .function)
  (_hd : dp + 8 < recursionLimit) (_hu : un + 80 < cLine)
  (_hret : ∀ t tw h' tk', Fr h₀ L h' m → News h₀ L h' (rest ++ tw) → ToldC c t tw → (∀ p ∈ tw, ∀ q ∈ rest, q.1 < p.1) → Q (.ref t) { s with heap := h', toks := tk' }) ,
  wpAny (model PySem.Challenge.rw_nu0220_01.row.prog w) (ktrTop dp un gd cn cs L a ccd cl outer) (call (.ref 343) [.ref cm]) Q E s := by
  k_fill
  intro dp un gd cn cs a ccd cl outer A₀ base h₀ L m s Q E B F X N T hk hd hu hret
  have NN := news_sub N (sub_cons m1 (sub_cons m2 (sub_cons m3 sub_refl)))
  have hb0 : ∀ q ∈ rest, @LT.lt Nat _ q.1 s.heap.objs.size := fun q hq => Heap.lt_size (N q hq).1
  generalize s.heap.objs.size = bs at hb0
  clear N m1 m2 m3
  k_extra "MY fn"
  repeat' ((fail_if_success (with_reducible show wpAny _ _ (eval (Expr.ListComp _ _ _ _) _) _ _ _)); (first | (k_unfold; (try dsimp only)) | walk1 | (dsimp only; walk1) | fail "no step"))
  k_dflt (refine LCg.ListComp_U (F₀ := by k_asm) (by with_unfolding_all rfl) (by decide) (by rfl) (by decide) (by rfl) ?_)
  repeat' ((fail_if_success (with_reducible show wpAny _ _ (call (Value.builtin "sorted") _) _ _ _)); (first | (k_unfold; (try dsimp only)) | walk1 | (dsimp only; walk1) | fail "no step"))
  k_dflt (refine' srt (c := c) ?zqh ?zqF ?zqN ?zqm i1 fl hc lo ?_)
  (case zqh => rfl); (case zqF => k_asm); (case zqN => k_asm); (case zqm => k_mem)
  intro B vs ns n h1 tk1 F1 N1 l1 hi hl3 hp ho
  k_lt l1
  have hvl : vs.length = ns.length := hi.length
  refine LCg.CompSrc.ledger (by rfl) (by k_asm) (by k_asm) (by k_mem) (by rw [List.size_toArray, hvl]; exact Nat.le_trans hl3 (Nat.le_of_ble_eq_true rfl)) ?_
  intro g'
  rename_i gg LL hh1 tkk FG1 F0 B1 X1 T1 lL oc dd1 N0
  refine compRest_inv (RowInv c [(B, listOf vs.toArray n), (LL + 1, oc), (cm, instObj 346 d), (d, dictOf [{ hash := PyData.keyHash w.params (Str.ofString "codes"), key := .str (Str.ofString "codes") j1, val := .ref e }, { hash := PyData.keyHash w.params (Str.ofString "variations"), key := .str (Str.ofString "variations") j2, val := .none }] 2), (e, o)] rest B ns) ?_ ?_ _ 0 [] _ rfl ?_
  · rintro i ys news hi2 ⟨tn, rfl, hr, hb⟩ v I oI C oC D m₂ h tk E' hP hC hx F' N' off ne
    obtain ⟨nn, tt, rfl, hn⟩ := ints_at hi hP
    have hnc : nn ∈ c.map (·.1) := hp.mem_iff.mp (List.mem_of_getElem? hn)
    obtain ⟨vv, hv, hfl⟩ := fl.of_lookup PyProof.V.same_int (kdfD_item (kdf_has hnc))
    obtain ⟨tv, rfl⟩ := PyProof.V.Flat.int_inv hfl
    clear N1 N0 F0 F1 hP
    simp only [List.cons_append, List.nil_append] at N' off
    have off0 := off
    simp only [LCg.Off3] at off
    k_steps
    rename_i D1 hq1 F3 N3 l3
    refine row_step F3 N3 (by (first | k_extra "MY lo" | omega)) (by (first | k_extra "MY lo" | omega)) (by (first | k_extra "MY lo" | omega)) (by (first | k_extra "MY lo" | omega)) off0 (.inr ⟨_, .head _, rfl, _, rfl⟩) hr hn hb
  · rintro ys news ⟨tn, rfl, hr, hb⟩ D h tk F' N' o1
    clear N1 N0 F0 F1
    rw [Nat.zero_add] at hr
    simp only [List.size_toArray, hvl, List.take_length] at hr
    simp only [List.cons_append, List.nil_append] at N'
    have hys : ys.length ≤ 3 := by rw [hr.length]; exact hl3
    k_steps
    rename_i D1 hq0 l2 hq1 D2 hq2 F3 N3 l3 kF kN Tc kX
    refine hret D2 ((D2, tup [.ref D1, .none]) :: (D1, tup ys) :: tn) _ _ kF (fun p hp => kN p ?_) ⟨D1, .head _, ys, ns, hp, ho, .tail _ (.head _), hr.mono fun p hp => .tail _ (.tail _ hp)⟩ ?_
    · simp only [List.mem_append, List.mem_cons] at hp ⊢
      rcases hp with h | h | h | h <;> simp only [h, true_or, or_true]
    · intro p hp q hq
      have hB : @LT.lt Nat _ q.1 B := mem_allLt l1.2.2.2.2 q hq
      simp only [List.mem_cons] at hp
      rcases hp with rfl | rfl | hp
      · show @LT.lt Nat _ _ _
        (first | k_extra "MY lo" | omega)
      · show @LT.lt Nat _ _ _
        (first | k_extra "MY lo" | omega)
      · have := hb p hp
        show @LT.lt Nat _ _ _
        (first | k_extra "MY lo" | omega)
  · exact ⟨[], rfl, .nil, fun _ h => nomatch h⟩

theorem ct0 {w : World} {p : Program} {loose : List Str} {mean : ExcName → Option Value} {mg mb : Str → Option Value} {cm d e : Addr} {o : Obj} {j1 : Tok} {kvs : List (Int × Value)} {c : List (Int × Int)} {rest : List (Addr × Obj)}
  (m1 : (cm, instObj 155 d) ∈ rest) (m2 : (d, dictOf [{ hash := PyData.keyHash w.params (Str.ofString "classes"), key := .str (Str.ofString "classes") j1, val := .ref e }] 1) ∈ rest) (m3 : (e, o) ∈ rest) (i1 : o.IsDictOf (PySem.intKind PySem.Challenge.rw_nu0220_01.row.prog w) kvs) (fl : FlatPairs PyData.int kvs (kdfD c)) (hc : c.length ≤ 3) (lo : (e == sysModules) = false)
  : ∀ (dp un : Nat) (gd : Option (List Code)) (cn : Str) (cs : Scope) (a : Addr) (ccd : Value) (cl : List (Str × Addr)) (outer : List Env) (A₀ : Around) (base h₀ : Heap) (L : Addr) (m : Str → Option Value) (s : Shared) (Q E : Value → Shared → Prop)
  (_B : Below A₀ base outer h₀) (_F : Fr h₀ L s.heap m) (_X : (hd.heap_39 w.params).In h₀) (_N : News h₀ L s.heap (rest)) (_T : Top p loose mean mg mb h₀) (_hk : cs.kind = .function)
  (_hd : dp + 5 < recursionLimit) (_hu : un + 48 < cLine)
  (_hret : ∀ t tw h' tk', Fr h₀ L h' m → News h₀ L h' (rest ++ tw) → RowsC c t tw → (∀ p ∈ tw, ∀ q ∈ rest, q.1 < p.1) → Q (.ref t) { s with heap := h', toks := tk' }) ,
  wpAny (model PySem.Challenge.rw_nu0220_01.row.prog w) (ktrTop dp un gd cn cs L a ccd cl outer) (call (.ref 152) [.ref cm]) Q E s := by
  k_fill
  intro dp un gd cn cs a ccd cl outer A₀ base h₀ L m s Q E B F X N T hk hd hu hret
  have NN := news_sub N (sub_cons m1 (sub_cons m2 (sub_cons m3 sub_refl)))
  have hb0 : ∀ q ∈ rest, @LT.lt Nat _ q.1 s.heap.objs.size := fun q hq => Heap.lt_size (N q hq).1
  generalize s.heap.objs.size = bs at hb0
  clear N m1 m2 m3
  k_extra "MY fn"
  repeat' ((fail_if_success (with_reducible show wpAny _ _ (eval (Expr.ListComp _ _ _ _) _) _ _ _)); (first | (k_unfold; (try dsimp only)) | walk1 | (dsimp only; walk1) | fail "no step"))
  k_dflt (refine LCg.ListComp_U (F₀ := by k_asm) (by with_unfolding_all rfl) (by decide) (by rfl) (by decide) (by rfl) ?_)
  repeat' ((fail_if_success (with_reducible show wpAny _ _ (call (Value.builtin "sorted") _) _ _ _)); (first | (k_unfold; (try dsimp only)) | walk1 | (dsimp only; walk1) | fail "no step"))
  k_dflt (refine' srt (c := c) ?zqh ?zqF ?zqN ?zqm i1 fl hc lo ?_)
  (case zqh => rfl); (case zqF => k_asm); (case zqN => k_asm); (case zqm => k_mem)
  intro B vs ns n h1 tk1 F1 N1 l1 hi hl3 hp ho
  k_lt l1
  have hvl : vs.length = ns.length := hi.length
  refine LCg.CompSrc.ledger (by rfl) (by k_asm) (by k_asm) (by k_mem) (by rw [List.size_toArray, hvl]; exact Nat.le_trans hl3 (Nat.le_of_ble_eq_true rfl)) ?_
  intro g'
  rename_i gg LL hh1 tkk FG1 F0 B1 X1 T1 lL oc dd1 N0
  refine compRest_inv (RowInv c [(B, listOf vs.toArray n), (LL + 1, oc), (cm, instObj 155 d), (d, dictOf [{ hash := PyData.keyHash w.params (Str.ofString "classes"), key := .str (Str.ofString "classes") j1, val := .ref e }] 1), (e, o)] rest B ns) ?_ ?_ _ 0 [] _ rfl ?_
  · rintro i ys news hi2 ⟨tn, rfl, hr, hb⟩ v I oI C oC D m₂ h tk E' hP hC hx F' N' off ne
    obtain ⟨nn, tt, rfl, hn⟩ := ints_at hi hP
    have hnc : nn ∈ c.map (·.1) := hp.mem_iff.mp (List.mem_of_getElem? hn)
    obtain ⟨vv, hv, hfl⟩ := fl.of_lookup PyProof.V.same_int (kdfD_item (kdf_has hnc))
    obtain ⟨tv, rfl⟩ := PyProof.V.Flat.int_inv hfl
    clear N1 N0 F0 F1 hP
    simp only [List.cons_append, List.nil_append] at N' off
    have off0 := off
    simp only [LCg.Off3] at off
    k_steps
    rename_i D1 hq1 F3 N3 l3
    refine row_step F3 N3 (by (first | k_extra "MY lo" | omega)) (by (first | k_extra "MY lo" | omega)) (by (first | k_extra "MY lo" | omega)) (by (first | k_extra "MY lo" | omega)) off0 (.inr ⟨_, .head _, rfl, _, rfl⟩) hr hn hb
  · rintro ys news ⟨tn, rfl, hr, hb⟩ D h tk F' N' o1
    clear N1 N0 F0 F1
    rw [Nat.zero_add] at hr
    simp only [List.size_toArray, hvl, List.take_length] at hr
    simp only [List.cons_append, List.nil_append] at N'
    have hys : ys.length ≤ 3 := by rw [hr.length]; exact hl3
    k_steps
    rename_i D1 hq1 F3 N3 l3 kF kN Tc kX
    refine hret D1 ((D1, tup ys) :: tn) _ _ kF (fun p hp => kN p ?_) ⟨ys, ns, hp, ho, .head _, hr.mono fun p hp => .tail _ hp⟩ ?_
    · simp only [List.mem_append, List.mem_cons] at hp ⊢
      rcases hp with h | h | h <;> simp only [h, true_or, or_true]
    · intro p hp q hq
      have hB : @LT.lt Nat _ q.1 B := mem_allLt l1.2.2.2.2 q hq
      simp only [List.mem_cons] at hp
      rcases hp with rfl | hp
      · show @LT.lt Nat _ _ _
        (first | k_extra "MY lo" | omega)
      · have := hb p hp
        show @LT.lt Nat _ _ _
        (first | k_extra "MY lo" | omega)
  · exact ⟨[], rfl, .nil, fun _ h => nomatch h⟩
example : True ∧ True := by w_top off; first | (walk1; done) | exact ⟨trivial, trivial⟩
example : True := by
  k_with_none
  k_with "eval Name" => (k_here; (with_reducible show wpAny _ _ (eval (Expr.Name _ _) (compEnvC _ _ _ _)) _ _ _); k_dflt (first | (name_kind "local"; refine' LCgL.ld_own ?zN ?zm ?zC ?zx ?_ ?zk ?zl ?zd; (case zk => kernel_rfl); (case zl => kernel_rfl); (case zd => kernel_rfl); (case zN => k_asm); (case zm => k_mem); (case zC => assumption); (case zx => assumption); k_whole) | (name_kind "globalImplicit"; first | (refine' LCgL.ld_global ?zF ?zX ?zT ?ze ?_ ?zg ?zk ?zl ?zd; (case zg => kernel_rfl); (case zk => kernel_rfl); (case zl => kernel_rfl); (case zd => kernel_rfl); (case zF => k_asm); (case zX => k_asm); (case zT => k_asm); (case ze => k_is); k_whole) | (refine' LCgL.ld_built ?zF ?zX ?zT ?ze ?zv ?zn ?_ ?zg ?zb ?zk ?zl ?zd; (case zg => kernel_rfl); (case zb => kernel_rfl); (case zk => kernel_rfl); (case zl => kernel_rfl); (case zd => kernel_rfl); (case zF => k_asm); (case zX => k_asm); (case zT => k_asm); (case ze => k_is); (case zv => boot_fast); (case zn => decide); k_whole))))
  k_with "eval Name" => (k_here; (fail_if_success (with_reducible show wpAny _ _ (eval (Expr.Name _ _) (compEnvC _ _ _ _)) _ _ _)); k_dflt (first | (name_kind "local"; refine' nameX_L ?zF ?zv ?_ ?za ?zb ?zc; (case zF => k_asm); (case za => kernel_rfl); (case zb => kernel_rfl); (case zc => kernel_rfl); (case zv => rfl); k_whole) | (name_kind "cell"; refine' nameX_C ?zN ?zl ?zm ?zd ?_ ?za ?zb ?zc; (case za => kernel_rfl); (case zb => kernel_rfl); (case zc => kernel_rfl); (case zN => k_asm); (case zl => rfl); (case zm => k_mem); (case zd => k_asm); k_whole) | (name_kind "globalImplicit"; first | (refine' nameX_K ?zF ?zX ?zT ?ze ?_ ?za ?zb ?zc; (case za => kernel_rfl); (case zb => kernel_rfl); (case zc => kernel_rfl); (case zF => k_asm); (case zX => k_asm); (case zT => k_asm); (case ze => k_is); k_whole) | (refine' nameX_B ?zF ?zX ?zT ?ze ?zv ?zn ?_ ?za ?zb ?zc; (case za => kernel_rfl); (case zb => kernel_rfl); (case zc => kernel_rfl); (case zF => k_asm); (case zX => k_asm); (case zT => k_asm); (case ze => k_is); (case zv => boot_fast); (case zn => decide); k_whole))))
  k_with "ite" => (k_closed; first | (with_reducible refine ite_pos ?zi ?_; (case zi => decide +kernel)) | (with_reducible refine ite_neg ?zi ?_; (case zi => decide +kernel)))
  k_with "getAttr ref" => (k_here; k_dflt (refine' get_own ?zF ?zX ?zI ?zg ?zh ?za ?zn ?zl ?zv ?_; (case zF => k_asm); (case zX => k_asm); (case zI => k_inst); (case zl => k_get); (case zg => k_is); (case zh => k_is); (case za => k_is); (case zn => k_is); (case zv => k_handed); k_whole))
  k_with "spliced" => ((with_reducible show wpAny _ _ (spliced (backTo _ (starEach (_ :: _) _))) _ _ _); k_dflt (refine args_cons ?_))
  k_with "newList" => (k_here; k_dflt (refine' newList_K ?zF ?zN ?_ ?zs; (case zF => k_asm); (case zN => k_asm); (case zs => exact Nat.le_of_ble_eq_true rfl); k_whole); k_extra "M46a0")
  k_with "MY ltp" => ((with_reducible rename @LT.lt Nat _ _ _ ∧ _ => kL); first | (with_reducible first | exact kL.1 | exact kL.2 | exact kL.2.1 | exact kL.2.2 | exact kL.2.2.1 | exact kL.2.2.2 | exact kL.2.2.2.1 | exact kL.2.2.2.2 | exact kL.2.2.2.2.1 | exact kL.2.2.2.2.2 | exact kL.2.2.2.2.2.1 | exact kL.2.2.2.2.2.2 | exact kL.2.2.2.2.2.2.1 | exact kL.2.2.2.2.2.2.2 | exact kL.2.2.2.2.2.2.2.1 | exact kL.2.2.2.2.2.2.2.2 | exact kL.2.2.2.2.2.2.2.2.1 | exact kL.2.2.2.2.2.2.2.2.2 | exact kL.2.2.2.2.2.2.2.2.2.1 | exact kL.2.2.2.2.2.2.2.2.2.2 | exact kL.2.2.2.2.2.2.2.2.2.2.1 | exact kL.2.2.2.2.2.2.2.2.2.2.2 | exact kL.2.2.2.2.2.2.2.2.2.2.2.1 | exact kL.2.2.2.2.2.2.2.2.2.2.2.2 | exact kL.2.2.2.2.2.2.2.2.2.2.2.2.1 | exact kL.2.2.2.2.2.2.2.2.2.2.2.2.2 | exact kL.2.2.2.2.2.2.2.2.2.2.2.2.2.1 | exact kL.2.2.2.2.2.2.2.2.2.2.2.2.2.2 | exact kL.2.2.2.2.2.2.2.2.2.2.2.2.2.2.1 | exact kL.2.2.2.2.2.2.2.2.2.2.2.2.2.2.2 | exact kL.2.2.2.2.2.2.2.2.2.2.2.2.2.2.2.1 | exact kL.2.2.2.2.2.2.2.2.2.2.2.2.2.2.2.2 | exact kL.2.2.2.2.2.2.2.2.2.2.2.2.2.2.2.2.1 | exact kL.2.2.2.2.2.2.2.2.2.2.2.2.2.2.2.2.2 | exact kL.2.2.2.2.2.2.2.2.2.2.2.2.2.2.2.2.2.1 | exact kL.2.2.2.2.2.2.2.2.2.2.2.2.2.2.2.2.2.2 | exact kL.2.2.2.2.2.2.2.2.2.2.2.2.2.2.2.2.2.2.1 | exact kL.2.2.2.2.2.2.2.2.2.2.2.2.2.2.2.2.2.2.2 | exact kL.2.2.2.2.2.2.2.2.2.2.2.2.2.2.2.2.2.2.2.1 | exact kL.2.2.2.2.2.2.2.2.2.2.2.2.2.2.2.2.2.2.2.2 | exact kL.2.2.2.2.2.2.2.2.2.2.2.2.2.2.2.2.2.2.2.2.1 | exact kL.2.2.2.2.2.2.2.2.2.2.2.2.2.2.2.2.2.2.2.2.2 | exact kL.2.2.2.2.2.2.2.2.2.2.2.2.2.2.2.2.2.2.2.2.2.1 | exact kL.2.2.2.2.2.2.2.2.2.2.2.2.2.2.2.2.2.2.2.2.2.2 | exact kL.2.2.2.2.2.2.2.2.2.2.2.2.2.2.2.2.2.2.2.2.2.2.1 | exact kL.2.2.2.2.2.2.2.2.2.2.2.2.2.2.2.2.2.2.2.2.2.2.2) | (clear kL; k_extra "MY ltp"))
  k_with "MY ne" => first | (refine Nat.ne_of_gt ?_; k_extra "MY ltp") | (refine Nat.ne_of_lt ?_; k_extra "MY ltp")
  k_with "newTuple" => (k_here; k_dflt (refine' kup_newTuple ?zF ?zN ?_ ?zs; (case zF => k_asm); (case zN => k_asm); (case zs => kmk_size)); k_extra "M46a0")
  k_with "MY ltq" => first | with_reducible assumption | k_extra "MY ltp" | ((with_reducible refine' Nat.lt_trans ?_ ?klb); (case klb => with_reducible assumption); k_extra "MY ltq") | ((with_reducible refine' Nat.lt_trans ?kla ?_); (case kla => with_reducible assumption); k_extra "MY ltp") | ((with_reducible refine' Nat.lt_succ_of_lt ?_); first | with_reducible assumption | k_extra "MY ltp" | ((with_reducible refine' Nat.lt_succ_of_lt ?_); first | with_reducible assumption | k_extra "MY ltp")) | ((with_reducible refine' Mine.mem_allLt ?_ _ ?klm); (case klm => with_reducible assumption); first | with_reducible assumption | k_extra "MY ltp")
  k_with "MY lo" => first | ((with_reducible show @LT.lt Nat _ _ _); (try dsimp only); k_extra "MY ltq") | ((with_reducible show @Ne Nat _ _); (try dsimp only); first | with_reducible assumption | (refine Ne.symm ?_; with_reducible assumption) | (refine Nat.ne_of_gt ?_; k_extra "MY ltq") | (refine Nat.ne_of_lt ?_; k_extra "MY ltq")) | decide
  k_with "H mem" => first | exact List.Mem.head _ | (refine' List.Mem.tail _ ?_; k_extra "H mem") | ((fail_if_success refine' List.Mem.tail _ ?_); change (_ : Addr × Obj) ∈ (_ : List (Addr × Obj)); first | with_reducible assumption | (with_reducible refine' List.mem_append_left _ ?_; k_extra "H mem") | (with_reducible refine' List.mem_append_right _ ?_; k_extra "H mem"))
  k_with "H room" => ((try simp only [depth_under_make, depth_under_kw, depth_in1, depth_deeper, depth_caller]); (try dsimp only [ktrTop]); first | decide | ((try simp only [Nat.add_assoc, Nat.reduceAdd]); (with_reducible rename _ + _ < recursionLimit => kH); first | exact Mine.room_of kH rfl | exact Mine.room_at kH) | omega)
  k_with "H units" => ((try simp only [units_in1, units_deeper, Around.mark_units, units_caller]); (try dsimp only [ktrTop]); first | decide | ((try simp only [Nat.add_assoc, Nat.reduceAdd]); (with_reducible rename _ + _ < cLine => kH); first | exact Mine.room_of kH rfl | exact Mine.room_at kH) | omega)
  k_with "H ne" => (refine neN ?_; (try dsimp only); first | with_reducible assumption | (refine Ne.symm ?_; with_reducible assumption) | (with_reducible first | exact Nat.ne_of_lt (by assumption) | exact Nat.ne_of_gt (by assumption)) | k_extra "MY ne" | ((with_reducible rename (_ ≠ _ ∧ _ ≠ _ ∧ _ ≠ _) ∧ _ => kOff); first | (simp only [kOff, ne_eq, not_false_eq_true]; done) | (refine Ne.symm ?_; simp only [kOff, ne_eq, not_false_eq_true]; done)) | k_extra "MY lo" | omega)
  trivial
theorem flat_nil : FlatPairs PyData.int [] (kdfD []) := .nil
def GTold (c : List (Int × Int)) (t : Addr) (tw : List (Addr × Obj)) : Prop := ∃ r1 r2 x p q, (t, tup [.ref r1, .ref r2, .ref x, .ref p, .ref q]) ∈ tw ∧ RowsC c r1 tw ∧ RowsC [] r2 tw ∧ (x, tup []) ∈ tw ∧ (p, tup []) ∈ tw ∧ (q, tup []) ∈ tw
theorem GTold.mono {c : List (Int × Int)} {t : Addr} {tw tw' : List (Addr × Obj)} (h : GTold c t tw) (hs : ∀ p ∈ tw, p ∈ tw') : GTold c t tw' := by
  obtain ⟨r1, r2, x, p, q, a, b, d, e, f, g⟩ := h
  exact ⟨r1, r2, x, p, q, hs _ a, b.mono hs, d.mono hs, hs _ e, hs _ f, hs _ g⟩
example : True := by
  k_with "MY enter" => (refine' code_def ?zk1 ?zk2 ?zk3 ?zk4 ?zk5 ?zkA ?zkF ?zkK ?zk6 ?zk7 ?zk8 ?zk9 ?zkB ?_ ?zc2 ?zc3 ?zc4 ?zc5; (case zkA => exact rfl); (case zkF => exact rfl); (case zkK => k_asm); (case zk1 => k_asm); (case zk2 => k_asm); (case zk3 => k_asm); (case zk4 => k_asm); (case zk5 => k_asm); (case zk6 => k_is); (case zk7 => k_is); (case zk8 => ktr_room); (case zk9 => first | exact BindsTo.of_eq rfl | exact binds_K (by k_in) rfl (by k_is) rfl rfl rfl); (case zc5 => decide); (case zkB => exact locs rfl); (case zc2 => exact rfl); (case zc3 => exact rfl); (case zc4 => exact rfl); k_extra "M91c7")
  k_with "MY enterC" => (refine' code_defC ?zk1 ?zk2 ?zk3 ?zk4 ?zk5 ?zkA ?zkF ?zkK ?zk6 ?zk7 ?zk8 ?zk9 ?zkB ?zkD ?_ ?zc2 ?zc3 ?zc4; (case zkA => exact rfl); (case zkF => exact rfl); (case zkK => k_asm); (case zk1 => k_asm); (case zk2 => k_asm); (case zk3 => k_asm); (case zk4 => k_asm); (case zk5 => k_asm); (case zk6 => k_is); (case zk7 => k_is); (case zk8 => ktr_room); (case zk9 => first | exact BindsTo.of_eq rfl | exact binds_K (by k_in) rfl (by k_is) rfl rfl rfl); (case zkB => exact rfl); (case zkD => decide +kernel); (case zc2 => exact rfl); (case zc3 => exact rfl); (case zc4 => exact rfl); k_extra "M289d")
  k_with "MY fn" => (refine wpAny_call ?_; k_dflt (first | k_extra "MY enter" | k_extra "MY enterC"))
  k_with "MY cls" => (k_dflt (refine' call_cls ?zq1 ?zq2 ?zq3 ?zq4 ?zq5 ?zq6 ?_; (case zq1 => k_asm); (case zq2 => k_asm); (case zq3 => k_asm); (case zq4 => k_is); (case zq5 => k_is); (case zq6 => k_is); k_extra "M274b"))
  k_with "MY sub" => repeat' (first | exact List.forall_mem_nil _ | exact Mine.sub_refl | (refine Mine.sub_cons (by k_mem) ?_) | refine Mine.sub_tail ?_)
  k_with "callWith ref" => (k_here; k_dflt (first | refine' callWith_K ?zq1 ?zq2 ?_; (case zq1 => k_asm); (case zq2 => k_is); k_whole | (refine' callWith_K0 (Frag.In.keeps ?zq1 (Fr.keep ?zqF)) ?zq2 ?_; (case zqF => k_asm); (case zq1 => k_asm); (case zq2 => k_is); k_whole) | refine' callWith_K0 ?zq1 ?zq2 ?_; (case zq1 => k_in); (case zq2 => k_is); k_whole))
  k_with "MY lt" => first | assumption | exact Mine.mem_allLt (by assumption) | (refine Mine.mem_allLt ?_; simp only [*]; done)
  k_with "call type:tuple" => (k_here; (with_reducible show wpAny _ _ (call (Value.type _) [Value.ref _]) _ _ _); k_dflt (refine' kde_tupleOf ?zq1 ?zq2 ?zq3 ?zq4 ?zq5 ?_; (case zq1 => k_asm); (case zq2 => k_asm); (case zq3 => exact News.isList (by k_asm) (by k_mem)); (case zq4 => first | (simp only [List.size_toArray]; (first | k_extra "MY lo" | omega)) | (simp only [List.size_toArray, List.length_map] at *; (first | k_extra "MY lo" | omega))); (case zq5 => first | exact List.toList_toArray | exact List.toList_toArray _ | exact Array.toList_toArray _)); k_extra "M46a0")
  k_with "call ref" => k_extra "MY ct0"
  k_with "MY ct0" => (k_here; (with_reducible show wpAny _ _ (call (Value.ref 152) _) _ _ _); k_dflt (refine' Mine.ct0 ?zqm1 ?zqm2 ?zqm3 ?zqi ?zqf ?zqc ?zqlo _ _ _ _ _ _ _ _ _ _ _ _ _ _ _ _ _ ?zqB ?zqF ?zqX ?zqN ?zqT ?zqk ?zqd ?zqu ?_; (case zqB => k_asm); (case zqF => k_asm); (case zqX => k_asm); (case zqN => k_asm); (case zqT => k_asm); (case zqk => first | exact rfl | assumption); (case zqd => ktr_room); (case zqu => ktr_units); (case zqm1 => k_mem); (case zqm2 => k_mem); (case zqm3 => k_mem); (case zqi => k_asm); (case zqf => first | exact Mine.flat_nil | assumption); (case zqc => first | assumption | decide); (case zqlo => k_asm)); k_extra "M67b0")
  trivial
local macro_rules | `(tactic| k_extra "M67b0") => `(tactic| (intro x0 x1 x2 x3 x4 x5 x6 x7; (try dsimp only [List.cons_append] at x5); (try k_sweep)))
theorem gt0 {w : World} {p : Program} {loose : List Str} {mean : ExcName → Option Value} {mg mb : Str → Option Value} {g : Addr} {c : List (Int × Int)} {rest : List (Addr × Obj)}
  (hg : GdefIn w c g rest)
  : ∀ (dp un : Nat) (gd : Option (List Code)) (cn : Str) (cs : Scope) (a : Addr) (ccd : Value) (cl : List (Str × Addr)) (outer : List Env) (A₀ : Around) (base h₀ : Heap) (L : Addr) (m : Str → Option Value) (s : Shared) (Q E : Value → Shared → Prop)
  (_B : Below A₀ base outer h₀) (_F : Fr h₀ L s.heap m) (_X : (hd.heap_39 w.params).In h₀) (_N : News h₀ L s.heap (rest)) (_T : Top p loose mean mg mb h₀) (_hk : cs.kind = .function)
  (_hd : dp + 8 < recursionLimit) (_hu : un + 80 < cLine)
  (_hret : ∀ t tw h' tk', Fr h₀ L h' m → News h₀ L h' (rest ++ tw) → GTold c t tw → (∀ p ∈ tw, ∀ q ∈ rest, q.1 < p.1) → Q (.ref t) { s with heap := h', toks := tk' }) ,
  wpAny (model PySem.Challenge.rw_nu0220_01.row.prog w) (ktrTop dp un gd cn cs L a ccd cl outer) (call (.ref 200) [.ref g]) Q E s := by
  k_fill
  intro dp un gd cn cs a ccd cl outer A₀ base h₀ L m s Q E B F X N T hk hd hu hret
  refine hg.elim ?_
  intro d c1 d1 e1 c2 d2 e2 l q1 q2 k1 k2 k3 k4 k5 j1 j2 kvs o1 o2 o3 o4 n m1 m2 m3 m4 m5 m6 m7 m8 m9 m10 m11 i1 fl1 hc1 i2 i3 i4 lo1 lo2 lo3 lo4
  obtain ⟨i2, i2'⟩ := i2
  obtain ⟨i3, i3'⟩ := i3
  obtain ⟨i4, i4'⟩ := i4
  have NN := news_sub N (sub_cons m5 (sub_cons m8 (sub_cons m9 (sub_cons m10 (sub_cons m11 sub_refl)))))
  have hb0 : ∀ q ∈ rest, @LT.lt Nat _ q.1 s.heap.objs.size := fun q hq => Heap.lt_size (N q hq).1
  clear N m5 m8 m9 m10 m11
  have fi0 : FlatPairs PyData.int [] [] := .nil
  have fs0 : FlatPairs PyData.str [] [] := .nil
  have fi1 : FlatPairs PyData.int [] (kdfD []) := .nil
  k_extra "MY fn"
  k_steps
  rename_i en1 _ _ _ _ _ ys1 _ hL1 _ _ _ _ P1 _ _ _ _ _ _ _ _ _ _ _ _ _ en2 _ _ _ _ _ _ _ hI hL2 _ _ _ _ C1 _ _ _ t1 tw1 _ _ rw1 lt1 t2 tw2 _ _ rw2 lt2 _ _ _ _ _ S1 _ _ T1 _ _ _ _ kF kN _ _
  rename List Value => ys2
  obtain rfl : ys1 = [] := List.eq_nil_of_length_eq_zero (by rw [hL1, List.length_map]; exact en1)
  obtain rfl : ys2 = [] := List.eq_nil_of_length_eq_zero (by rw [hL2, List.length_map]; exact en2)
  have b1 : ∀ q ∈ rest, @LT.lt Nat _ q.1 P1 := mem_allLt (by simp only [*])
  have b2 : ∀ q ∈ rest, @LT.lt Nat _ q.1 C1 := mem_allLt (by simp only [*])
  refine hret T1 ((T1, tup [.ref t1, .ref t2, .ref S1, .ref P1, .ref C1]) :: (S1, tup []) :: (P1, tup []) :: (C1, tup []) :: (tw1 ++ tw2)) _ _ kF (news_sub kN ?_) ⟨t1, t2, S1, P1, C1, .head _, rw1.mono ?_, rw2.mono ?_, .tail _ (.head _), .tail _ (.tail _ (.head _)), .tail _ (.tail _ (.tail _ (.head _)))⟩ ?_
  · intro p hp
    rcases List.mem_append.mp hp with h | h
    · repeat (first | exact List.mem_append_left _ (List.mem_append_left _ h) | apply List.Mem.tail)
    · simp only [List.mem_cons, List.mem_append] at h
      rcases h with rfl | rfl | rfl | rfl | h | h
      · k_mem
      · k_mem
      · k_mem
      · k_mem
      · repeat (first | exact List.mem_append_left _ (List.mem_append_right _ h) | apply List.Mem.tail)
      · repeat (first | exact List.mem_append_right _ h | apply List.Mem.tail)
  · exact fun p hp => .tail _ (.tail _ (.tail _ (.tail _ (List.mem_append_left _ hp))))
  · exact fun p hp => .tail _ (.tail _ (.tail _ (.tail _ (List.mem_append_right _ hp))))
  · intro p hp q hq
    have c1' := b1 q hq
    have c2' := b2 q hq
    simp only [List.mem_cons, List.mem_append] at hp
    rcases hp with rfl | rfl | rfl | rfl | h | h
    · show @LT.lt Nat _ _ _
      (first | k_extra "MY lo" | omega)
    · show @LT.lt Nat _ _ _
      (first | k_extra "MY lo" | omega)
    · exact c1'
    · exact c2'
    · exact lt1 p h q (by repeat (first | exact hq | apply List.Mem.tail))
    · exact lt2 p h q (by repeat (first | exact List.mem_append_left _ hq | apply List.Mem.tail))
example : True ∧ True := by w_top off; first | (walk1; done) | exact ⟨trivial, trivial⟩
example : True := by
  k_with_none
  k_with "eval Name" => (k_here; (with_reducible show wpAny _ _ (eval (Expr.Name _ _) (compEnvC _ _ _ _)) _ _ _); k_dflt (first | (name_kind "local"; refine' LCgL.ld_own ?zN ?zm ?zC ?zx ?_ ?zk ?zl ?zd; (case zk => kernel_rfl); (case zl => kernel_rfl); (case zd => kernel_rfl); (case zN => k_asm); (case zm => k_mem); (case zC => assumption); (case zx => assumption); k_whole) | (name_kind "globalImplicit"; first | (refine' LCgL.ld_global ?zF ?zX ?zT ?ze ?_ ?zg ?zk ?zl ?zd; (case zg => kernel_rfl); (case zk => kernel_rfl); (case zl => kernel_rfl); (case zd => kernel_rfl); (case zF => k_asm); (case zX => k_asm); (case zT => k_asm); (case ze => k_is); k_whole) | (refine' LCgL.ld_built ?zF ?zX ?zT ?ze ?zv ?zn ?_ ?zg ?zb ?zk ?zl ?zd; (case zg => kernel_rfl); (case zb => kernel_rfl); (case zk => kernel_rfl); (case zl => kernel_rfl); (case zd => kernel_rfl); (case zF => k_asm); (case zX => k_asm); (case zT => k_asm); (case ze => k_is); (case zv => boot_fast); (case zn => decide); k_whole))))
  k_with "eval Name" => (k_here; (fail_if_success (with_reducible show wpAny _ _ (eval (Expr.Name _ _) (compEnvC _ _ _ _)) _ _ _)); k_dflt (first | (name_kind "local"; refine' nameX_L ?zF ?zv ?_ ?za ?zb ?zc; (case zF => k_asm); (case za => kernel_rfl); (case zb => kernel_rfl); (case zc => kernel_rfl); (case zv => rfl); k_whole) | (name_kind "cell"; refine' nameX_C ?zN ?zl ?zm ?zd ?_ ?za ?zb ?zc; (case za => kernel_rfl); (case zb => kernel_rfl); (case zc => kernel_rfl); (case zN => k_asm); (case zl => rfl); (case zm => k_mem); (case zd => k_asm); k_whole) | (name_kind "globalImplicit"; first | (refine' nameX_K ?zF ?zX ?zT ?ze ?_ ?za ?zb ?zc; (case za => kernel_rfl); (case zb => kernel_rfl); (case zc => kernel_rfl); (case zF => k_asm); (case zX => k_asm); (case zT => k_asm); (case ze => k_is); k_whole) | (refine' nameX_B ?zF ?zX ?zT ?ze ?zv ?zn ?_ ?za ?zb ?zc; (case za => kernel_rfl); (case zb => kernel_rfl); (case zc => kernel_rfl); (case zF => k_asm); (case zX => k_asm); (case zT => k_asm); (case ze => k_is); (case zv => boot_fast); (case zn => decide); k_whole))))
  k_with "ite" => (k_closed; first | (with_reducible refine ite_pos ?zi ?_; (case zi => decide +kernel)) | (with_reducible refine ite_neg ?zi ?_; (case zi => decide +kernel)))
  k_with "getAttr ref" => (k_here; k_dflt (refine' get_own ?zF ?zX ?zI ?zg ?zh ?za ?zn ?zl ?zv ?_; (case zF => k_asm); (case zX => k_asm); (case zI => k_inst); (case zl => k_get); (case zg => k_is); (case zh => k_is); (case za => k_is); (case zn => k_is); (case zv => k_handed); k_whole))
  k_with "spliced" => ((with_reducible show wpAny _ _ (spliced (backTo _ (starEach (_ :: _) _))) _ _ _); k_dflt (refine args_cons ?_))
  k_with "newList" => (k_here; k_dflt (refine' newList_K ?zF ?zN ?_ ?zs; (case zF => k_asm); (case zN => k_asm); (case zs => exact Nat.le_of_ble_eq_true rfl); k_whole); k_extra "M46a0")
  k_with "MY ltp" => ((with_reducible rename @LT.lt Nat _ _ _ ∧ _ => kL); first | (with_reducible first | exact kL.1 | exact kL.2 | exact kL.2.1 | exact kL.2.2 | exact kL.2.2.1 | exact kL.2.2.2 | exact kL.2.2.2.1 | exact kL.2.2.2.2 | exact kL.2.2.2.2.1 | exact kL.2.2.2.2.2 | exact kL.2.2.2.2.2.1 | exact kL.2.2.2.2.2.2 | exact kL.2.2.2.2.2.2.1 | exact kL.2.2.2.2.2.2.2 | exact kL.2.2.2.2.2.2.2.1 | exact kL.2.2.2.2.2.2.2.2 | exact kL.2.2.2.2.2.2.2.2.1 | exact kL.2.2.2.2.2.2.2.2.2 | exact kL.2.2.2.2.2.2.2.2.2.1 | exact kL.2.2.2.2.2.2.2.2.2.2 | exact kL.2.2.2.2.2.2.2.2.2.2.1 | exact kL.2.2.2.2.2.2.2.2.2.2.2 | exact kL.2.2.2.2.2.2.2.2.2.2.2.1 | exact kL.2.2.2.2.2.2.2.2.2.2.2.2 | exact kL.2.2.2.2.2.2.2.2.2.2.2.2.1 | exact kL.2.2.2.2.2.2.2.2.2.2.2.2.2 | exact kL.2.2.2.2.2.2.2.2.2.2.2.2.2.1 | exact kL.2.2.2.2.2.2.2.2.2.2.2.2.2.2 | exact kL.2.2.2.2.2.2.2.2.2.2.2.2.2.2.1 | exact kL.2.2.2.2.2.2.2.2.2.2.2.2.2.2.2 | exact kL.2.2.2.2.2.2.2.2.2.2.2.2.2.2.2.1 | exact kL.2.2.2.2.2.2.2.2.2.2.2.2.2.2.2.2 | exact kL.2.2.2.2.2.2.2.2.2.2.2.2.2.2.2.2.1 | exact kL.2.2.2.2.2.2.2.2.2.2.2.2.2.2.2.2.2 | exact kL.2.2.2.2.2.2.2.2.2.2.2.2.2.2.2.2.2.1 | exact kL.2.2.2.2.2.2.2.2.2.2.2.2.2.2.2.2.2.2 | exact kL.2.2.2.2.2.2.2.2.2.2.2.2.2.2.2.2.2.2.1 | exact kL.2.2.2.2.2.2.2.2.2.2.2.2.2.2.2.2.2.2.2 | exact kL.2.2.2.2.2.2.2.2.2.2.2.2.2.2.2.2.2.2.2.1 | exact kL.2.2.2.2.2.2.2.2.2.2.2.2.2.2.2.2.2.2.2.2 | exact kL.2.2.2.2.2.2.2.2.2.2.2.2.2.2.2.2.2.2.2.2.1 | exact kL.2.2.2.2.2.2.2.2.2.2.2.2.2.2.2.2.2.2.2.2.2 | exact kL.2.2.2.2.2.2.2.2.2.2.2.2.2.2.2.2.2.2.2.2.2.1 | exact kL.2.2.2.2.2.2.2.2.2.2.2.2.2.2.2.2.2.2.2.2.2.2 | exact kL.2.2.2.2.2.2.2.2.2.2.2.2.2.2.2.2.2.2.2.2.2.2.1 | exact kL.2.2.2.2.2.2.2.2.2.2.2.2.2.2.2.2.2.2.2.2.2.2.2) | (clear kL; k_extra "MY ltp"))
  k_with "MY ne" => first | (refine Nat.ne_of_gt ?_; k_extra "MY ltp") | (refine Nat.ne_of_lt ?_; k_extra "MY ltp")
  k_with "newTuple" => (k_here; k_dflt (refine' kup_newTuple ?zF ?zN ?_ ?zs; (case zF => k_asm); (case zN => k_asm); (case zs => kmk_size)); k_extra "M46a0")
  k_with "MY ltq" => first | with_reducible assumption | k_extra "MY ltp" | ((with_reducible refine' Nat.lt_trans ?_ ?klb); (case klb => with_reducible assumption); k_extra "MY ltq") | ((with_reducible refine' Nat.lt_trans ?kla ?_); (case kla => with_reducible assumption); k_extra "MY ltp") | ((with_reducible refine' Nat.lt_succ_of_lt ?_); first | with_reducible assumption | k_extra "MY ltp" | ((with_reducible refine' Nat.lt_succ_of_lt ?_); first | with_reducible assumption | k_extra "MY ltp")) | ((with_reducible refine' Mine.mem_allLt ?_ _ ?klm); (case klm => with_reducible assumption); first | with_reducible assumption | k_extra "MY ltp")
  k_with "MY lo" => first | ((with_reducible show @LT.lt Nat _ _ _); (try dsimp only); k_extra "MY ltq") | ((with_reducible show @Ne Nat _ _); (try dsimp only); first | with_reducible assumption | (refine Ne.symm ?_; with_reducible assumption) | (refine Nat.ne_of_gt ?_; k_extra "MY ltq") | (refine Nat.ne_of_lt ?_; k_extra "MY ltq")) | decide
  k_with "H mem" => first | exact List.Mem.head _ | (refine' List.Mem.tail _ ?_; k_extra "H mem") | ((fail_if_success refine' List.Mem.tail _ ?_); change (_ : Addr × Obj) ∈ (_ : List (Addr × Obj)); first | with_reducible assumption | (with_reducible refine' List.mem_append_left _ ?_; k_extra "H mem") | (with_reducible refine' List.mem_append_right _ ?_; k_extra "H mem"))
  k_with "H room" => ((try simp only [depth_under_make, depth_under_kw, depth_in1, depth_deeper, depth_caller]); (try dsimp only [ktrTop]); first | decide | ((try simp only [Nat.add_assoc, Nat.reduceAdd]); (with_reducible rename _ + _ < recursionLimit => kH); first | exact Mine.room_of kH rfl | exact Mine.room_at kH) | omega)
  k_with "H units" => ((try simp only [units_in1, units_deeper, Around.mark_units, units_caller]); (try dsimp only [ktrTop]); first | decide | ((try simp only [Nat.add_assoc, Nat.reduceAdd]); (with_reducible rename _ + _ < cLine => kH); first | exact Mine.room_of kH rfl | exact Mine.room_at kH) | omega)
  k_with "H ne" => (refine neN ?_; (try dsimp only); first | with_reducible assumption | (refine Ne.symm ?_; with_reducible assumption) | (with_reducible first | exact Nat.ne_of_lt (by assumption) | exact Nat.ne_of_gt (by assumption)) | k_extra "MY ne" | ((with_reducible rename (_ ≠ _ ∧ _ ≠ _ ∧ _ ≠ _) ∧ _ => kOff); first | (simp only [kOff, ne_eq, not_false_eq_true]; done) | (refine Ne.symm ?_; simp only [kOff, ne_eq, not_false_eq_true]; done)) | k_extra "MY lo" | omega)
  trivial
section
variable {prog : Program} {w : World} {A : Around} {E : Value → Shared → Prop} {s : Shared} {h₀ : Heap} {L t t' : Addr} {m : Str → Option Value} {news tl tl' : List (Addr × Obj)} {c : List (Int × Int)} {Q : Value → Shared → Prop}
theorem tup_same {a b : Addr} {n n' : Nat} {xs : Array Value} (N : News h₀ L s.heap news) (h1 : (a, ({ cls := .type "tuple", data := .seq xs n } : Obj)) ∈ news) (h2 : (b, ({ cls := .type "tuple", data := .seq xs n' } : Obj)) ∈ news) (hu : A.units < cLine) : SeqAt.EqAt A s (.ref a) (.ref b) true := by
  by_cases h : a = b
  · subst h; exact SeqAt.EqAt.same _
  · exact SeqAt.EqAt.of_refs h (eqAt_tup N h1 h2 hu rfl fun _ _ _ => SeqAt.EqAt.same _)
theorem gt_items (N : News h₀ L s.heap news) (s1 : ∀ p ∈ tl, p ∈ news) (s2 : ∀ p ∈ tl', p ∈ news) (hu : A.units + 3 < cLine) {r1 r2 x p q r1' r2' x' p' q' : Addr} (a : RowsC c r1 tl) (b : RowsC [] r2 tl) (d : (x, tup []) ∈ tl) (e : (p, tup []) ∈ tl) (f : (q, tup []) ∈ tl) (a' : RowsC c r1' tl') (b' : RowsC [] r2' tl') (d' : (x', tup []) ∈ tl') (e' : (p', tup []) ∈ tl') (f' : (q', tup []) ∈ tl') :
    ∀ j (h1 : j < #[Value.ref r1, .ref r2, .ref x, .ref p, .ref q].size) (h2 : j < #[Value.ref r1', .ref r2', .ref x', .ref p', .ref q'].size), SeqAt.EqAt A.in1 s #[Value.ref r1, .ref r2, .ref x, .ref p, .ref q][j] #[Value.ref r1', .ref r2', .ref x', .ref p', .ref q'][j] true
  | 0, _, _ => rowsC_eq N s1 s2 (by rw [units_in1]; (first | k_extra "MY lo" | omega)) a a'
  | 1, _, _ => rowsC_eq N s1 s2 (by rw [units_in1]; (first | k_extra "MY lo" | omega)) b b'
  | 2, _, _ => tup_same N (s1 _ d) (s2 _ d') (by rw [units_in1]; (first | k_extra "MY lo" | omega))
  | 3, _, _ => tup_same N (s1 _ e) (s2 _ e') (by rw [units_in1]; (first | k_extra "MY lo" | omega))
  | 4, _, _ => tup_same N (s1 _ f) (s2 _ f') (by rw [units_in1]; (first | k_extra "MY lo" | omega))
  | _ + 5, h, _ => absurd h (by simp)
theorem gt_eq (N : News h₀ L s.heap news) (s1 : ∀ p ∈ tl, p ∈ news) (s2 : ∀ p ∈ tl', p ∈ news) (hu : A.units + 3 < cLine) (h : GTold c t tl) (h' : GTold c t' tl') : SeqAt.EqAt A s (.ref t) (.ref t') true := by
  by_cases hq : t = t'
  · subst hq; exact SeqAt.EqAt.same _
  · obtain ⟨r1, r2, x, p, q, m, a, b, d, e, f⟩ := h
    obtain ⟨r1', r2', x', p', q', m', a', b', d', e', f'⟩ := h'
    exact SeqAt.EqAt.of_refs hq (eqAt_tup N (s1 _ m) (s2 _ m') (by (first | k_extra "MY lo" | omega)) rfl (gt_items N s1 s2 hu a b d e f a' b' d' e' f'))
theorem gt_ne_same (N : News h₀ L s.heap news) (s1 : ∀ p ∈ tl, p ∈ news) (s2 : ∀ p ∈ tl', p ∈ news) (hu : A.units + 3 < cLine) (h : GTold c t tl) (h' : GTold c t' tl') (k : Q (.bool false) s) : wpAny (model prog w) A (compareOp .NotEq (.ref t) (.ref t')) Q E s := by
  obtain ⟨r1, r2, x, p, q, m, a, b, d, e, f⟩ := h
  obtain ⟨r1', r2', x', p', q', m', a', b', d', e', f'⟩ := h'
  exact neAt_tup N (s1 _ m) (s2 _ m') (by (first | k_extra "MY lo" | omega)) rfl (gt_items N s1 s2 hu a b d e f a' b' d' e' f') k
theorem rows_len {r : Addr} (h : RowsC c r tl) : ∃ ys : List Value, (r, tup ys) ∈ tl ∧ ys.length = c.length := by
  obtain ⟨ys, ns, hp, _, hm, hr⟩ := h
  exact ⟨ys, hm, by rw [hr.length, hp.length_eq, List.length_map]⟩
theorem rows_ne {r r' : Addr} {c' : List (Int × Int)} (N : News h₀ L s.heap news) (s1 : ∀ p ∈ tl, p ∈ news) (s2 : ∀ p ∈ tl', p ∈ news) (hu : A.units < cLine) (hl : c'.length = 0) (hl' : c.length ≠ 0) (a : RowsC c r tl) (a' : RowsC c' r' tl') : SeqAt.EqAt A s (.ref r) (.ref r') false := by
  obtain ⟨ys, hm, hy⟩ := rows_len a
  obtain ⟨ys', hm', hy'⟩ := rows_len a'
  have hne : r ≠ r' := by
    rintro rfl
    have e1 := (N _ (s1 _ hm)).1
    rw [show s.heap.get? r = _ from (N _ (s2 _ hm')).1] at e1
    injection e1 with e1
    injection e1 with _ _ e1 _
    injection e1 with e1 _
    have := congrArg Array.size e1
    simp only [List.size_toArray] at this
    (first | k_extra "MY lo" | omega)
  refine SeqAt.EqAt.of_refs hne ?_
  have := SeqAt.RcAt.tuples (A := A) (isTup_news N (s1 _ hm)) (isTup_news N (s2 _ hm')) hu (e := fun _ => true) (fun j h1 h2 => absurd h2 (by simp only [List.size_toArray]; (first | k_extra "MY lo" | omega)))
  rw [show (ys.toArray.size == ys'.toArray.size) = false from by simp only [List.size_toArray, beq_eq_false_iff_ne]; (first | k_extra "MY lo" | omega), Bool.and_false] at this
  exact this
theorem gt_ne_diff {c' : List (Int × Int)} (hl : c'.length = 0) (hl' : c.length ≠ 0) (N : News h₀ L s.heap news) (s1 : ∀ p ∈ tl, p ∈ news) (s2 : ∀ p ∈ tl', p ∈ news) (hu : A.units + 3 < cLine) (h : GTold c t tl) (h' : GTold c' t' tl') (k : Q (.bool true) s) : wpAny (model prog w) A (compareOp .NotEq (.ref t) (.ref t')) Q E s := by
  obtain ⟨r1, r2, x, p, q, m, a, b, d, e, f⟩ := h
  obtain ⟨r1', r2', x', p', q', m', a', b', d', e', f'⟩ := h'
  have := SeqAt.RcNeAt.tuples (A := A) (isTup_news N (s1 _ m)) (isTup_news N (s2 _ m')) (by (first | k_extra "MY lo" | omega)) (e := fun j => j != 0) (fun j h1 h2 => by
    match j, h1, h2 with
    | 0, _, _ => exact rows_ne N s1 s2 (by rw [units_in1]; (first | k_extra "MY lo" | omega)) hl hl' a a'
    | 1, _, _ => exact rowsC_eq N s1 s2 (by rw [units_in1]; (first | k_extra "MY lo" | omega)) b b'
    | 2, _, _ => exact tup_same N (s1 _ d) (s2 _ d') (by rw [units_in1]; (first | k_extra "MY lo" | omega))
    | 3, _, _ => exact tup_same N (s1 _ e) (s2 _ e') (by rw [units_in1]; (first | k_extra "MY lo" | omega))
    | 4, _, _ => exact tup_same N (s1 _ f) (s2 _ f') (by rw [units_in1]; (first | k_extra "MY lo" | omega))
    | _ + 5, h, _ => exact absurd h (by simp))
  exact this prog w E Q k
section
variable {w : World} {A : Around} {E : Value → Shared → Prop} {s : Shared} {h₀ : Heap} {L : Addr} {m : Str → Option Value} {all : List (Addr × Obj)}
theorem gi_meth {g : Addr} {c : List (Int × Int)} {gw : List (Addr × Obj)} {pl : Sem Bool} {Q : Value × List Value → Shared → Prop} (F : Fr h₀ L s.heap m) (N : News h₀ L s.heap all) (hg : GdefIn w c g gw) (hs : ∀ p ∈ gw, p ∈ all) (h : Q (.ref 200, [.ref g]) s) :
    ∀ (_X : (hd.heap_39 w.params).In h₀), wpAny (model PySem.Challenge.rw_nu0220_01.row.prog w) A (getMethod (.ref g) (Str.ofString "told") pl) Q E s := by
  k_fill
  intro X
  refine hg.elim ?_
  intro d _ _ _ _ _ _ _ _ _ _ _ _ _ _ _ _ _ _ _ _ _ _ m1 m2 _ _ _ _ _ _ _ _ _ _ _ _ _ _ _ _ _ _ _
  refine method_inst F X (InstAt.of_news N (hs _ m1) (hs _ m2)) ?_ ?_ ?_ ?_ h
  · k_is
  · k_is
  · k_is
  · k_get
end
end
example : True ∧ True := by w_top off; first | (walk1; done) | exact ⟨trivial, trivial⟩
example : True := by
  k_with_none
  k_with "eval Name" => (k_here; (with_reducible show wpAny _ _ (eval (Expr.Name _ _) (compEnvC _ _ _ _)) _ _ _); k_dflt (first | (name_kind "local"; refine' LCgL.ld_own ?zN ?zm ?zC ?zx ?_ ?zk ?zl ?zd; (case zk => kernel_rfl); (case zl => kernel_rfl); (case zd => kernel_rfl); (case zN => k_asm); (case zm => k_mem); (case zC => assumption); (case zx => assumption); k_whole) | (name_kind "globalImplicit"; first | (refine' LCgL.ld_global ?zF ?zX ?zT ?ze ?_ ?zg ?zk ?zl ?zd; (case zg => kernel_rfl); (case zk => kernel_rfl); (case zl => kernel_rfl); (case zd => kernel_rfl); (case zF => k_asm); (case zX => k_asm); (case zT => k_asm); (case ze => k_is); k_whole) | (refine' LCgL.ld_built ?zF ?zX ?zT ?ze ?zv ?zn ?_ ?zg ?zb ?zk ?zl ?zd; (case zg => kernel_rfl); (case zb => kernel_rfl); (case zk => kernel_rfl); (case zl => kernel_rfl); (case zd => kernel_rfl); (case zF => k_asm); (case zX => k_asm); (case zT => k_asm); (case ze => k_is); (case zv => boot_fast); (case zn => decide); k_whole))))
  k_with "eval Name" => (k_here; (fail_if_success (with_reducible show wpAny _ _ (eval (Expr.Name _ _) (compEnvC _ _ _ _)) _ _ _)); k_dflt (first | (name_kind "local"; refine' nameX_L ?zF ?zv ?_ ?za ?zb ?zc; (case zF => k_asm); (case za => kernel_rfl); (case zb => kernel_rfl); (case zc => kernel_rfl); (case zv => rfl); k_whole) | (name_kind "cell"; refine' nameX_C ?zN ?zl ?zm ?zd ?_ ?za ?zb ?zc; (case za => kernel_rfl); (case zb => kernel_rfl); (case zc => kernel_rfl); (case zN => k_asm); (case zl => rfl); (case zm => k_mem); (case zd => k_asm); k_whole) | (name_kind "globalImplicit"; first | (refine' nameX_K ?zF ?zX ?zT ?ze ?_ ?za ?zb ?zc; (case za => kernel_rfl); (case zb => kernel_rfl); (case zc => kernel_rfl); (case zF => k_asm); (case zX => k_asm); (case zT => k_asm); (case ze => k_is); k_whole) | (refine' nameX_B ?zF ?zX ?zT ?ze ?zv ?zn ?_ ?za ?zb ?zc; (case za => kernel_rfl); (case zb => kernel_rfl); (case zc => kernel_rfl); (case zF => k_asm); (case zX => k_asm); (case zT => k_asm); (case ze => k_is); (case zv => boot_fast); (case zn => decide); k_whole))))
  k_with "ite" => (k_closed; first | (with_reducible refine ite_pos ?zi ?_; (case zi => decide +kernel)) | (with_reducible refine ite_neg ?zi ?_; (case zi => decide +kernel)))
  k_with "getAttr ref" => (k_here; k_dflt (refine' get_own ?zF ?zX ?zI ?zg ?zh ?za ?zn ?zl ?zv ?_; (case zF => k_asm); (case zX => k_asm); (case zI => k_inst); (case zl => k_get); (case zg => k_is); (case zh => k_is); (case za => k_is); (case zn => k_is); (case zv => k_handed); k_whole))
  k_with "spliced" => ((with_reducible show wpAny _ _ (spliced (backTo _ (starEach (_ :: _) _))) _ _ _); k_dflt (refine args_cons ?_))
  k_with "newList" => (k_here; k_dflt (refine' newList_K ?zF ?zN ?_ ?zs; (case zF => k_asm); (case zN => k_asm); (case zs => exact Nat.le_of_ble_eq_true rfl); k_whole); k_extra "M46a0")
  k_with "MY ltp" => ((with_reducible rename @LT.lt Nat _ _ _ ∧ _ => kL); first | (with_reducible first | exact kL.1 | exact kL.2 | exact kL.2.1 | exact kL.2.2 | exact kL.2.2.1 | exact kL.2.2.2 | exact kL.2.2.2.1 | exact kL.2.2.2.2 | exact kL.2.2.2.2.1 | exact kL.2.2.2.2.2 | exact kL.2.2.2.2.2.1 | exact kL.2.2.2.2.2.2 | exact kL.2.2.2.2.2.2.1 | exact kL.2.2.2.2.2.2.2 | exact kL.2.2.2.2.2.2.2.1 | exact kL.2.2.2.2.2.2.2.2 | exact kL.2.2.2.2.2.2.2.2.1 | exact kL.2.2.2.2.2.2.2.2.2 | exact kL.2.2.2.2.2.2.2.2.2.1 | exact kL.2.2.2.2.2.2.2.2.2.2 | exact kL.2.2.2.2.2.2.2.2.2.2.1 | exact kL.2.2.2.2.2.2.2.2.2.2.2 | exact kL.2.2.2.2.2.2.2.2.2.2.2.1 | exact kL.2.2.2.2.2.2.2.2.2.2.2.2 | exact kL.2.2.2.2.2.2.2.2.2.2.2.2.1 | exact kL.2.2.2.2.2.2.2.2.2.2.2.2.2 | exact kL.2.2.2.2.2.2.2.2.2.2.2.2.2.1 | exact kL.2.2.2.2.2.2.2.2.2.2.2.2.2.2 | exact kL.2.2.2.2.2.2.2.2.2.2.2.2.2.2.1 | exact kL.2.2.2.2.2.2.2.2.2.2.2.2.2.2.2 | exact kL.2.2.2.2.2.2.2.2.2.2.2.2.2.2.2.1 | exact kL.2.2.2.2.2.2.2.2.2.2.2.2.2.2.2.2 | exact kL.2.2.2.2.2.2.2.2.2.2.2.2.2.2.2.2.1 | exact kL.2.2.2.2.2.2.2.2.2.2.2.2.2.2.2.2.2 | exact kL.2.2.2.2.2.2.2.2.2.2.2.2.2.2.2.2.2.1 | exact kL.2.2.2.2.2.2.2.2.2.2.2.2.2.2.2.2.2.2 | exact kL.2.2.2.2.2.2.2.2.2.2.2.2.2.2.2.2.2.2.1 | exact kL.2.2.2.2.2.2.2.2.2.2.2.2.2.2.2.2.2.2.2 | exact kL.2.2.2.2.2.2.2.2.2.2.2.2.2.2.2.2.2.2.2.1 | exact kL.2.2.2.2.2.2.2.2.2.2.2.2.2.2.2.2.2.2.2.2 | exact kL.2.2.2.2.2.2.2.2.2.2.2.2.2.2.2.2.2.2.2.2.1 | exact kL.2.2.2.2.2.2.2.2.2.2.2.2.2.2.2.2.2.2.2.2.2 | exact kL.2.2.2.2.2.2.2.2.2.2.2.2.2.2.2.2.2.2.2.2.2.1 | exact kL.2.2.2.2.2.2.2.2.2.2.2.2.2.2.2.2.2.2.2.2.2.2 | exact kL.2.2.2.2.2.2.2.2.2.2.2.2.2.2.2.2.2.2.2.2.2.2.1 | exact kL.2.2.2.2.2.2.2.2.2.2.2.2.2.2.2.2.2.2.2.2.2.2.2) | (clear kL; k_extra "MY ltp"))
  k_with "MY ne" => first | (refine Nat.ne_of_gt ?_; k_extra "MY ltp") | (refine Nat.ne_of_lt ?_; k_extra "MY ltp")
  k_with "newTuple" => (k_here; k_dflt (refine' kup_newTuple ?zF ?zN ?_ ?zs; (case zF => k_asm); (case zN => k_asm); (case zs => kmk_size)); k_extra "M46a0")
  k_with "MY ltq" => first | with_reducible assumption | k_extra "MY ltp" | ((with_reducible refine' Nat.lt_trans ?_ ?klb); (case klb => with_reducible assumption); k_extra "MY ltq") | ((with_reducible refine' Nat.lt_trans ?kla ?_); (case kla => with_reducible assumption); k_extra "MY ltp") | ((with_reducible refine' Nat.lt_succ_of_lt ?_); first | with_reducible assumption | k_extra "MY ltp" | ((with_reducible refine' Nat.lt_succ_of_lt ?_); first | with_reducible assumption | k_extra "MY ltp")) | ((with_reducible refine' Mine.mem_allLt ?_ _ ?klm); (case klm => with_reducible assumption); first | with_reducible assumption | k_extra "MY ltp")
  k_with "MY lo" => first | ((with_reducible show @LT.lt Nat _ _ _); (try dsimp only); k_extra "MY ltq") | ((with_reducible show @Ne Nat _ _); (try dsimp only); first | with_reducible assumption | (refine Ne.symm ?_; with_reducible assumption) | (refine Nat.ne_of_gt ?_; k_extra "MY ltq") | (refine Nat.ne_of_lt ?_; k_extra "MY ltq")) | decide
  k_with "H mem" => first | exact List.Mem.head _ | (refine' List.Mem.tail _ ?_; k_extra "H mem") | ((fail_if_success refine' List.Mem.tail _ ?_); change (_ : Addr × Obj) ∈ (_ : List (Addr × Obj)); first | with_reducible assumption | (with_reducible refine' List.mem_append_left _ ?_; k_extra "H mem") | (with_reducible refine' List.mem_append_right _ ?_; k_extra "H mem"))
  k_with "H room" => ((try simp only [depth_under_make, depth_under_kw, depth_in1, depth_deeper, depth_caller]); (try dsimp only [ktrTop]); first | decide | ((try simp only [Nat.add_assoc, Nat.reduceAdd]); (with_reducible rename _ + _ < recursionLimit => kH); first | exact Mine.room_of kH rfl | exact Mine.room_at kH) | omega)
  k_with "H units" => ((try simp only [units_in1, units_deeper, Around.mark_units, units_caller]); (try dsimp only [ktrTop]); first | decide | ((try simp only [Nat.add_assoc, Nat.reduceAdd]); (with_reducible rename _ + _ < cLine => kH); first | exact Mine.room_of kH rfl | exact Mine.room_at kH) | omega)
  k_with "H ne" => (refine neN ?_; (try dsimp only); first | with_reducible assumption | (refine Ne.symm ?_; with_reducible assumption) | (with_reducible first | exact Nat.ne_of_lt (by assumption) | exact Nat.ne_of_gt (by assumption)) | k_extra "MY ne" | ((with_reducible rename (_ ≠ _ ∧ _ ≠ _ ∧ _ ≠ _) ∧ _ => kOff); first | (simp only [kOff, ne_eq, not_false_eq_true]; done) | (refine Ne.symm ?_; simp only [kOff, ne_eq, not_false_eq_true]; done)) | k_extra "MY lo" | omega)
  trivial
theorem sub_appR {α : Type} {l l' : List α} : ∀ p ∈ l, p ∈ l' ++ l := fun _ h => List.mem_append_right _ h
theorem sub_left {α : Type} {l l' l'' : List α} (h : ∀ p ∈ l, p ∈ l') : ∀ p ∈ l, p ∈ l' ++ l'' := fun p hp => List.mem_append_left _ (h p hp)
theorem sub_appL {α : Type} {l l' : List α} : ∀ p ∈ l, p ∈ l ++ l' := fun _ h => List.mem_append_left _ h
example : True := by
  k_with "MY enter" => (refine' code_def ?zk1 ?zk2 ?zk3 ?zk4 ?zk5 ?zkA ?zkF ?zkK ?zk6 ?zk7 ?zk8 ?zk9 ?zkB ?_ ?zc2 ?zc3 ?zc4 ?zc5; (case zkA => exact rfl); (case zkF => exact rfl); (case zkK => k_asm); (case zk1 => k_asm); (case zk2 => k_asm); (case zk3 => k_asm); (case zk4 => k_asm); (case zk5 => k_asm); (case zk6 => k_is); (case zk7 => k_is); (case zk8 => ktr_room); (case zk9 => first | exact BindsTo.of_eq rfl | exact binds_K (by k_in) rfl (by k_is) rfl rfl rfl); (case zc5 => decide); (case zkB => exact locs rfl); (case zc2 => exact rfl); (case zc3 => exact rfl); (case zc4 => exact rfl); k_extra "M91c7")
  k_with "MY enterC" => (refine' code_defC ?zk1 ?zk2 ?zk3 ?zk4 ?zk5 ?zkA ?zkF ?zkK ?zk6 ?zk7 ?zk8 ?zk9 ?zkB ?zkD ?_ ?zc2 ?zc3 ?zc4; (case zkA => exact rfl); (case zkF => exact rfl); (case zkK => k_asm); (case zk1 => k_asm); (case zk2 => k_asm); (case zk3 => k_asm); (case zk4 => k_asm); (case zk5 => k_asm); (case zk6 => k_is); (case zk7 => k_is); (case zk8 => ktr_room); (case zk9 => first | exact BindsTo.of_eq rfl | exact binds_K (by k_in) rfl (by k_is) rfl rfl rfl); (case zkB => exact rfl); (case zkD => decide +kernel); (case zc2 => exact rfl); (case zc3 => exact rfl); (case zc4 => exact rfl); k_extra "M289d")
  k_with "MY fn" => (refine wpAny_call ?_; k_dflt (first | k_extra "MY enter" | k_extra "MY enterC"))
  k_with "MY cls" => (k_dflt (refine' call_cls ?zq1 ?zq2 ?zq3 ?zq4 ?zq5 ?zq6 ?_; (case zq1 => k_asm); (case zq2 => k_asm); (case zq3 => k_asm); (case zq4 => k_is); (case zq5 => k_is); (case zq6 => k_is); k_extra "M274b"))
  k_with "MY sub" => repeat' (first | exact List.forall_mem_nil _ | exact Mine.sub_refl | (refine Mine.sub_cons (by k_mem) ?_) | refine Mine.sub_tail ?_)
  k_with "callWith ref" => (k_here; k_dflt (first | refine' callWith_K ?zq1 ?zq2 ?_; (case zq1 => k_asm); (case zq2 => k_is); k_whole | (refine' callWith_K0 (Frag.In.keeps ?zq1 (Fr.keep ?zqF)) ?zq2 ?_; (case zqF => k_asm); (case zq1 => k_asm); (case zq2 => k_is); k_whole) | refine' callWith_K0 ?zq1 ?zq2 ?_; (case zq1 => k_in); (case zq2 => k_is); k_whole))
  k_with "MY lt" => first | assumption | exact Mine.mem_allLt (by assumption) | (refine Mine.mem_allLt ?_; simp only [*]; done)
  k_with "MY tl0" => repeat' (with_reducible first | exact Mine.sub_refl | refine Mine.sub_tail ?_)
  k_with "And" => ((with_reducible show PySem.W.FnAt _ _ ∧ _); k_dflt (refine' ⟨ro_fn ?zqr ?zqs ?zqN, ?_⟩; (case zqr => with_reducible assumption); (case zqN => k_asm); (case zqs => first | (with_reducible exact Mine.sub_refl) | k_extra "MY tl")); try dsimp only [List.nil_append, List.cons_append])
  k_with "callWith ref" => (k_here; k_dflt (first | (refine' callWith_K ?zq1 ?zq2 ?_; (case zq1 => k_asm); (case zq2 => k_is); k_whole) | (refine' callWith_K0 (Frag.In.keeps ?zq1 (Fr.keep ?zqF)) ?zq2 ?_; (case zqF => k_asm); (case zq1 => k_asm); (case zq2 => k_is); k_whole) | (refine' callWith_K0 ?zq1 ?zq2 ?_; (case zq1 => k_in); (case zq2 => k_is); k_whole) | (refine' callWith_F ?zq1 ?_; (case zq1 => refine' Mine.ro_fn ?zqr ?zqs ?zqN; (case zqr => with_reducible assumption); (case zqN => k_asm); (case zqs => first | (with_reducible exact Mine.sub_refl) | k_extra "MY tl")); k_whole)))
  k_with "call ref" => (k_here; k_dflt (refine' Mine.ro_call (by with_reducible assumption) ?zqs ?zqB ?zqF ?zqX ?zqN ?zqT ?zqk ?zqd ?zqu ?_; (case zqB => k_asm); (case zqF => k_asm); (case zqX => k_asm); (case zqN => k_asm); (case zqT => k_asm); (case zqs => first | (with_reducible exact Mine.sub_refl) | k_extra "MY tl"); (case zqk => first | exact rfl | assumption); (case zqd => ktr_room); (case zqu => ktr_units)); k_extra "Me7b0")
  k_with "compareOp In str ref" => (k_here; k_dflt (refine kda_in (knd := PySem.strKind _ _) (by k_asm) (by first | assumption | k_mem) (by k_asm) (by k_asm) (strKind_is _ _ _ _) _ (congrArg Option.isSome (by assumption)) ?_); (try dsimp only [Option.isSome]))
  k_with "subscriptTail" => (k_here; k_dflt (refine kda_item (knd := PySem.strKind _ _) (by k_asm) (by first | assumption | k_mem) (by k_asm) (strKind_is _ _ _ _) (by assumption) ?_))
  k_with "subscriptTail Name" => (k_here; k_dflt (refine kda_item (knd := PySem.strKind _ _) (by k_asm) (by first | assumption | k_mem) (by k_asm) (strKind_is _ _ _ _) (by assumption) ?_))
  k_with "MY tl" => repeat' (with_reducible first | exact Mine.sub_refl | exact Mine.sub_appR | refine Mine.sub_tail ?_ | refine Mine.sub_left ?_)
  k_with "MY mem" => first | (with_reducible (repeat (first | assumption | exact List.Mem.head _ | (refine List.Mem.tail _ ?_) | (refine List.mem_append_right _ ?_; assumption) | (refine List.mem_append_left _ ?_))); done) | repeat (first | assumption | exact List.Mem.head _ | (refine List.Mem.tail _ ?_) | (refine List.mem_append_right _ ?_; assumption) | (refine List.mem_append_left _ ?_))
  k_with "compareOp NotIn str ref" => (k_here; k_dflt (refine kdg_notin (knd := PySem.strKind _ _) (by k_asm) (by first | assumption | k_mem) (by k_asm) (by k_asm) (strKind_is _ _ _ _) _ (congrArg Option.isSome (by assumption)) ?_); (try dsimp only [Option.isSome, Bool.not_true, Bool.not_false]))
  k_with "call ref" => k_extra "MY ro"
  k_with "MY ro" => (k_here; (with_reducible show wpAny _ _ (call (Value.ref 297) _) _ _ _); k_dflt (refine' Mine.ro ?zqdi ?zqlo ?zqdr ?zqlr ?zqrd ?zqta ?zqma ?zqmr _ _ _ _ _ _ _ _ _ _ _ _ _ _ _ _ _ ?zqB ?zqF ?zqX ?zqN ?zqT ?zqk ?zqd ?zqu ?_; (case zqB => k_asm); (case zqF => k_asm); (case zqX => k_asm); (case zqN => k_asm); (case zqT => k_asm); (case zqk => first | exact rfl | assumption); (case zqd => ktr_room); (case zqu => ktr_units); (case zqma => k_extra "MY mem"); (case zqmr => k_extra "MY mem"); (case zqdi => k_asm); (case zqlo => k_asm); (case zqdr => k_asm); (case zqlr => k_asm); (case zqta => first | exact .head _ | exact .tail _ (.head _) | exact .tail _ (.tail _ (.head _)) | exact .tail _ (.tail _ (.tail _ (.head _))) | exact .tail _ (.tail _ (.tail _ (.tail _ (.head _))))); (case zqrd => first | assumption | exact ReadersIn.mono (by assumption) (by k_extra "MY tl"))); k_extra "M95cc")
  k_with "call ref" => k_extra "MY ng0"
  k_with "MY ng0" => (k_here; (with_reducible show wpAny _ _ (call (Value.ref 214) _) _ _ _); k_dflt (refine' Mine.ng0  _ _ _ _ _ _ _ _ _ _ _ _ _ _ _ _ _ ?zqB ?zqF ?zqX ?zqN ?zqT ?zqk ?zqd ?zqu ?_; (case zqB => k_asm); (case zqF => k_asm); (case zqX => k_asm); (case zqN => k_asm); (case zqT => k_asm); (case zqk => first | exact rfl | assumption); (case zqd => ktr_room); (case zqu => ktr_units)); k_extra "M67b0")
  trivial
local macro_rules | `(tactic| k_extra "M95cc") => `(tactic| (intro x0 x1 x2 x3 x4 x5 x6 x7; (try dsimp only [List.cons_append] at x6); (try k_sweep)))
theorem fb0 {w : World} {p : Program} {loose : List Str} {mean : ExcName → Option Value} {mg mb : Str → Option Value} {ta mt rd : Addr} {o ro : Obj} {kvs rvs : List (Str × Value)} {dc : Value} {rest : List (Addr × Obj)}
  (hdi : o.IsDictOf (sK w) kvs) (lo : (ta == sysModules) = false) (hdr : ro.IsDictOf (sK w) rvs) (lor : (rd == sysModules) = false) (hrd : ReadersIn w rvs rest) (hma : (ta, o) ∈ rest) (hmr : (rd, ro) ∈ rest) (hcm : valueAt kvs (Str.ofString "cmap") = some dc)
  : ∀ (dp un : Nat) (gd : Option (List Code)) (cn : Str) (cs : Scope) (a : Addr) (ccd : Value) (cl : List (Str × Addr)) (outer : List Env) (A₀ : Around) (base h₀ : Heap) (L : Addr) (m : Str → Option Value) (s : Shared) (Q E : Value → Shared → Prop)
  (_B : Below A₀ base outer h₀) (_F : Fr h₀ L s.heap m) (_X : (hd.heap_39 w.params).In h₀) (_N : News h₀ L s.heap (rest)) (_T : Top p loose mean mg mb h₀) (_hk : cs.kind = .function)
  (_hd : dp + 12 < recursionLimit) (_hu : un + 110 < cLine)
  (_hret : ∀ f df fc g v1 v2 v3 v4 t1 t2 t3 t4 ek oe ot1 ot2 ot3 ot4 k1 k2 k3 k4 k5 k6 tt gw h' tk', Fr h₀ L h' m → News h₀ L h' ((f, instObj 244 df) :: (df, dictOf [{ hash := PyData.keyHash w.params (Str.ofString "charmap"), key := .str (Str.ofString "charmap") k1, val := .ref fc }, { hash := PyData.keyHash w.params (Str.ofString "metrics"), key := .str (Str.ofString "metrics") k2, val := .ref mt }, { hash := PyData.keyHash w.params (Str.ofString "gdef"), key := .str (Str.ofString "gdef") k3, val := v1 }, { hash := PyData.keyHash w.params (Str.ofString "gsub"), key := .str (Str.ofString "gsub") k4, val := v2 }, { hash := PyData.keyHash w.params (Str.ofString "gpos"), key := .str (Str.ofString "gpos") k5, val := v3 }, { hash := PyData.keyHash w.params (Str.ofString "kern"), key := .str (Str.ofString "kern") k6, val := v4 }] 6) :: (t4, ot4) :: (ek, oe) :: (t3, ot3) :: (t2, ot2) :: (t1, ot1) :: (fc, tup [.str (Str.ofString "cmap") tt, dc]) :: (rest ++ gw)) → GdefIn w [] g gw → PartIs (Str.ofString "GDEF") kvs (.ref g) v1 t1 ot1 → PartIs (Str.ofString "GSUB") kvs .none v2 t2 ot2 → PartIs (Str.ofString "GPOS") kvs .none v3 t3 ot3 → PartIs (Str.ofString "kern") kvs (.ref ek) v4 t4 ot4 → EmptyD w oe → (ek == sysModules) = false → Q (.ref f) { s with heap := h', toks := tk' }) ,
  wpAny (model PySem.Challenge.rw_nu0220_01.row.prog w) (ktrTop dp un gd cn cs L a ccd cl outer) (call (.ref 304) [.ref ta, .ref mt, .ref rd]) Q E s := by
  k_fill
  intro dp un gd cn cs a ccd cl outer A₀ base h₀ L m s Q E B F X N T hk hd hu hret
  obtain ⟨fr, hfr, hok⟩ := hrd (Str.ofString "cmap") (.head _)
  k_extra "MY fn"
  k_steps
  rename_i kF kN Tc kX
  exact hret _ _ _ _ _ _ _ _ _ _ _ _ _ _ _ _ _ _ _ _ _ _ _ _ _ _ _ _ kF kN (by assumption) (by assumption) (by assumption) (by assumption) (by assumption) ⟨by assumption, by assumption⟩ (by assumption)
example : True ∧ True := by w_top off; first | (walk1; done) | exact ⟨trivial, trivial⟩
example : True := by
  k_with_none
  k_with "eval Name" => (k_here; (with_reducible show wpAny _ _ (eval (Expr.Name _ _) (compEnvC _ _ _ _)) _ _ _); k_dflt (first | (name_kind "local"; refine' LCgL.ld_own ?zN ?zm ?zC ?zx ?_ ?zk ?zl ?zd; (case zk => kernel_rfl); (case zl => kernel_rfl); (case zd => kernel_rfl); (case zN => k_asm); (case zm => k_mem); (case zC => assumption); (case zx => assumption); k_whole) | (name_kind "globalImplicit"; first | (refine' LCgL.ld_global ?zF ?zX ?zT ?ze ?_ ?zg ?zk ?zl ?zd; (case zg => kernel_rfl); (case zk => kernel_rfl); (case zl => kernel_rfl); (case zd => kernel_rfl); (case zF => k_asm); (case zX => k_asm); (case zT => k_asm); (case ze => k_is); k_whole) | (refine' LCgL.ld_built ?zF ?zX ?zT ?ze ?zv ?zn ?_ ?zg ?zb ?zk ?zl ?zd; (case zg => kernel_rfl); (case zb => kernel_rfl); (case zk => kernel_rfl); (case zl => kernel_rfl); (case zd => kernel_rfl); (case zF => k_asm); (case zX => k_asm); (case zT => k_asm); (case ze => k_is); (case zv => boot_fast); (case zn => decide); k_whole))))
  k_with "eval Name" => (k_here; (fail_if_success (with_reducible show wpAny _ _ (eval (Expr.Name _ _) (compEnvC _ _ _ _)) _ _ _)); k_dflt (first | (name_kind "local"; refine' nameX_L ?zF ?zv ?_ ?za ?zb ?zc; (case zF => k_asm); (case za => kernel_rfl); (case zb => kernel_rfl); (case zc => kernel_rfl); (case zv => rfl); k_whole) | (name_kind "cell"; refine' nameX_C ?zN ?zl ?zm ?zd ?_ ?za ?zb ?zc; (case za => kernel_rfl); (case zb => kernel_rfl); (case zc => kernel_rfl); (case zN => k_asm); (case zl => rfl); (case zm => k_mem); (case zd => k_asm); k_whole) | (name_kind "globalImplicit"; first | (refine' nameX_K ?zF ?zX ?zT ?ze ?_ ?za ?zb ?zc; (case za => kernel_rfl); (case zb => kernel_rfl); (case zc => kernel_rfl); (case zF => k_asm); (case zX => k_asm); (case zT => k_asm); (case ze => k_is); k_whole) | (refine' nameX_B ?zF ?zX ?zT ?ze ?zv ?zn ?_ ?za ?zb ?zc; (case za => kernel_rfl); (case zb => kernel_rfl); (case zc => kernel_rfl); (case zF => k_asm); (case zX => k_asm); (case zT => k_asm); (case ze => k_is); (case zv => boot_fast); (case zn => decide); k_whole))))
  k_with "ite" => (k_closed; first | (with_reducible refine ite_pos ?zi ?_; (case zi => decide +kernel)) | (with_reducible refine ite_neg ?zi ?_; (case zi => decide +kernel)))
  k_with "getAttr ref" => (k_here; k_dflt (refine' get_own ?zF ?zX ?zI ?zg ?zh ?za ?zn ?zl ?zv ?_; (case zF => k_asm); (case zX => k_asm); (case zI => k_inst); (case zl => k_get); (case zg => k_is); (case zh => k_is); (case za => k_is); (case zn => k_is); (case zv => k_handed); k_whole))
  k_with "spliced" => ((with_reducible show wpAny _ _ (spliced (backTo _ (starEach (_ :: _) _))) _ _ _); k_dflt (refine args_cons ?_))
  k_with "newList" => (k_here; k_dflt (refine' newList_K ?zF ?zN ?_ ?zs; (case zF => k_asm); (case zN => k_asm); (case zs => exact Nat.le_of_ble_eq_true rfl); k_whole); k_extra "M46a0")
  k_with "MY ltp" => ((with_reducible rename @LT.lt Nat _ _ _ ∧ _ => kL); first | (with_reducible first | exact kL.1 | exact kL.2 | exact kL.2.1 | exact kL.2.2 | exact kL.2.2.1 | exact kL.2.2.2 | exact kL.2.2.2.1 | exact kL.2.2.2.2 | exact kL.2.2.2.2.1 | exact kL.2.2.2.2.2 | exact kL.2.2.2.2.2.1 | exact kL.2.2.2.2.2.2 | exact kL.2.2.2.2.2.2.1 | exact kL.2.2.2.2.2.2.2 | exact kL.2.2.2.2.2.2.2.1 | exact kL.2.2.2.2.2.2.2.2 | exact kL.2.2.2.2.2.2.2.2.1 | exact kL.2.2.2.2.2.2.2.2.2 | exact kL.2.2.2.2.2.2.2.2.2.1 | exact kL.2.2.2.2.2.2.2.2.2.2 | exact kL.2.2.2.2.2.2.2.2.2.2.1 | exact kL.2.2.2.2.2.2.2.2.2.2.2 | exact kL.2.2.2.2.2.2.2.2.2.2.2.1 | exact kL.2.2.2.2.2.2.2.2.2.2.2.2 | exact kL.2.2.2.2.2.2.2.2.2.2.2.2.1 | exact kL.2.2.2.2.2.2.2.2.2.2.2.2.2 | exact kL.2.2.2.2.2.2.2.2.2.2.2.2.2.1 | exact kL.2.2.2.2.2.2.2.2.2.2.2.2.2.2 | exact kL.2.2.2.2.2.2.2.2.2.2.2.2.2.2.1 | exact kL.2.2.2.2.2.2.2.2.2.2.2.2.2.2.2 | exact kL.2.2.2.2.2.2.2.2.2.2.2.2.2.2.2.1 | exact kL.2.2.2.2.2.2.2.2.2.2.2.2.2.2.2.2 | exact kL.2.2.2.2.2.2.2.2.2.2.2.2.2.2.2.2.1 | exact kL.2.2.2.2.2.2.2.2.2.2.2.2.2.2.2.2.2 | exact kL.2.2.2.2.2.2.2.2.2.2.2.2.2.2.2.2.2.1 | exact kL.2.2.2.2.2.2.2.2.2.2.2.2.2.2.2.2.2.2 | exact kL.2.2.2.2.2.2.2.2.2.2.2.2.2.2.2.2.2.2.1 | exact kL.2.2.2.2.2.2.2.2.2.2.2.2.2.2.2.2.2.2.2 | exact kL.2.2.2.2.2.2.2.2.2.2.2.2.2.2.2.2.2.2.2.1 | exact kL.2.2.2.2.2.2.2.2.2.2.2.2.2.2.2.2.2.2.2.2 | exact kL.2.2.2.2.2.2.2.2.2.2.2.2.2.2.2.2.2.2.2.2.1 | exact kL.2.2.2.2.2.2.2.2.2.2.2.2.2.2.2.2.2.2.2.2.2 | exact kL.2.2.2.2.2.2.2.2.2.2.2.2.2.2.2.2.2.2.2.2.2.1 | exact kL.2.2.2.2.2.2.2.2.2.2.2.2.2.2.2.2.2.2.2.2.2.2 | exact kL.2.2.2.2.2.2.2.2.2.2.2.2.2.2.2.2.2.2.2.2.2.2.1 | exact kL.2.2.2.2.2.2.2.2.2.2.2.2.2.2.2.2.2.2.2.2.2.2.2) | (clear kL; k_extra "MY ltp"))
  k_with "MY ne" => first | (refine Nat.ne_of_gt ?_; k_extra "MY ltp") | (refine Nat.ne_of_lt ?_; k_extra "MY ltp")
  k_with "newTuple" => (k_here; k_dflt (refine' kup_newTuple ?zF ?zN ?_ ?zs; (case zF => k_asm); (case zN => k_asm); (case zs => kmk_size)); k_extra "M46a0")
  k_with "MY ltq" => first | with_reducible assumption | k_extra "MY ltp" | ((with_reducible refine' Nat.lt_trans ?_ ?klb); (case klb => with_reducible assumption); k_extra "MY ltq") | ((with_reducible refine' Nat.lt_trans ?kla ?_); (case kla => with_reducible assumption); k_extra "MY ltp") | ((with_reducible refine' Nat.lt_succ_of_lt ?_); first | with_reducible assumption | k_extra "MY ltp" | ((with_reducible refine' Nat.lt_succ_of_lt ?_); first | with_reducible assumption | k_extra "MY ltp")) | ((with_reducible refine' Mine.mem_allLt ?_ _ ?klm); (case klm => with_reducible assumption); first | with_reducible assumption | k_extra "MY ltp")
  k_with "MY lo" => first | ((with_reducible show @LT.lt Nat _ _ _); (try dsimp only); k_extra "MY ltq") | ((with_reducible show @Ne Nat _ _); (try dsimp only); first | with_reducible assumption | (refine Ne.symm ?_; with_reducible assumption) | (refine Nat.ne_of_gt ?_; k_extra "MY ltq") | (refine Nat.ne_of_lt ?_; k_extra "MY ltq")) | decide
  k_with "H mem" => first | exact List.Mem.head _ | (refine' List.Mem.tail _ ?_; k_extra "H mem") | ((fail_if_success refine' List.Mem.tail _ ?_); change (_ : Addr × Obj) ∈ (_ : List (Addr × Obj)); first | with_reducible assumption | (with_reducible refine' List.mem_append_left _ ?_; k_extra "H mem") | (with_reducible refine' List.mem_append_right _ ?_; k_extra "H mem"))
  k_with "H room" => ((try simp only [depth_under_make, depth_under_kw, depth_in1, depth_deeper, depth_caller]); (try dsimp only [ktrTop]); first | decide | ((try simp only [Nat.add_assoc, Nat.reduceAdd]); (with_reducible rename _ + _ < recursionLimit => kH); first | exact Mine.room_of kH rfl | exact Mine.room_at kH) | omega)
  k_with "H units" => ((try simp only [units_in1, units_deeper, Around.mark_units, units_caller]); (try dsimp only [ktrTop]); first | decide | ((try simp only [Nat.add_assoc, Nat.reduceAdd]); (with_reducible rename _ + _ < cLine => kH); first | exact Mine.room_of kH rfl | exact Mine.room_at kH) | omega)
  k_with "H ne" => (refine neN ?_; (try dsimp only); first | with_reducible assumption | (refine Ne.symm ?_; with_reducible assumption) | (with_reducible first | exact Nat.ne_of_lt (by assumption) | exact Nat.ne_of_gt (by assumption)) | k_extra "MY ne" | ((with_reducible rename (_ ≠ _ ∧ _ ≠ _ ∧ _ ≠ _) ∧ _ => kOff); first | (simp only [kOff, ne_eq, not_false_eq_true]; done) | (refine Ne.symm ?_; simp only [kOff, ne_eq, not_false_eq_true]; done)) | k_extra "MY lo" | omega)
  trivial
section
variable {M : Model} {A : Around} {E : Value → Shared → Prop} {env : Env} {s : Shared} {K : Frag} {h₀ : Heap}
variable {nm q : Str} {C N : Addr} {bs bm : List Value} {hdct : Bool} {sn : List Str} {sub : List Value} {ab : Bool} {col : Option Bool} {dd : Option Addr} {k0 k1 k2 k3 k5 : Option Value} {newId : String}
theorem xr_RaiseX {e : PySem.Expr} {pos : Pos} {Q : Flow → Shared → Prop} (_X : K.In h₀) (hC : K.lookup C = some (excClassObj nm q C N bs bm hdct sn sub ab col dd k0 k1 k2 k3 k5 newId)) (hbase : bm.contains (.type "BaseException") = true) (hh : A.handled = none)
    (h : wpAny M A (eval e env) (RaisePost C (excClassObj nm q C N bs bm hdct sn sub ab col dd k0 k1 k2 k3 k5 newId) E) E s) :
    wpAny M A (exec (.Raise (some e) none pos) env) Q E s := xr_Raise hbase hh hC h
end
theorem isSome_none {α : Type} {x : Option α} (h : x = none) : x.isSome = false := by rw [h]; rfl
example : True := by
  k_with "MY enter" => (refine' code_def ?zk1 ?zk2 ?zk3 ?zk4 ?zk5 ?zkA ?zkF ?zkK ?zk6 ?zk7 ?zk8 ?zk9 ?zkB ?_ ?zc2 ?zc3 ?zc4 ?zc5; (case zkA => exact rfl); (case zkF => exact rfl); (case zkK => k_asm); (case zk1 => k_asm); (case zk2 => k_asm); (case zk3 => k_asm); (case zk4 => k_asm); (case zk5 => k_asm); (case zk6 => k_is); (case zk7 => k_is); (case zk8 => ktr_room); (case zk9 => first | exact BindsTo.of_eq rfl | exact binds_K (by k_in) rfl (by k_is) rfl rfl rfl); (case zc5 => decide); (case zkB => exact locs rfl); (case zc2 => exact rfl); (case zc3 => exact rfl); (case zc4 => exact rfl); k_extra "M91c7")
  k_with "MY enterC" => (refine' code_defC ?zk1 ?zk2 ?zk3 ?zk4 ?zk5 ?zkA ?zkF ?zkK ?zk6 ?zk7 ?zk8 ?zk9 ?zkB ?zkD ?_ ?zc2 ?zc3 ?zc4; (case zkA => exact rfl); (case zkF => exact rfl); (case zkK => k_asm); (case zk1 => k_asm); (case zk2 => k_asm); (case zk3 => k_asm); (case zk4 => k_asm); (case zk5 => k_asm); (case zk6 => k_is); (case zk7 => k_is); (case zk8 => ktr_room); (case zk9 => first | exact BindsTo.of_eq rfl | exact binds_K (by k_in) rfl (by k_is) rfl rfl rfl); (case zkB => exact rfl); (case zkD => decide +kernel); (case zc2 => exact rfl); (case zc3 => exact rfl); (case zc4 => exact rfl); k_extra "M289d")
  k_with "MY fn" => (refine wpAny_call ?_; k_dflt (first | k_extra "MY enter" | k_extra "MY enterC"))
  k_with "MY cls" => (k_dflt (refine' call_cls ?zq1 ?zq2 ?zq3 ?zq4 ?zq5 ?zq6 ?_; (case zq1 => k_asm); (case zq2 => k_asm); (case zq3 => k_asm); (case zq4 => k_is); (case zq5 => k_is); (case zq6 => k_is); k_extra "M274b"))
  k_with "MY sub" => repeat' (first | exact List.forall_mem_nil _ | exact Mine.sub_refl | (refine Mine.sub_cons (by k_mem) ?_) | refine Mine.sub_tail ?_)
  k_with "callWith ref" => (k_here; k_dflt (first | refine' callWith_K ?zq1 ?zq2 ?_; (case zq1 => k_asm); (case zq2 => k_is); k_whole | (refine' callWith_K0 (Frag.In.keeps ?zq1 (Fr.keep ?zqF)) ?zq2 ?_; (case zqF => k_asm); (case zq1 => k_asm); (case zq2 => k_is); k_whole) | refine' callWith_K0 ?zq1 ?zq2 ?_; (case zq1 => k_in); (case zq2 => k_is); k_whole))
  k_with "MY lt" => first | assumption | exact Mine.mem_allLt (by assumption) | (refine Mine.mem_allLt ?_; simp only [*]; done)
  k_with "MY tl0" => repeat' (with_reducible first | exact Mine.sub_refl | refine Mine.sub_tail ?_)
  k_with "And" => ((with_reducible show PySem.W.FnAt _ _ ∧ _); k_dflt (refine' ⟨ro_fn ?zqr ?zqs ?zqN, ?_⟩; (case zqr => with_reducible assumption); (case zqN => k_asm); (case zqs => first | (with_reducible exact Mine.sub_refl) | k_extra "MY tl")); try dsimp only [List.nil_append, List.cons_append])
  k_with "callWith ref" => (k_here; k_dflt (first | (refine' callWith_K ?zq1 ?zq2 ?_; (case zq1 => k_asm); (case zq2 => k_is); k_whole) | (refine' callWith_K0 (Frag.In.keeps ?zq1 (Fr.keep ?zqF)) ?zq2 ?_; (case zqF => k_asm); (case zq1 => k_asm); (case zq2 => k_is); k_whole) | (refine' callWith_K0 ?zq1 ?zq2 ?_; (case zq1 => k_in); (case zq2 => k_is); k_whole) | (refine' callWith_F ?zq1 ?_; (case zq1 => refine' Mine.ro_fn ?zqr ?zqs ?zqN; (case zqr => with_reducible assumption); (case zqN => k_asm); (case zqs => first | (with_reducible exact Mine.sub_refl) | k_extra "MY tl")); k_whole)))
  k_with "call ref" => (k_here; k_dflt (refine' Mine.ro_call (by with_reducible assumption) ?zqs ?zqB ?zqF ?zqX ?zqN ?zqT ?zqk ?zqd ?zqu ?_; (case zqB => k_asm); (case zqF => k_asm); (case zqX => k_asm); (case zqN => k_asm); (case zqT => k_asm); (case zqs => first | (with_reducible exact Mine.sub_refl) | k_extra "MY tl"); (case zqk => first | exact rfl | assumption); (case zqd => ktr_room); (case zqu => ktr_units)); k_extra "Me7b0")
  k_with "compareOp In str ref" => (k_here; k_dflt (refine kda_in (knd := PySem.strKind _ _) (by k_asm) (by first | assumption | k_mem) (by k_asm) (by k_asm) (strKind_is _ _ _ _) _ (congrArg Option.isSome (by assumption)) ?_); (try dsimp only [Option.isSome]))
  k_with "subscriptTail" => (k_here; k_dflt (refine kda_item (knd := PySem.strKind _ _) (by k_asm) (by first | assumption | k_mem) (by k_asm) (strKind_is _ _ _ _) (by assumption) ?_))
  k_with "subscriptTail Name" => (k_here; k_dflt (refine kda_item (knd := PySem.strKind _ _) (by k_asm) (by first | assumption | k_mem) (by k_asm) (strKind_is _ _ _ _) (by assumption) ?_))
  k_with "MY tl" => repeat' (with_reducible first | exact Mine.sub_refl | exact Mine.sub_appR | refine Mine.sub_tail ?_ | refine Mine.sub_left ?_)
  k_with "MY mem" => first | (with_reducible (repeat (first | assumption | exact List.Mem.head _ | (refine List.Mem.tail _ ?_) | (refine List.mem_append_right _ ?_; assumption) | (refine List.mem_append_left _ ?_))); done) | repeat (first | assumption | exact List.Mem.head _ | (refine List.Mem.tail _ ?_) | (refine List.mem_append_right _ ?_; assumption) | (refine List.mem_append_left _ ?_))
  k_with "exec Raise some none" => (k_here; k_dflt (refine' Mine.xr_RaiseX (C := 61) ?zqX ?zqC ?zqb ?zqh ?_; (case zqX => k_asm); (case zqC => k_is); (case zqb => decide); (case zqh => first | rfl | assumption)))
  k_with "call ref" => (k_here; (with_reducible show wpAny _ _ (call (Value.ref 61) _) _ _ _); k_dflt (refine' Mine.ff_new _ _ _ _ _ _ _ _ _ _ _ _ _ _ _ _ _ ?zqB ?zqF ?zqX ?zqN ?zqT ?zqk ?zqd ?zqu ?_; (case zqB => k_asm); (case zqF => k_asm); (case zqX => k_asm); (case zqN => k_asm); (case zqT => k_asm); (case zqk => first | exact rfl | assumption); (case zqd => ktr_room); (case zqu => ktr_units)); k_extra "M41cb")
  k_with "RaisePost" => k_dflt (refine ⟨_, _, _, rfl, Frag.In.keeps (by k_asm) (Fr.keep (by k_asm)) _ _ rfl, News.get (by k_asm) (by first | assumption | k_mem), ?_⟩)
  k_with "leaving ref" => (k_here; k_dflt (first | (refine' Mine.leave_ff ?zqK ?zqF ?zqN ?zqa ?_ ?zqk; (case zqk => rfl); (case zqK => assumption); (case zqF => k_asm); (case zqN => k_asm); (case zqa => assumption); k_extra "M8ee9") | (refine' leave_onS ?zqK ?zqF ?zqR ?zqU ?_; (case zqR => assumption); (case zqF => assumption); (case zqK => assumption); (case zqU => assumption); k_extra "M8ee9")))
  k_with "compareOp NotIn str ref" => (k_here; k_dflt (refine kdg_notin (knd := PySem.strKind _ _) (by k_asm) (by first | assumption | k_mem) (by k_asm) (by k_asm) (strKind_is _ _ _ _) false (isSome_none (by assumption)) ?_); (try dsimp only [Bool.not_true, Bool.not_false]))
  k_with "subscriptTail" => (k_here; k_dflt (refine kda_item (knd := PySem.strKind _ _) (by k_asm) (by first | assumption | k_mem) (by k_asm) (strKind_is _ _ _ _) (by assumption) ?_))
  k_with "subscriptTail Name" => (k_here; k_dflt (refine kda_item (knd := PySem.strKind _ _) (by k_asm) (by first | assumption | k_mem) (by k_asm) (strKind_is _ _ _ _) (by assumption) ?_))
  trivial
local macro_rules | `(tactic| k_extra "M41cb") => `(tactic| (intro x0 x1 x2 x3 x4 x5 x6 x7; (try k_sweep)))
local macro_rules | `(tactic| k_extra "M8ee9") => `(tactic| (intro x0 x1 x2 x3; (try dsimp only at x1 x2 x3 ⊢)))
theorem fr0 {w : World} {p : Program} {loose : List Str} {mean : ExcName → Option Value} {mg mb : Str → Option Value} {ta mt rd : Addr} {o ro : Obj} {kvs rvs : List (Str × Value)} {rest : List (Addr × Obj)}
  (hdi : o.IsDictOf (sK w) kvs) (lo : (ta == sysModules) = false) (hdr : ro.IsDictOf (sK w) rvs) (lor : (rd == sysModules) = false) (hrd : ReadersIn w rvs rest) (hma : (ta, o) ∈ rest) (hmr : (rd, ro) ∈ rest) (hcm : valueAt kvs (Str.ofString "cmap") = none)
  : ∀ (dp un : Nat) (gd : Option (List Code)) (cn : Str) (cs : Scope) (a : Addr) (ccd : Value) (cl : List (Str × Addr)) (outer : List Env) (A₀ : Around) (base h₀ : Heap) (L : Addr) (m : Str → Option Value) (s : Shared) (Q E : Value → Shared → Prop)
  (_B : Below A₀ base outer h₀) (_F : Fr h₀ L s.heap m) (_X : (hd.heap_39 w.params).In h₀) (_N : News h₀ L s.heap (rest)) (_T : Top p loose mean mg mb h₀) (_hk : cs.kind = .function)
  (_hd : dp + 12 < recursionLimit) (_hu : un + 110 < cLine)
  (_hret : ∀ G e t vs nw h' tk', Fr h₀ L G m → RaisedS base G (envX cn cs L a ccd cl :: outer) e (.ref 61) t vs nw h' → G.UpToSlots h' → (∀ p ∈ rest, p ∈ nw) → E (.ref e) { s with heap := h', toks := tk' }) ,
  wpAny (model PySem.Challenge.rw_nu0220_01.row.prog w) (ktrTop dp un gd cn cs L a ccd cl outer) (call (.ref 304) [.ref ta, .ref mt, .ref rd]) Q E s := by
  k_fill
  intro dp un gd cn cs a ccd cl outer A₀ base h₀ L m s Q E B F X N T hk hd hu hret
  obtain ⟨fr, hfr, hok⟩ := hrd (Str.ofString "cmap") (.head _)
  k_extra "MY fn"
  k_steps
  exact hret _ _ _ _ _ _ _ (by assumption) (by assumption) (by assumption) (fun _ h => h)
example : True ∧ True := by w_top off; first | (walk1; done) | exact ⟨trivial, trivial⟩
example : True := by
  k_with_none
  k_with "eval Name" => (k_here; (with_reducible show wpAny _ _ (eval (Expr.Name _ _) (compEnvC _ _ _ _)) _ _ _); k_dflt (first | (name_kind "local"; refine' LCgL.ld_own ?zN ?zm ?zC ?zx ?_ ?zk ?zl ?zd; (case zk => kernel_rfl); (case zl => kernel_rfl); (case zd => kernel_rfl); (case zN => k_asm); (case zm => k_mem); (case zC => assumption); (case zx => assumption); k_whole) | (name_kind "globalImplicit"; first | (refine' LCgL.ld_global ?zF ?zX ?zT ?ze ?_ ?zg ?zk ?zl ?zd; (case zg => kernel_rfl); (case zk => kernel_rfl); (case zl => kernel_rfl); (case zd => kernel_rfl); (case zF => k_asm); (case zX => k_asm); (case zT => k_asm); (case ze => k_is); k_whole) | (refine' LCgL.ld_built ?zF ?zX ?zT ?ze ?zv ?zn ?_ ?zg ?zb ?zk ?zl ?zd; (case zg => kernel_rfl); (case zb => kernel_rfl); (case zk => kernel_rfl); (case zl => kernel_rfl); (case zd => kernel_rfl); (case zF => k_asm); (case zX => k_asm); (case zT => k_asm); (case ze => k_is); (case zv => boot_fast); (case zn => decide); k_whole))))
  k_with "eval Name" => (k_here; (fail_if_success (with_reducible show wpAny _ _ (eval (Expr.Name _ _) (compEnvC _ _ _ _)) _ _ _)); k_dflt (first | (name_kind "local"; refine' nameX_L ?zF ?zv ?_ ?za ?zb ?zc; (case zF => k_asm); (case za => kernel_rfl); (case zb => kernel_rfl); (case zc => kernel_rfl); (case zv => rfl); k_whole) | (name_kind "cell"; refine' nameX_C ?zN ?zl ?zm ?zd ?_ ?za ?zb ?zc; (case za => kernel_rfl); (case zb => kernel_rfl); (case zc => kernel_rfl); (case zN => k_asm); (case zl => rfl); (case zm => k_mem); (case zd => k_asm); k_whole) | (name_kind "globalImplicit"; first | (refine' nameX_K ?zF ?zX ?zT ?ze ?_ ?za ?zb ?zc; (case za => kernel_rfl); (case zb => kernel_rfl); (case zc => kernel_rfl); (case zF => k_asm); (case zX => k_asm); (case zT => k_asm); (case ze => k_is); k_whole) | (refine' nameX_B ?zF ?zX ?zT ?ze ?zv ?zn ?_ ?za ?zb ?zc; (case za => kernel_rfl); (case zb => kernel_rfl); (case zc => kernel_rfl); (case zF => k_asm); (case zX => k_asm); (case zT => k_asm); (case ze => k_is); (case zv => boot_fast); (case zn => decide); k_whole))))
  k_with "ite" => (k_closed; first | (with_reducible refine ite_pos ?zi ?_; (case zi => decide +kernel)) | (with_reducible refine ite_neg ?zi ?_; (case zi => decide +kernel)))
  k_with "getAttr ref" => (k_here; k_dflt (refine' get_own ?zF ?zX ?zI ?zg ?zh ?za ?zn ?zl ?zv ?_; (case zF => k_asm); (case zX => k_asm); (case zI => k_inst); (case zl => k_get); (case zg => k_is); (case zh => k_is); (case za => k_is); (case zn => k_is); (case zv => k_handed); k_whole))
  k_with "spliced" => ((with_reducible show wpAny _ _ (spliced (backTo _ (starEach (_ :: _) _))) _ _ _); k_dflt (refine args_cons ?_))
  k_with "newList" => (k_here; k_dflt (refine' newList_K ?zF ?zN ?_ ?zs; (case zF => k_asm); (case zN => k_asm); (case zs => exact Nat.le_of_ble_eq_true rfl); k_whole); k_extra "M46a0")
  k_with "MY ltp" => ((with_reducible rename @LT.lt Nat _ _ _ ∧ _ => kL); first | (with_reducible first | exact kL.1 | exact kL.2 | exact kL.2.1 | exact kL.2.2 | exact kL.2.2.1 | exact kL.2.2.2 | exact kL.2.2.2.1 | exact kL.2.2.2.2 | exact kL.2.2.2.2.1 | exact kL.2.2.2.2.2 | exact kL.2.2.2.2.2.1 | exact kL.2.2.2.2.2.2 | exact kL.2.2.2.2.2.2.1 | exact kL.2.2.2.2.2.2.2 | exact kL.2.2.2.2.2.2.2.1 | exact kL.2.2.2.2.2.2.2.2 | exact kL.2.2.2.2.2.2.2.2.1 | exact kL.2.2.2.2.2.2.2.2.2 | exact kL.2.2.2.2.2.2.2.2.2.1 | exact kL.2.2.2.2.2.2.2.2.2.2 | exact kL.2.2.2.2.2.2.2.2.2.2.1 | exact kL.2.2.2.2.2.2.2.2.2.2.2 | exact kL.2.2.2.2.2.2.2.2.2.2.2.1 | exact kL.2.2.2.2.2.2.2.2.2.2.2.2 | exact kL.2.2.2.2.2.2.2.2.2.2.2.2.1 | exact kL.2.2.2.2.2.2.2.2.2.2.2.2.2 | exact kL.2.2.2.2.2.2.2.2.2.2.2.2.2.1 | exact kL.2.2.2.2.2.2.2.2.2.2.2.2.2.2 | exact kL.2.2.2.2.2.2.2.2.2.2.2.2.2.2.1 | exact kL.2.2.2.2.2.2.2.2.2.2.2.2.2.2.2 | exact kL.2.2.2.2.2.2.2.2.2.2.2.2.2.2.2.1 | exact kL.2.2.2.2.2.2.2.2.2.2.2.2.2.2.2.2 | exact kL.2.2.2.2.2.2.2.2.2.2.2.2.2.2.2.2.1 | exact kL.2.2.2.2.2.2.2.2.2.2.2.2.2.2.2.2.2 | exact kL.2.2.2.2.2.2.2.2.2.2.2.2.2.2.2.2.2.1 | exact kL.2.2.2.2.2.2.2.2.2.2.2.2.2.2.2.2.2.2 | exact kL.2.2.2.2.2.2.2.2.2.2.2.2.2.2.2.2.2.2.1 | exact kL.2.2.2.2.2.2.2.2.2.2.2.2.2.2.2.2.2.2.2 | exact kL.2.2.2.2.2.2.2.2.2.2.2.2.2.2.2.2.2.2.2.1 | exact kL.2.2.2.2.2.2.2.2.2.2.2.2.2.2.2.2.2.2.2.2 | exact kL.2.2.2.2.2.2.2.2.2.2.2.2.2.2.2.2.2.2.2.2.1 | exact kL.2.2.2.2.2.2.2.2.2.2.2.2.2.2.2.2.2.2.2.2.2 | exact kL.2.2.2.2.2.2.2.2.2.2.2.2.2.2.2.2.2.2.2.2.2.1 | exact kL.2.2.2.2.2.2.2.2.2.2.2.2.2.2.2.2.2.2.2.2.2.2 | exact kL.2.2.2.2.2.2.2.2.2.2.2.2.2.2.2.2.2.2.2.2.2.2.1 | exact kL.2.2.2.2.2.2.2.2.2.2.2.2.2.2.2.2.2.2.2.2.2.2.2) | (clear kL; k_extra "MY ltp"))
  k_with "MY ne" => first | (refine Nat.ne_of_gt ?_; k_extra "MY ltp") | (refine Nat.ne_of_lt ?_; k_extra "MY ltp")
  k_with "newTuple" => (k_here; k_dflt (refine' kup_newTuple ?zF ?zN ?_ ?zs; (case zF => k_asm); (case zN => k_asm); (case zs => kmk_size)); k_extra "M46a0")
  k_with "MY ltq" => first | with_reducible assumption | k_extra "MY ltp" | ((with_reducible refine' Nat.lt_trans ?_ ?klb); (case klb => with_reducible assumption); k_extra "MY ltq") | ((with_reducible refine' Nat.lt_trans ?kla ?_); (case kla => with_reducible assumption); k_extra "MY ltp") | ((with_reducible refine' Nat.lt_succ_of_lt ?_); first | with_reducible assumption | k_extra "MY ltp" | ((with_reducible refine' Nat.lt_succ_of_lt ?_); first | with_reducible assumption | k_extra "MY ltp")) | ((with_reducible refine' Mine.mem_allLt ?_ _ ?klm); (case klm => with_reducible assumption); first | with_reducible assumption | k_extra "MY ltp")
  k_with "MY lo" => first | ((with_reducible show @LT.lt Nat _ _ _); (try dsimp only); k_extra "MY ltq") | ((with_reducible show @Ne Nat _ _); (try dsimp only); first | with_reducible assumption | (refine Ne.symm ?_; with_reducible assumption) | (refine Nat.ne_of_gt ?_; k_extra "MY ltq") | (refine Nat.ne_of_lt ?_; k_extra "MY ltq")) | decide
  k_with "H mem" => first | exact List.Mem.head _ | (refine' List.Mem.tail _ ?_; k_extra "H mem") | ((fail_if_success refine' List.Mem.tail _ ?_); change (_ : Addr × Obj) ∈ (_ : List (Addr × Obj)); first | with_reducible assumption | (with_reducible refine' List.mem_append_left _ ?_; k_extra "H mem") | (with_reducible refine' List.mem_append_right _ ?_; k_extra "H mem"))
  k_with "H room" => ((try simp only [depth_under_make, depth_under_kw, depth_in1, depth_deeper, depth_caller]); (try dsimp only [ktrTop]); first | decide | ((try simp only [Nat.add_assoc, Nat.reduceAdd]); (with_reducible rename _ + _ < recursionLimit => kH); first | exact Mine.room_of kH rfl | exact Mine.room_at kH) | omega)
  k_with "H units" => ((try simp only [units_in1, units_deeper, Around.mark_units, units_caller]); (try dsimp only [ktrTop]); first | decide | ((try simp only [Nat.add_assoc, Nat.reduceAdd]); (with_reducible rename _ + _ < cLine => kH); first | exact Mine.room_of kH rfl | exact Mine.room_at kH) | omega)
  k_with "H ne" => (refine neN ?_; (try dsimp only); first | with_reducible assumption | (refine Ne.symm ?_; with_reducible assumption) | (with_reducible first | exact Nat.ne_of_lt (by assumption) | exact Nat.ne_of_gt (by assumption)) | k_extra "MY ne" | ((with_reducible rename (_ ≠ _ ∧ _ ≠ _ ∧ _ ≠ _) ∧ _ => kOff); first | (simp only [kOff, ne_eq, not_false_eq_true]; done) | (refine Ne.symm ?_; simp only [kOff, ne_eq, not_false_eq_true]; done)) | k_extra "MY lo" | omega)
  trivial
example : True := by
  k_with "MY enter" => (refine' code_def ?zk1 ?zk2 ?zk3 ?zk4 ?zk5 ?zkA ?zkF ?zkK ?zk6 ?zk7 ?zk8 ?zk9 ?zkB ?_ ?zc2 ?zc3 ?zc4 ?zc5; (case zkA => exact rfl); (case zkF => exact rfl); (case zkK => k_asm); (case zk1 => k_asm); (case zk2 => k_asm); (case zk3 => k_asm); (case zk4 => k_asm); (case zk5 => k_asm); (case zk6 => k_is); (case zk7 => k_is); (case zk8 => ktr_room); (case zk9 => first | exact BindsTo.of_eq rfl | exact binds_K (by k_in) rfl (by k_is) rfl rfl rfl); (case zc5 => decide); (case zkB => exact locs rfl); (case zc2 => exact rfl); (case zc3 => exact rfl); (case zc4 => exact rfl); k_extra "M91c7")
  k_with "MY enterC" => (refine' code_defC ?zk1 ?zk2 ?zk3 ?zk4 ?zk5 ?zkA ?zkF ?zkK ?zk6 ?zk7 ?zk8 ?zk9 ?zkB ?zkD ?_ ?zc2 ?zc3 ?zc4; (case zkA => exact rfl); (case zkF => exact rfl); (case zkK => k_asm); (case zk1 => k_asm); (case zk2 => k_asm); (case zk3 => k_asm); (case zk4 => k_asm); (case zk5 => k_asm); (case zk6 => k_is); (case zk7 => k_is); (case zk8 => ktr_room); (case zk9 => first | exact BindsTo.of_eq rfl | exact binds_K (by k_in) rfl (by k_is) rfl rfl rfl); (case zkB => exact rfl); (case zkD => decide +kernel); (case zc2 => exact rfl); (case zc3 => exact rfl); (case zc4 => exact rfl); k_extra "M289d")
  k_with "MY fn" => (refine wpAny_call ?_; k_dflt (first | k_extra "MY enter" | k_extra "MY enterC"))
  k_with "MY cls" => (k_dflt (refine' call_cls ?zq1 ?zq2 ?zq3 ?zq4 ?zq5 ?zq6 ?_; (case zq1 => k_asm); (case zq2 => k_asm); (case zq3 => k_asm); (case zq4 => k_is); (case zq5 => k_is); (case zq6 => k_is); k_extra "M274b"))
  k_with "MY sub" => repeat' (first | exact List.forall_mem_nil _ | exact Mine.sub_refl | (refine Mine.sub_cons (by k_mem) ?_) | refine Mine.sub_tail ?_)
  k_with "callWith ref" => (k_here; k_dflt (first | refine' callWith_K ?zq1 ?zq2 ?_; (case zq1 => k_asm); (case zq2 => k_is); k_whole | (refine' callWith_K0 (Frag.In.keeps ?zq1 (Fr.keep ?zqF)) ?zq2 ?_; (case zqF => k_asm); (case zq1 => k_asm); (case zq2 => k_is); k_whole) | refine' callWith_K0 ?zq1 ?zq2 ?_; (case zq1 => k_in); (case zq2 => k_is); k_whole))
  k_with "MY lt" => first | assumption | exact Mine.mem_allLt (by assumption) | (refine Mine.mem_allLt ?_; simp only [*]; done)
  trivial
theorem mt0 {w : World} {p : Program} {loose : List Str} {mean : ExcName → Option Value} {mg mb : Str → Option Value} {mt md wt bt : Addr} {k1 k2 k3 k4 k5 e1 e2 e3 : Tok} {rest : List (Addr × Obj)}
  (m1 : (mt, instObj 94 md) ∈ rest) (m2 : (md, dictOf [{ hash := PyData.keyHash w.params (Str.ofString "units"), key := .str (Str.ofString "units") k1, val := .int 16 e1 }, { hash := PyData.keyHash w.params (Str.ofString "ascent"), key := .str (Str.ofString "ascent") k2, val := .int 1 e2 }, { hash := PyData.keyHash w.params (Str.ofString "descent"), key := .str (Str.ofString "descent") k3, val := .int (-1) e3 }, { hash := PyData.keyHash w.params (Str.ofString "advances"), key := .str (Str.ofString "advances") k4, val := .ref wt }, { hash := PyData.keyHash w.params (Str.ofString "bearings"), key := .str (Str.ofString "bearings") k5, val := .ref bt }] 5) ∈ rest)
  : ∀ (dp un : Nat) (gd : Option (List Code)) (cn : Str) (cs : Scope) (a : Addr) (ccd : Value) (cl : List (Str × Addr)) (outer : List Env) (A₀ : Around) (base h₀ : Heap) (L : Addr) (m : Str → Option Value) (s : Shared) (Q E : Value → Shared → Prop)
  (_B : Below A₀ base outer h₀) (_F : Fr h₀ L s.heap m) (_X : (hd.heap_39 w.params).In h₀) (_N : News h₀ L s.heap (rest)) (_T : Top p loose mean mg mb h₀) (_hk : cs.kind = .function)
  (_hd : dp + 5 < recursionLimit) (_hu : un + 48 < cLine)
  (_hret : ∀ t h' tk', Fr h₀ L h' m → News h₀ L h' ((t, tup [.int 16 e1, .int 1 e2, .int (-1) e3, .ref wt, .ref bt]) :: rest) → (∀ p ∈ rest, p.1 < t) → Q (.ref t) { s with heap := h', toks := tk' }) ,
  wpAny (model PySem.Challenge.rw_nu0220_01.row.prog w) (ktrTop dp un gd cn cs L a ccd cl outer) (call (.ref 91) [.ref mt]) Q E s := by
  k_fill
  intro dp un gd cn cs a ccd cl outer A₀ base h₀ L m s Q E B F X N T hk hd hu hret
  have NN := news_sub N (sub_cons m1 (sub_cons m2 sub_refl))
  clear N m1 m2
  k_extra "MY fn"
  k_steps
  rename_i l kF kN Tc kX
  refine hret _ _ _ kF (news_sub kN (sub_cons (.head _) (sub_tail (sub_tail (sub_tail sub_refl))))) (mem_allLt (by simp only [*]))
example : True ∧ True := by w_top off; first | (walk1; done) | exact ⟨trivial, trivial⟩
example : True := by
  k_with_none
  k_with "eval Name" => (k_here; (with_reducible show wpAny _ _ (eval (Expr.Name _ _) (compEnvC _ _ _ _)) _ _ _); k_dflt (first | (name_kind "local"; refine' LCgL.ld_own ?zN ?zm ?zC ?zx ?_ ?zk ?zl ?zd; (case zk => kernel_rfl); (case zl => kernel_rfl); (case zd => kernel_rfl); (case zN => k_asm); (case zm => k_mem); (case zC => assumption); (case zx => assumption); k_whole) | (name_kind "globalImplicit"; first | (refine' LCgL.ld_global ?zF ?zX ?zT ?ze ?_ ?zg ?zk ?zl ?zd; (case zg => kernel_rfl); (case zk => kernel_rfl); (case zl => kernel_rfl); (case zd => kernel_rfl); (case zF => k_asm); (case zX => k_asm); (case zT => k_asm); (case ze => k_is); k_whole) | (refine' LCgL.ld_built ?zF ?zX ?zT ?ze ?zv ?zn ?_ ?zg ?zb ?zk ?zl ?zd; (case zg => kernel_rfl); (case zb => kernel_rfl); (case zk => kernel_rfl); (case zl => kernel_rfl); (case zd => kernel_rfl); (case zF => k_asm); (case zX => k_asm); (case zT => k_asm); (case ze => k_is); (case zv => boot_fast); (case zn => decide); k_whole))))
  k_with "eval Name" => (k_here; (fail_if_success (with_reducible show wpAny _ _ (eval (Expr.Name _ _) (compEnvC _ _ _ _)) _ _ _)); k_dflt (first | (name_kind "local"; refine' nameX_L ?zF ?zv ?_ ?za ?zb ?zc; (case zF => k_asm); (case za => kernel_rfl); (case zb => kernel_rfl); (case zc => kernel_rfl); (case zv => rfl); k_whole) | (name_kind "cell"; refine' nameX_C ?zN ?zl ?zm ?zd ?_ ?za ?zb ?zc; (case za => kernel_rfl); (case zb => kernel_rfl); (case zc => kernel_rfl); (case zN => k_asm); (case zl => rfl); (case zm => k_mem); (case zd => k_asm); k_whole) | (name_kind "globalImplicit"; first | (refine' nameX_K ?zF ?zX ?zT ?ze ?_ ?za ?zb ?zc; (case za => kernel_rfl); (case zb => kernel_rfl); (case zc => kernel_rfl); (case zF => k_asm); (case zX => k_asm); (case zT => k_asm); (case ze => k_is); k_whole) | (refine' nameX_B ?zF ?zX ?zT ?ze ?zv ?zn ?_ ?za ?zb ?zc; (case za => kernel_rfl); (case zb => kernel_rfl); (case zc => kernel_rfl); (case zF => k_asm); (case zX => k_asm); (case zT => k_asm); (case ze => k_is); (case zv => boot_fast); (case zn => decide); k_whole))))
  k_with "ite" => (k_closed; first | (with_reducible refine ite_pos ?zi ?_; (case zi => decide +kernel)) | (with_reducible refine ite_neg ?zi ?_; (case zi => decide +kernel)))
  k_with "getAttr ref" => (k_here; k_dflt (refine' get_own ?zF ?zX ?zI ?zg ?zh ?za ?zn ?zl ?zv ?_; (case zF => k_asm); (case zX => k_asm); (case zI => k_inst); (case zl => k_get); (case zg => k_is); (case zh => k_is); (case za => k_is); (case zn => k_is); (case zv => k_handed); k_whole))
  k_with "spliced" => ((with_reducible show wpAny _ _ (spliced (backTo _ (starEach (_ :: _) _))) _ _ _); k_dflt (refine args_cons ?_))
  k_with "newList" => (k_here; k_dflt (refine' newList_K ?zF ?zN ?_ ?zs; (case zF => k_asm); (case zN => k_asm); (case zs => exact Nat.le_of_ble_eq_true rfl); k_whole); k_extra "M46a0")
  k_with "MY ltp" => ((with_reducible rename @LT.lt Nat _ _ _ ∧ _ => kL); first | (with_reducible first | exact kL.1 | exact kL.2 | exact kL.2.1 | exact kL.2.2 | exact kL.2.2.1 | exact kL.2.2.2 | exact kL.2.2.2.1 | exact kL.2.2.2.2 | exact kL.2.2.2.2.1 | exact kL.2.2.2.2.2 | exact kL.2.2.2.2.2.1 | exact kL.2.2.2.2.2.2 | exact kL.2.2.2.2.2.2.1 | exact kL.2.2.2.2.2.2.2 | exact kL.2.2.2.2.2.2.2.1 | exact kL.2.2.2.2.2.2.2.2 | exact kL.2.2.2.2.2.2.2.2.1 | exact kL.2.2.2.2.2.2.2.2.2 | exact kL.2.2.2.2.2.2.2.2.2.1 | exact kL.2.2.2.2.2.2.2.2.2.2 | exact kL.2.2.2.2.2.2.2.2.2.2.1 | exact kL.2.2.2.2.2.2.2.2.2.2.2 | exact kL.2.2.2.2.2.2.2.2.2.2.2.1 | exact kL.2.2.2.2.2.2.2.2.2.2.2.2 | exact kL.2.2.2.2.2.2.2.2.2.2.2.2.1 | exact kL.2.2.2.2.2.2.2.2.2.2.2.2.2 | exact kL.2.2.2.2.2.2.2.2.2.2.2.2.2.1 | exact kL.2.2.2.2.2.2.2.2.2.2.2.2.2.2 | exact kL.2.2.2.2.2.2.2.2.2.2.2.2.2.2.1 | exact kL.2.2.2.2.2.2.2.2.2.2.2.2.2.2.2 | exact kL.2.2.2.2.2.2.2.2.2.2.2.2.2.2.2.1 | exact kL.2.2.2.2.2.2.2.2.2.2.2.2.2.2.2.2 | exact kL.2.2.2.2.2.2.2.2.2.2.2.2.2.2.2.2.1 | exact kL.2.2.2.2.2.2.2.2.2.2.2.2.2.2.2.2.2 | exact kL.2.2.2.2.2.2.2.2.2.2.2.2.2.2.2.2.2.1 | exact kL.2.2.2.2.2.2.2.2.2.2.2.2.2.2.2.2.2.2 | exact kL.2.2.2.2.2.2.2.2.2.2.2.2.2.2.2.2.2.2.1 | exact kL.2.2.2.2.2.2.2.2.2.2.2.2.2.2.2.2.2.2.2 | exact kL.2.2.2.2.2.2.2.2.2.2.2.2.2.2.2.2.2.2.2.1 | exact kL.2.2.2.2.2.2.2.2.2.2.2.2.2.2.2.2.2.2.2.2 | exact kL.2.2.2.2.2.2.2.2.2.2.2.2.2.2.2.2.2.2.2.2.1 | exact kL.2.2.2.2.2.2.2.2.2.2.2.2.2.2.2.2.2.2.2.2.2 | exact kL.2.2.2.2.2.2.2.2.2.2.2.2.2.2.2.2.2.2.2.2.2.1 | exact kL.2.2.2.2.2.2.2.2.2.2.2.2.2.2.2.2.2.2.2.2.2.2 | exact kL.2.2.2.2.2.2.2.2.2.2.2.2.2.2.2.2.2.2.2.2.2.2.1 | exact kL.2.2.2.2.2.2.2.2.2.2.2.2.2.2.2.2.2.2.2.2.2.2.2) | (clear kL; k_extra "MY ltp"))
  k_with "MY ne" => first | (refine Nat.ne_of_gt ?_; k_extra "MY ltp") | (refine Nat.ne_of_lt ?_; k_extra "MY ltp")
  k_with "newTuple" => (k_here; k_dflt (refine' kup_newTuple ?zF ?zN ?_ ?zs; (case zF => k_asm); (case zN => k_asm); (case zs => kmk_size)); k_extra "M46a0")
  k_with "MY ltq" => first | with_reducible assumption | k_extra "MY ltp" | ((with_reducible refine' Nat.lt_trans ?_ ?klb); (case klb => with_reducible assumption); k_extra "MY ltq") | ((with_reducible refine' Nat.lt_trans ?kla ?_); (case kla => with_reducible assumption); k_extra "MY ltp") | ((with_reducible refine' Nat.lt_succ_of_lt ?_); first | with_reducible assumption | k_extra "MY ltp" | ((with_reducible refine' Nat.lt_succ_of_lt ?_); first | with_reducible assumption | k_extra "MY ltp")) | ((with_reducible refine' Mine.mem_allLt ?_ _ ?klm); (case klm => with_reducible assumption); first | with_reducible assumption | k_extra "MY ltp")
  k_with "MY lo" => first | ((with_reducible show @LT.lt Nat _ _ _); (try dsimp only); k_extra "MY ltq") | ((with_reducible show @Ne Nat _ _); (try dsimp only); first | with_reducible assumption | (refine Ne.symm ?_; with_reducible assumption) | (refine Nat.ne_of_gt ?_; k_extra "MY ltq") | (refine Nat.ne_of_lt ?_; k_extra "MY ltq")) | decide
  k_with "H mem" => first | exact List.Mem.head _ | (refine' List.Mem.tail _ ?_; k_extra "H mem") | ((fail_if_success refine' List.Mem.tail _ ?_); change (_ : Addr × Obj) ∈ (_ : List (Addr × Obj)); first | with_reducible assumption | (with_reducible refine' List.mem_append_left _ ?_; k_extra "H mem") | (with_reducible refine' List.mem_append_right _ ?_; k_extra "H mem"))
  k_with "H room" => ((try simp only [depth_under_make, depth_under_kw, depth_in1, depth_deeper, depth_caller]); (try dsimp only [ktrTop]); first | decide | ((try simp only [Nat.add_assoc, Nat.reduceAdd]); (with_reducible rename _ + _ < recursionLimit => kH); first | exact Mine.room_of kH rfl | exact Mine.room_at kH) | omega)
  k_with "H units" => ((try simp only [units_in1, units_deeper, Around.mark_units, units_caller]); (try dsimp only [ktrTop]); first | decide | ((try simp only [Nat.add_assoc, Nat.reduceAdd]); (with_reducible rename _ + _ < cLine => kH); first | exact Mine.room_of kH rfl | exact Mine.room_at kH) | omega)
  k_with "H ne" => (refine neN ?_; (try dsimp only); first | with_reducible assumption | (refine Ne.symm ?_; with_reducible assumption) | (with_reducible first | exact Nat.ne_of_lt (by assumption) | exact Nat.ne_of_gt (by assumption)) | k_extra "MY ne" | ((with_reducible rename (_ ≠ _ ∧ _ ≠ _ ∧ _ ≠ _) ∧ _ => kOff); first | (simp only [kOff, ne_eq, not_false_eq_true]; done) | (refine Ne.symm ?_; simp only [kOff, ne_eq, not_false_eq_true]; done)) | k_extra "MY lo" | omega)
  trivial
section
variable {prog : Program} {w : World} {A : Around} {E : Value → Shared → Prop} {s : Shared} {h₀ : Heap} {L a b : Addr} {news : List (Addr × Obj)} {oa ob : Obj} {Q : Value → Shared → Prop}
theorem eq_empty (N : News h₀ L s.heap news) (pa : (a, oa) ∈ news) (pb : (b, ob) ∈ news) (da : oa.IsDictOf (PySem.strKind prog w) []) (db : ob.IsDictOf (PySem.strKind prog w) []) (la : (a == sysModules) = false) (lb : (b == sysModules) = false) (hu : A.units < cLine) (h : Q (.bool true) s) : wpAny (model prog w) A (compareOp .Eq (.ref a) (.ref b)) Q E s :=
  keq_pairs N pa pb da db la lb rfl hu .nil h
end
theorem part_handed {tag : Str} {kvs : List (Str × Value)} {v : Value} {t : Addr} {ot : Obj} (h : PartIs tag kvs .none v t ot) : handedIn v = true := by
  rcases h with ⟨d, tt, _, rfl, _⟩ | ⟨_, rfl⟩ <;> rfl
theorem led_mem {α : Type} {a b c d e f : α} {rest l : List α} (h1 : a ∈ l) (h2 : b ∈ l) (h3 : c ∈ l) (h4 : d ∈ l) (h5 : e ∈ l) (h6 : f ∈ l) (h7 : ∀ p ∈ rest, p ∈ l) : ∀ p ∈ a :: b :: c :: d :: e :: f :: rest, p ∈ l := sub_cons h1 (sub_cons h2 (sub_cons h3 (sub_cons h4 (sub_cons h5 (sub_cons h6 h7)))))
theorem isSome_some {α : Type} {x : Option α} {v : α} (h : x = some v) : x.isSome = true := by rw [h]; rfl
theorem allLt_mem {d : Addr} : ∀ {l : List (Addr × Obj)}, (∀ p ∈ l, p.1 < d) → AllLt d l := fun h => allLt_of h
section
variable {prog : Program} {w : World} {A : Around} {E : Value → Shared → Prop} {s : Shared}
theorem pow2_any {n : Int} {t u : Tok} {Q : Value → Shared → Prop} (hn : 0 ≤ n) (hn2 : n < 6) (h : ∀ r : Int, 0 < r → r ≤ 32 → Q (.int r s.toks) { s with toks := s.toks + 1 }) : wpAny (model prog w) A (binaryOp .Pow (.int 2 t) (.int n u)) Q E s := by
  refine pow_int_small hn (by (first | k_extra "MY lo" | omega)) (by decide) ?_
  have hk : n.toNat < 6 := by (first | k_extra "MY lo" | omega)
  generalize n.toNat = k at hk
  rcases k with _ | _ | _ | _ | _ | _ | k
  rotate_right
  · (first | k_extra "MY lo" | omega)
  all_goals exact h _ (by decide) (by decide)
theorem tag_item {K : Frag} {h₀ : Heap} {L : Addr} {m : Str → Option Value} {value slice : PySem.Expr} {a : Addr} {o : Obj} {its : Array Value} {nn : Nat} {k : Int} {u : Tok} {Q : Value → Shared → Prop} (X : K.In h₀) (F : Fr h₀ L s.heap m) (e : K.lookup a = some o) (hc : o.cls = .type "tuple") (hd : o.data = .seq its nn)
    (hI : its.toList.all (fun v => match v with | .str _ _ => true | _ => false) = true) (h0 : 0 ≤ k) (h1 : k < its.size) (hz : its.size < 100) (h : ∀ tag tok, Q (.str tag tok) s)
    (hs : subscripted slice false (.ref a) (.int k u) = operate [.ref a, .int k u] (getItem (.ref a) (.int k u))) (hg : ∀ r, letTemporaryGo value (.ref a) r = pure ()) :
    wpAny (model prog w) A (subscriptTail value slice (.ref a) (.int k u)) Q E s := by
  have hlt : k.toNat < its.size := by (first | k_extra "MY lo" | omega)
  have ht : IsTup s.heap a its := ⟨o, F.keep _ _ (X _ _ e), hc, nn, hd⟩
  refine item_tuple (j := k.toNat) (x := its[k.toNat]) ht (by (first | k_extra "MY lo" | omega)) (by (first | k_extra "MY lo" | omega)) (seqIndex_of h0 h1) (by simp [hlt]) ?_ hs hg
  have := List.all_eq_true.mp hI its[k.toNat] (by simp)
  split at this
  · rename_i e; rw [e]; exact h _ _
  · cases this
end
def RtInv {w : World} (knd : PySem.KeyKind PySem.Challenge.rw_nu0220_01.row.prog w Str) (rest : List (Addr × Obj)) (tp lc mt md L1 : Addr) (MD : List DictEntry) (ocb oct : Obj) (vs : List Value) (c : Nat) (ps : Array Value) (i0 : Int) (i : Nat) (ys : List Value) (news' : List (Addr × Obj)) : Prop :=
  ∃ j ta' n' tl kvs, news' = (L1 + 1 + 1, ocb) :: (L1 + 1, oct) :: (tp, listOf #[.ref lc, .int j ta'] n') :: (lc, listOf vs.toArray c) :: (360, tabObj ps) :: (mt, instObj 94 md) :: (md, dictOf MD 5) :: tl ∧ 0 ≤ j ∧ j ≤ i0 + i ∧ OwnOff tl [tp, 360, L1 + 1, L1 + 1 + 1] ∧ (∀ q ∈ rest, q ∈ tl) ∧ PairsIn knd tl ys kvs ∧ ys.length ≤ i
section
variable {w : World} {knd : PySem.KeyKind PySem.Challenge.rw_nu0220_01.row.prog w Str} {rest tl : List (Addr × Obj)} {tp lc mt md L1 L I C D D' : Addr} {MD : List DictEntry} {ocb oct oI oC : Obj} {vs ys : List Value} {c n n' i : Nat} {ps : Array Value} {i0 j j2 : Int} {ta ta2 : Tok} {h h' : Heap} {tk tk' : Nat} {m : Str → Option Value} {s : Shared} {kvs : List (Str × Value)} {ot : Obj}
theorem rt_miss {g : Heap} {y : Value} (F : Fr g L h' m) (N : News g L h' ((I, oI) :: (C, oC) :: (D, LCg.lst ys) :: (L1 + 1 + 1, ocb) :: (L1 + 1, oct) :: (tp, listOf #[.ref lc, .int j ta] n) :: (lc, listOf vs.toArray c) :: (360, tabObj ps) :: (mt, instObj 94 md) :: (md, dictOf MD 5) :: tl))
    (off : LCg.Off3 I C D ((L1 + 1 + 1, ocb) :: (L1 + 1, oct) :: (tp, ot) :: (lc, listOf vs.toArray c) :: (360, tabObj ps) :: (mt, instObj 94 md) :: (md, dictOf MD 5) :: tl))
    (j0 : 0 ≤ j) (j1 : j ≤ i0 + i) (offt : OwnOff tl [tp, 360, L1 + 1, L1 + 1 + 1]) (sub : ∀ q ∈ rest, q ∈ tl) (hPr : PairsIn knd tl ys kvs) (hyl : ys.length ≤ i) :
    LCg.CompEnd g L m { s with heap := h, toks := tk } I oI C oC D (LCg.lst ys) (fun _ => True) (fun _ news' => RtInv knd rest tp lc mt md L1 MD ocb oct vs c ps i0 (i + 1) ys news') y { s with heap := h', toks := tk' } :=
  ⟨h', tk', _, rfl, F, N, off, trivial, j, ta, n, tl, kvs, rfl, j0, by (first | k_extra "MY lo" | omega), offt, sub, hPr, by (first | k_extra "MY lo" | omega)⟩
theorem rt_hit {g : Heap} {tag : Str} {tq : Tok} {val : Value} {nn : Nat} (F : Fr g L h' m) (N : News g L h' ((D', ({ cls := .type "tuple", data := .seq [Value.str tag tq, val].toArray nn } : Obj)) :: (I, oI) :: (C, oC) :: (D, LCg.lst ys) :: (L1 + 1 + 1, ocb) :: (L1 + 1, oct) :: (tp, listOf #[.ref lc, .int j2 ta2] n') :: (lc, listOf vs.toArray c) :: (360, tabObj ps) :: (mt, instObj 94 md) :: (md, dictOf MD 5) :: tl))
    (his : knd.is tag (Value.str tag tq) = true)
    (off : LCg.Off3 I C D ((L1 + 1 + 1, ocb) :: (L1 + 1, oct) :: (tp, ot) :: (lc, listOf vs.toArray c) :: (360, tabObj ps) :: (mt, instObj 94 md) :: (md, dictOf MD 5) :: tl))
    (q1 : @LT.lt Nat _ I D') (q2 : @LT.lt Nat _ C D') (q3 : @LT.lt Nat _ D D') (q4 : @LT.lt Nat _ (L1 + 1 + 1) D') (q5 : @LT.lt Nat _ tp D') (q6 : @LT.lt Nat _ 360 D')
    (j0 : 0 ≤ j2) (j1 : j2 ≤ i0 + i + 1) (offt : OwnOff tl [tp, 360, L1 + 1, L1 + 1 + 1]) (sub : ∀ q ∈ rest, q ∈ tl) (hPr : PairsIn knd tl ys kvs) (hyl : ys.length ≤ i) :
    LCg.CompEnd g L m { s with heap := h, toks := tk } I oI C oC D (LCg.lst ys) (fun _ => True) (fun y news' => RtInv knd rest tp lc mt md L1 MD ocb oct vs c ps i0 (i + 1) (ys ++ [y]) news') (.ref D') { s with heap := h', toks := tk' } := by
  refine ⟨h', tk', (L1 + 1 + 1, ocb) :: (L1 + 1, oct) :: (tp, listOf #[.ref lc, .int j2 ta2] n') :: (lc, listOf vs.toArray c) :: (360, tabObj ps) :: (mt, instObj 94 md) :: (md, dictOf MD 5) :: (D', ({ cls := .type "tuple", data := .seq [Value.str tag tq, val].toArray nn } : Obj)) :: tl, rfl, F, fun p hp => N p ?_, ?_, trivial, j2, ta2, n', _, kvs ++ [(tag, val)], rfl, j0, by (first | k_extra "MY lo" | omega), ?_, fun q hq => .tail _ (sub q hq), (hPr.mono fun p hp => .tail _ hp).snoc (.head _) his, ?_⟩
  · simp only [List.mem_cons] at hp ⊢
    rcases hp with h | h | h | h | h | h | h | h | h | h | h | h <;> simp only [h, true_or, or_true]
  · obtain ⟨a1, a2, a3, a4, a5, a6, a7, a8⟩ := off
    exact ⟨a1, a2, a3, a4, a5, a6, a7, ⟨Nat.ne_of_gt q1, Nat.ne_of_gt q2, Nat.ne_of_gt q3⟩, a8⟩
  · intro p hp b hb
    rcases List.mem_cons.mp hp with rfl | hp
    · simp only [List.mem_cons, List.not_mem_nil, or_false] at hb
      rcases hb with rfl | rfl | rfl | rfl
      · exact Nat.ne_of_gt q5
      · exact Nat.ne_of_gt q6
      · exact Nat.ne_of_gt (Nat.lt_trans (Nat.lt_succ_self _) q4)
      · exact Nat.ne_of_gt q4
    · exact offt p hp b hb
  · rw [List.length_append, List.length_singleton]; (first | k_extra "MY lo" | omega)
end
example : True := by
  k_with "MY enter" => (refine' code_def ?zk1 ?zk2 ?zk3 ?zk4 ?zk5 ?zkA ?zkF ?zkK ?zk6 ?zk7 ?zk8 ?zk9 ?zkB ?_ ?zc2 ?zc3 ?zc4 ?zc5; (case zkA => exact rfl); (case zkF => exact rfl); (case zkK => k_asm); (case zk1 => k_asm); (case zk2 => k_asm); (case zk3 => k_asm); (case zk4 => k_asm); (case zk5 => k_asm); (case zk6 => k_is); (case zk7 => k_is); (case zk8 => ktr_room); (case zk9 => first | exact BindsTo.of_eq rfl | exact binds_K (by k_in) rfl (by k_is) rfl rfl rfl); (case zc5 => decide); (case zkB => exact locs rfl); (case zc2 => exact rfl); (case zc3 => exact rfl); (case zc4 => exact rfl); k_extra "M91c7")
  k_with "MY enterC" => (refine' code_defC ?zk1 ?zk2 ?zk3 ?zk4 ?zk5 ?zkA ?zkF ?zkK ?zk6 ?zk7 ?zk8 ?zk9 ?zkB ?zkD ?_ ?zc2 ?zc3 ?zc4; (case zkA => exact rfl); (case zkF => exact rfl); (case zkK => k_asm); (case zk1 => k_asm); (case zk2 => k_asm); (case zk3 => k_asm); (case zk4 => k_asm); (case zk5 => k_asm); (case zk6 => k_is); (case zk7 => k_is); (case zk8 => ktr_room); (case zk9 => first | exact BindsTo.of_eq rfl | exact binds_K (by k_in) rfl (by k_is) rfl rfl rfl); (case zkB => exact rfl); (case zkD => decide +kernel); (case zc2 => exact rfl); (case zc3 => exact rfl); (case zc4 => exact rfl); k_extra "M289d")
  k_with "MY fn" => (refine wpAny_call ?_; k_dflt (first | k_extra "MY enter" | k_extra "MY enterC"))
  k_with "MY cls" => (k_dflt (refine' call_cls ?zq1 ?zq2 ?zq3 ?zq4 ?zq5 ?zq6 ?_; (case zq1 => k_asm); (case zq2 => k_asm); (case zq3 => k_asm); (case zq4 => k_is); (case zq5 => k_is); (case zq6 => k_is); k_extra "M274b"))
  k_with "MY sub" => repeat' (first | exact List.forall_mem_nil _ | exact Mine.sub_refl | (refine Mine.sub_cons (by k_mem) ?_) | refine Mine.sub_tail ?_)
  k_with "callWith ref" => (k_here; k_dflt (first | refine' callWith_K ?zq1 ?zq2 ?_; (case zq1 => k_asm); (case zq2 => k_is); k_whole | (refine' callWith_K0 (Frag.In.keeps ?zq1 (Fr.keep ?zqF)) ?zq2 ?_; (case zqF => k_asm); (case zq1 => k_asm); (case zq2 => k_is); k_whole) | refine' callWith_K0 ?zq1 ?zq2 ?_; (case zq1 => k_in); (case zq2 => k_is); k_whole))
  k_with "MY lt" => first | assumption | exact Mine.mem_allLt (by assumption) | (refine Mine.mem_allLt ?_; simp only [*]; done)
  k_with "MY tl0" => repeat' (with_reducible first | exact Mine.sub_refl | refine Mine.sub_tail ?_)
  k_with "And" => ((with_reducible show PySem.W.FnAt _ _ ∧ _); k_dflt (refine' ⟨ro_fn ?zqr ?zqs ?zqN, ?_⟩; (case zqr => with_reducible assumption); (case zqN => k_asm); (case zqs => first | (with_reducible exact Mine.sub_refl) | k_extra "MY tl")); try dsimp only [List.nil_append, List.cons_append])
  k_with "callWith ref" => (k_here; k_dflt (first | (refine' callWith_K ?zq1 ?zq2 ?_; (case zq1 => k_asm); (case zq2 => k_is); k_whole) | (refine' callWith_K0 (Frag.In.keeps ?zq1 (Fr.keep ?zqF)) ?zq2 ?_; (case zqF => k_asm); (case zq1 => k_asm); (case zq2 => k_is); k_whole) | (refine' callWith_K0 ?zq1 ?zq2 ?_; (case zq1 => k_in); (case zq2 => k_is); k_whole) | (refine' callWith_F ?zq1 ?_; (case zq1 => refine' Mine.ro_fn ?zqr ?zqs ?zqN; (case zqr => with_reducible assumption); (case zqN => k_asm); (case zqs => first | (with_reducible exact Mine.sub_refl) | k_extra "MY tl")); k_whole)))
  k_with "call ref" => (k_here; k_dflt (refine' Mine.ro_call (by with_reducible assumption) ?zqs ?zqB ?zqF ?zqX ?zqN ?zqT ?zqk ?zqd ?zqu ?_; (case zqB => k_asm); (case zqF => k_asm); (case zqX => k_asm); (case zqN => k_asm); (case zqT => k_asm); (case zqs => first | (with_reducible exact Mine.sub_refl) | k_extra "MY tl"); (case zqk => first | exact rfl | assumption); (case zqd => ktr_room); (case zqu => ktr_units)); k_extra "Me7b0")
  k_with "compareOp In str ref" => (k_here; k_dflt (refine kda_in (knd := PySem.strKind _ _) (by k_asm) (by first | assumption | k_mem) (by k_asm) (by k_asm) (strKind_is _ _ _ _) _ (by first | exact Mine.isSome_none (by assumption) | exact Mine.isSome_some (by assumption)) ?_); (try dsimp only [Option.isSome]))
  k_with "subscriptTail" => (k_here; k_dflt (refine kda_item (knd := PySem.strKind _ _) (by k_asm) (by first | assumption | k_mem) (by k_asm) (strKind_is _ _ _ _) (by assumption) ?_))
  k_with "subscriptTail Name" => (k_here; k_dflt (refine kda_item (knd := PySem.strKind _ _) (by k_asm) (by first | assumption | k_mem) (by k_asm) (strKind_is _ _ _ _) (by assumption) ?_))
  k_with "MY tl" => repeat' (with_reducible first | exact Mine.sub_refl | exact Mine.sub_appR | refine Mine.sub_tail ?_ | refine Mine.sub_left ?_)
  k_with "MY mem" => first | (with_reducible (repeat (first | assumption | exact List.Mem.head _ | (refine List.Mem.tail _ ?_) | (refine List.mem_append_right _ ?_; assumption) | (refine List.mem_append_left _ ?_))); done) | repeat (first | assumption | exact List.Mem.head _ | (refine List.Mem.tail _ ?_) | (refine List.mem_append_right _ ?_; assumption) | (refine List.mem_append_left _ ?_))
  k_with "call ref" => (k_here; (with_reducible show wpAny _ _ (call (Value.ref 358) [Value.ref _, Value.int _ _]) _ _ _); k_dflt (refine' Mine.draw_c ?zqB ?zqF ?zqX ?zqN ?zqT ?zqhk ?zqU ?zqhc ?zqhi ?zqhl ?zqhle ?zqh0 ?zqh1 ?zqhm ?zqhd ?zqhu ?_; (case zqB => k_asm); (case zqF => k_asm); (case zqX => k_asm); (case zqN => k_asm); (case zqT => k_asm); (case zqhk => first | exact rfl | assumption); (case zqU => k_updF); (case zqhc => k_mem); (case zqhi => k_asm); (case zqhl => k_asm); (case zqhle => k_asm); (case zqh0 => first | decide | (first | k_extra "MY lo" | omega)); (case zqh1 => first | decide | (first | k_extra "MY lo" | omega)); (case zqhm => decide); (case zqhd => ktr_room); (case zqhu => ktr_units)); k_extra "M740c")
  k_with "MY sub" => repeat' (with_reducible first | exact List.forall_mem_nil _ | exact Mine.sub_refl | exact Mine.sub_appR | exact Mine.sub_appL | refine Mine.sub_cons ?_ ?_ | (k_dflt k_mem; done) | refine Mine.sub_tail ?_)
  k_with "exec Try" => (k_here; k_dflt (refine wpAny_Try_except ?_))
  k_with "compareOp NotIn str ref" => (k_here; k_dflt (refine kdg_notin (knd := PySem.strKind _ _) (by k_asm) (by first | assumption | k_mem) (by k_asm) (by k_asm) (strKind_is _ _ _ _) _ (by first | exact Mine.isSome_none (by assumption) | exact Mine.isSome_some (by assumption)) ?_); (try dsimp only [Option.isSome, Bool.not_true, Bool.not_false]))
  k_with "compareOp NotEq ref ref" => (k_here; k_dflt (first | (refine' Mine.ne_copy (knd := PySem.strKind _ _) ?zqN ?zqa ?zqb ?zqc ?zqd ?zqe ?zqf ?zqu ?_; (case zqN => k_asm); (case zqa => k_mem); (case zqb => k_mem); (case zqc => assumption); (case zqd => assumption); (case zqe => assumption); (case zqf => assumption); (case zqu => ktr_units)) | (refine' Mine.neAt_tup ?zqN ?zqa ?zqb ?zqu ?zqz ?zqi ?_; (case zqN => k_asm); (case zqa => k_mem); (case zqb => k_mem); (case zqu => ktr_units); (case zqz => rfl); (case zqi => first | exact Mine.pair_items | exact Mine.same_items))); (try dsimp only))
  k_with "compareOp Eq ref ref" => (k_here; k_dflt (first | (refine' Mine.eq_list2 ?zqN ?zqa ?zqb ?zqu ?zq1 ?zq2 ?_; (case zqN => k_asm); (case zqa => k_mem); (case zqb => k_mem); (case zqu => ktr_units); (case zq1 => exact Mine.part_eq (by k_asm) (by assumption) (by assumption) (by k_mem) (by k_mem) (by ktr_units)); (case zq2 => exact Mine.part_eq (by k_asm) (by assumption) (by assumption) (by k_mem) (by k_mem) (by ktr_units))) | (refine' Mine.eq_tup ?zqN ?zqa ?zqb ?zqu ?zqz ?zqi ?_; (case zqN => k_asm); (case zqa => k_mem); (case zqb => k_mem); (case zqu => ktr_units); (case zqz => rfl); (case zqi => first | exact Mine.pair_items | exact Mine.same_items))); (try dsimp only))
  k_with "PartPost" => (k_dflt (first | (refine' PartPost.hit ?zqF ?zqN ?zqm ?zqs ?zqv; (case zqF => k_asm); (case zqN => k_asm); (case zqm => k_mem); (case zqs => k_extra "MY tl"); (case zqv => assumption)) | (refine' PartPost.miss ?zqF ?zqN ?zqm ?zqs ?zqv; (case zqF => k_asm); (case zqN => k_asm); (case zqm => exact .head _); (case zqs => k_extra "MY tl"); (case zqv => assumption))))
  k_with "binaryOp Pow int int" => (k_here; k_dflt (refine' Mine.pow2_any ?zq1 ?zq2 ?_; (case zq1 => (first | k_extra "MY lo" | omega)); (case zq2 => (first | k_extra "MY lo" | omega))); k_extra "Me3b5")
  k_with "binaryOp FloorDiv int int" => (k_here; k_dflt (refine floordiv_int (by (first | k_extra "MY lo" | omega)) ?_ (Or.inl (PyProof.noPylong_small (by (first | k_extra "MY lo" | omega))))))
  k_with "subscriptTail" => k_extra "M3a77"
  k_with "CompSrcT" => (k_here; k_dflt (refine LCt.CompSrcT.range (by rfl) (by k_asm) (by k_asm) (by assumption) (by first | decide | rfl) (by first | rfl | decide) (by first | exact Nat.le_of_ble_eq_true rfl | size_fits) ?_; k_extra "Mf818"))
  k_with "MY fnC" => (refine wpAny_call ?_; k_dflt (refine' Mine.code_defS0C ?zk1 ?zk2 ?zk3 ?zk4 ?zk5 ?zkA ?zkF ?zkK ?zko ?zk6 ?zk7 ?zk8 ?zk9 ?zkB ?zkD ?_ ?zc2 ?zc3 ?zc4; (case zkA => exact rfl); (case zkF => exact rfl); (case zkK => k_asm); (case zko => rfl); (case zk1 => k_asm); (case zk2 => k_asm); (case zk3 => k_asm); (case zk4 => k_asm); (case zk5 => k_asm); (case zk6 => k_is); (case zk7 => k_is); (case zk8 => ktr_room); (case zk9 => exact BindsTo.of_eq rfl); (case zkB => exact rfl); (case zkD => decide +kernel); (case zc2 => exact rfl); (case zc3 => exact rfl); (case zc4 => exact rfl); k_extra "M40ee"))
  k_with "compareOp Eq ref ref" => (k_here; k_dflt (refine' Mine.eq_empty ?zqN ?zqa ?zqb ?zqc ?zqd ?zqe ?zqf ?zqu ?_; (case zqN => k_asm); (case zqa => k_mem); (case zqb => k_mem); (case zqc => k_asm); (case zqd => k_asm); (case zqe => k_asm); (case zqf => k_asm); (case zqu => ktr_units)); (try dsimp only))
  k_with "call ref" => k_extra "MY mt0"
  k_with "MY mt0" => (k_here; (with_reducible show wpAny _ _ (call (Value.ref 91) _) _ _ _); k_dflt (refine' Mine.mt0 ?zqm1 ?zqm2 _ _ _ _ _ _ _ _ _ _ _ _ _ _ _ _ _ ?zqB ?zqF ?zqX ?zqN ?zqT ?zqk ?zqd ?zqu ?_; (case zqB => k_asm); (case zqF => k_asm); (case zqX => k_asm); (case zqN => k_asm); (case zqT => k_asm); (case zqk => first | exact rfl | assumption); (case zqd => ktr_room); (case zqu => ktr_units); (case zqm1 => k_extra "MY mem"); (case zqm2 => k_extra "MY mem")); k_extra "Mdcf1")
  k_with "call ref" => k_extra "MY gt0"
  k_with "getMethod ref" => (k_here; (with_reducible show wpAny _ _ (getMethod (Value.ref _) (Str.ofString "told") _) _ _ _); k_dflt (refine' Mine.gi_meth ?zqF ?zqN ?zqg ?zqs ?_ ?zqX; (case zqg => k_asm); (case zqF => k_asm); (case zqX => k_asm); (case zqN => k_asm); (case zqs => k_extra "MY tl")))
  k_with "MY gt0" => (k_here; (with_reducible show wpAny _ _ (call (Value.ref 200) _) _ _ _); k_dflt (refine' Mine.gt0 ?zqg _ _ _ _ _ _ _ _ _ _ _ _ _ _ _ _ _ ?zqB ?zqF ?zqX ?zqN ?zqT ?zqk ?zqd ?zqu ?_; (case zqB => k_asm); (case zqF => k_asm); (case zqX => k_asm); (case zqN => k_asm); (case zqT => k_asm); (case zqk => first | exact rfl | assumption); (case zqd => ktr_room); (case zqu => ktr_units); (case zqg => first | exact GdefIn.mono (by assumption) (by k_extra "MY tl") | exact (show GdefIn _ [] _ _ from Mine.GdefIn.intro (kvs := []) (by k_mem) (by k_mem) (by k_mem) (by k_mem) (by k_mem) (by k_mem) (by k_mem) (by k_mem) (by k_mem) (by k_mem) (by k_mem) (by assumption) .nil (Nat.zero_le _) ⟨by assumption, by assumption⟩ (by assumption) (by assumption) (by assumption) (by assumption) (by assumption) (by assumption)))); k_extra "M67b0")
  k_with "call ref" => k_extra "MY cd0"
  k_with "MY cd0" => (k_here; (with_reducible show wpAny _ _ (call (Value.ref 155) _) _ _ _); k_dflt (refine' Mine.cd0  _ _ _ _ _ _ _ _ _ _ _ _ _ _ _ _ _ ?zqB ?zqF ?zqX ?zqN ?zqT ?zqk ?zqd ?zqu ?_; (case zqB => k_asm); (case zqF => k_asm); (case zqX => k_asm); (case zqN => k_asm); (case zqT => k_asm); (case zqk => first | exact rfl | assumption); (case zqd => ktr_room); (case zqu => ktr_units)); k_extra "M32c7")
  k_with "call ref" => k_extra "MY gn0"
  k_with "MY gn0" => (k_here; (with_reducible show wpAny _ _ (call (Value.ref 203) _) _ _ _); k_dflt (refine' Mine.gn0  _ _ _ _ _ _ _ _ _ _ _ _ _ _ _ _ _ ?zqB ?zqF ?zqX ?zqN ?zqT ?zqk ?zqd ?zqu ?_; (case zqB => k_asm); (case zqF => k_asm); (case zqX => k_asm); (case zqN => k_asm); (case zqT => k_asm); (case zqk => first | exact rfl | assumption); (case zqd => ktr_room); (case zqu => ktr_units)); k_extra "M4d79")
  k_with "compareOp NotEq ref ref" => (k_here; k_dflt (refine' Mine.gt_ne_same ?zqN ?zq1 ?zq2 ?zqu ?zqh ?zqk ?_; (case zqN => k_asm); (case zqh => k_asm); (case zqk => k_asm); (case zq1 => k_extra "MY tl"); (case zq2 => k_extra "MY tl"); (case zqu => ktr_units)); (try dsimp only))
  trivial
local macro_rules | `(tactic| k_extra "M740c") => `(tactic| (intro x0 x1 x2 x3 x4 x5 x6 x7 x8 x9; (try dsimp only at x9); (try k_sweep)))
local macro_rules | `(tactic| k_extra "Me3b5") => `(tactic| (intro x0 x1 x2; (try dsimp only)))
local macro_rules | `(tactic| k_extra "M3a77") => `(tactic| (k_here; (with_reducible show wpAny _ _ (subscriptTail _ _ (Value.ref 351) (Value.int _ _)) _ _ _); k_dflt (refine' tag_item ?zqX ?zqF ?zqe ?zqc ?zqd ?zqI ?zq0 ?zq1 ?zqz ?_ (by with_unfolding_all rfl) (by intro _; with_unfolding_all rfl); (case zqX => k_asm); (case zqF => k_asm); (case zqe => k_is); (case zqc => rfl); (case zqd => rfl); (case zqI => rfl); (case zq0 => (first | k_extra "MY lo" | omega)); (case zq1 => (show _ < ((6 : Nat) : Int); (first | k_extra "MY lo" | omega))); (case zqz => decide)); intro tag' tok'))
local macro_rules | `(tactic| k_extra "Mf818") => `(tactic| (intro x0))
local macro_rules | `(tactic| k_extra "M40ee") => `(tactic| (intro x0 x1 x2 x3 x4 x5 x6 x7 x8 x9 x10 x11 x12 x13; (try k_lt x12); k_cells x8; (try simp only [List.cons_append, List.nil_append] at x7); (try dsimp only); (try k_lift x9); (try k_fold)))
local macro_rules | `(tactic| k_handed) => `(tactic| assumption)
local macro_rules | `(tactic| k_extra "Mdcf1") => `(tactic| (intro x0 x1 x2 x3 x4 x5; (try dsimp only [List.cons_append] at x4); (try k_lt x5); (try k_sweep)))
theorem rr {w : World} {p : Program} {loose : List Str} {mean : ExcName → Option Value} {mg mb : Str → Option Value} {tp lc mt md wt bt : Addr} {i : Int} {ta k1 k2 k3 k4 k5 e1 e2 e3 : Tok} {vs : List Value} {ns : List Int} {n c : Nat} {ps : Array Value} {rest : List (Addr × Obj)}
  (hi : IntsAre vs ns) (hlen : 0 < ns.length) (hle : ns.length ≤ 24) (h0 : 0 ≤ i) (h1 : i ≤ 50) (ht : OwnOff rest [tp, 360]) (o1 : @LT.lt Nat _ 360 lc) (o2 : @LT.lt Nat _ lc tp) (o3 : @LT.lt Nat _ tp mt) (o4 : @LT.lt Nat _ tp md) (o5 : @Ne Nat mt md) (htab : ps = #[] ∨ TabSt qualL ps rest)
  : ∀ (dp un : Nat) (gd : Option (List Code)) (cn : Str) (cs : Scope) (a : Addr) (ccd : Value) (cl : List (Str × Addr)) (outer : List Env) (A₀ : Around) (base h₀ : Heap) (L : Addr) (m : Str → Option Value) (s : Shared) (Q E : Value → Shared → Prop)
  (_B : Below A₀ base outer h₀) (_F : Fr h₀ L s.heap m) (_X : (hd.heap_39 w.params).In h₀) (_N : News h₀ L s.heap ((tp, listOf #[.ref lc, .int i ta] n) :: (lc, listOf vs.toArray c) :: (360, tabObj ps) :: (mt, instObj 94 md) :: (md, dictOf [{ hash := PyData.keyHash w.params (Str.ofString "units"), key := .str (Str.ofString "units") k1, val := .int 16 e1 }, { hash := PyData.keyHash w.params (Str.ofString "ascent"), key := .str (Str.ofString "ascent") k2, val := .int 1 e2 }, { hash := PyData.keyHash w.params (Str.ofString "descent"), key := .str (Str.ofString "descent") k3, val := .int (-1) e3 }, { hash := PyData.keyHash w.params (Str.ofString "advances"), key := .str (Str.ofString "advances") k4, val := .ref wt }, { hash := PyData.keyHash w.params (Str.ofString "bearings"), key := .str (Str.ofString "bearings") k5, val := .ref bt }] 5) :: rest)) (_T : Top p loose mean mg mb h₀) (_hk : cs.kind = .function)
  (_hd : dp + 24 < recursionLimit) (_hu : un + 250 < cLine)
  (_hret : ∀ j' ta' n' c' oc' h' tk', 0 ≤ j' → j' ≤ i + 7 → Fr h₀ L h' m → News h₀ L h' ((tp, listOf #[.ref lc, .int j' ta'] n') :: (lc, listOf vs.toArray c) :: (360, tabObj #[rawInt 151, rawInt 23, .ref c']) :: (mt, instObj 94 md) :: (md, dictOf [{ hash := PyData.keyHash w.params (Str.ofString "units"), key := .str (Str.ofString "units") k1, val := .int 16 e1 }, { hash := PyData.keyHash w.params (Str.ofString "ascent"), key := .str (Str.ofString "ascent") k2, val := .int 1 e2 }, { hash := PyData.keyHash w.params (Str.ofString "descent"), key := .str (Str.ofString "descent") k3, val := .int (-1) e3 }, { hash := PyData.keyHash w.params (Str.ofString "advances"), key := .str (Str.ofString "advances") k4, val := .ref wt }, { hash := PyData.keyHash w.params (Str.ofString "bearings"), key := .str (Str.ofString "bearings") k5, val := .ref bt }] 5) :: (c', oc') :: rest) → TabSt qualL #[rawInt 151, rawInt 23, .ref c'] [(c', oc')] → Q (.bool true) { s with heap := h', toks := tk' }) (_hc : CodeHd base 362 360) (_ho : outer = []) (_XB : (hd.heap_39 w.params).In base) (_TB : Top p loose mean mg mb base),
  wpAny (model PySem.Challenge.rw_nu0220_01.row.prog w) (ktrTop dp un gd cn cs L a ccd cl outer) (call (.ref 368) [.ref tp, .ref mt]) Q E s := by
  k_fill
  intro dp un gd cn cs a ccd cl outer A₀ base h₀ L m s Q E B F X N T hk hd hu hret
  intro hcd ho XB TB
  subst ho
  let MD : List DictEntry := [{ hash := PyData.keyHash w.params (Str.ofString "units"), key := .str (Str.ofString "units") k1, val := .int 16 e1 }, { hash := PyData.keyHash w.params (Str.ofString "ascent"), key := .str (Str.ofString "ascent") k2, val := .int 1 e2 }, { hash := PyData.keyHash w.params (Str.ofString "descent"), key := .str (Str.ofString "descent") k3, val := .int (-1) e3 }, { hash := PyData.keyHash w.params (Str.ofString "advances"), key := .str (Str.ofString "advances") k4, val := .ref wt }, { hash := PyData.keyHash w.params (Str.ofString "bearings"), key := .str (Str.ofString "bearings") k5, val := .ref bt }]
  change News h₀ L s.heap ((tp, listOf #[.ref lc, .int i ta] n) :: (lc, listOf vs.toArray c) :: (360, tabObj ps) :: (mt, instObj 94 md) :: (md, dictOf MD 5) :: rest) at N
  k_extra "MY fnC"
  rename_i g1 L1 hh1 tk1 FG1 F1 B1 X1 T1 D1 l1 oc1 oc2 d1' d2' N1
  have hA : AllLt L1 rest := l1.2.2.2.2.2
  have ht' : OwnOff rest [tp, 360, L1 + 1, L1 + 1 + 1] := by
    intro p hp b hb
    have h1 : @LT.lt Nat _ p.1 L1 := mem_allLt hA p hp
    simp only [List.mem_cons, List.not_mem_nil, or_false] at hb
    rcases hb with rfl | rfl | rfl | rfl
    · exact ht p hp _ (.head _)
    · exact ht p hp _ (.tail _ (.head _))
    · show @Ne Nat p.1 (L1 + 1)
      (first | k_extra "MY lo" | omega)
    · show @Ne Nat p.1 (L1 + 1 + 1)
      (first | k_extra "MY lo" | omega)
  clear ht
  repeat' ((fail_if_success (with_reducible show wpAny _ _ (eval (Expr.ListComp _ _ _ _) _) _ _ _)); (first | (k_unfold; (try dsimp only)) | walk1 | (dsimp only; walk1) | fail "no step"))
  k_dflt (refine LCt.ListComp_T (F₀ := by k_asm) (by with_unfolding_all rfl) (by decide) (by rfl) (by decide) (by rfl) ?_)
  k_dflt lct_toSrc
  rename_i rb tb ta2 n2 hj1 tkj rb0 rb1 hj2 ocb F2 N2 d3 hj3 tkk tr1 tr2 tr3 hR F3 N3 K3 gg
  refine compRestT_inv (RtInv (sK w) rest tp lc mt md L1 MD ocb oc2 vs c ps (i + 1)) ?_ ?_ _ 0 [] _ rfl ?_
  · rintro i2 ys news hi2 ⟨j, ta', n', tl, kvs, rfl, j0, j1, offt, sub, hPr, hyl⟩ v I oI C oC D m₂ h tk E' ⟨tv, rfl⟩ hC hx F' N' off ne
    clear F2 N2 F3 N3 K3 hR hret
    have off0 := off
    simp only [LCg.Off3] at off
    have hi6 : i2 < 6 := hi2
    · k_steps
      · dsimp only
        refine rt_hit (j2 := j + 1) (by k_asm) (news_sub (by k_asm) (by k_extra "MY sub")) (strKind_is _ _ _ _) off0 (by (first | k_extra "MY lo" | omega)) (by (first | k_extra "MY lo" | omega)) (by (first | k_extra "MY lo" | omega)) (by (first | k_extra "MY lo" | omega)) (by (first | k_extra "MY lo" | omega)) (by (first | k_extra "MY lo" | omega)) (by (first | k_extra "MY lo" | omega)) (by (first | k_extra "MY lo" | omega)) offt sub hPr hyl
      · exact rt_miss (by k_asm) (news_sub (by k_asm) (by k_extra "MY sub")) off0 j0 (by (first | k_extra "MY lo" | omega)) offt sub hPr hyl
  · rintro ys news ⟨j, ta', n', tl, kvs, rfl, j0, j1, offt, sub, hPr, hyl⟩ D h tk F' N' o1'
    have hys : ys.length ≤ sizeLine := Nat.le_trans hyl (Nat.le_of_ble_eq_true rfl)
    clear F2 N2 F3 N3 K3 hR
    have htab2 : ps = #[] ∨ TabSt qualL ps tl := htab.imp id (·.mono sub)
    clear htab
    k_steps
    refine dl_call (knd := sK w) (hh := rfl) (by k_asm) (by k_asm) (Top.nolimit (by k_asm)) (.head _) (hPr.mono fun p hp => by repeat (first | exact hp | apply List.Mem.tail)) hys ?_
    intro ta4 h4 o4 tk4 F4 N4 l4 lo4 hdo4
    have hkl : (merged [] kvs).length ≤ sizeLine := Nat.le_trans (merged_length_le [] kvs) (by rw [List.length_nil, Nat.zero_add, ← hPr.length]; exact hys)
    generalize merged [] kvs = kv at hdo4 hkl
    clear hPr hyl
    simp only [LCg.Off1] at o1'
    k_lt l4
    k_steps
    refine dd_call (by k_asm) (by k_asm) (Top.nolimit (by k_asm)) (.head _) hdo4 lo4 hkl ?_
    intro tb5 h5 o5 F5 N5 l5 lo5 hdo5
    k_lt l5
    repeat' ((fail_if_success (with_reducible show wpAny _ _ (call (Value.ref 363) _) _ _ _)); (first | (k_unfold; (try dsimp only)) | walk1 | (dsimp only; walk1) | fail "no step"))
    k_dflt (refine' rd_call (tl₀ := tl) ?zqB ?zqF ?zqX ?zqN ?zqT ?zqk ?zqd ?zqu ?zqc ?zqU ?zqt ?zqs ?zqo ?_)
    (case zqB => k_asm); (case zqF => k_asm); (case zqX => k_asm); (case zqN => k_asm); (case zqT => k_asm); (case zqk => first | exact rfl | assumption); (case zqd => ktr_room); (case zqu => ktr_units); (case zqc => assumption); (case zqU => k_updF); (case zqt => assumption); (case zqs => k_extra "MY tl"); (case zqo => k_all)
    intro rd6 o6 rvs ps6 tl6 h6 tk6 F6 N6 l6 sub6 off6 tab6 hdo6 hrd6 lo6 l6'
    obtain ⟨c', oc', vs', t', rfl, hmc, hdc, hvc⟩ := tab6
    have j7 : j ≤ i + 7 := by
      have e7 : j ≤ i + 1 + ((6 : Nat) : Int) := j1
      (first | k_extra "MY lo" | omega)
    dsimp only [List.cons_append] at N6 l6
    have N7 : News g1 L1 h6 ((rd6, o6) :: (tb5, o5) :: (ta4, o4) :: (tp, listOf #[.ref lc, .int j ta'] n') :: (lc, listOf vs.toArray c) :: (360, tabObj #[rawInt 151, rawInt 23, .ref c']) :: (mt, instObj 94 md) :: (md, dictOf MD 5) :: tl6) := news_sub N6 (by k_extra "MY sub")
    have hrs : ∀ q ∈ rest, q ∈ tl6 := fun q hq => sub6 q (by have := sub q hq; clear N7 N6; repeat (first | exact this | apply List.Mem.tail)) (offt q (sub q hq) _ (.tail _ (.head _)))
    have hA6 : AllLt rd6 tl6 := allLt_mem l6'
    clear N6 sub6 l6'
    k_lt l6
    repeat' ((fail_if_success (with_reducible show wpAny _ _ (call (Value.ref 304) _) _ _ _)); (first | (k_unfold; (try dsimp only)) | walk1 | (dsimp only; walk1) | fail "no step"))
    rcases hcm : valueAt kv (Str.ofString "cmap") with _ | dc
    · k_dflt (refine' fr0 hdo4 lo4 hdo6 lo6 ?zqrd ?zqma ?zqmr hcm _ _ _ _ _ _ _ _ _ _ _ _ _ _ _ _ _ ?zqB ?zqF ?zqX ?zqN ?zqT ?zqk ?zqd ?zqu ?_)
      (case zqB => k_asm); (case zqF => k_asm); (case zqX => k_asm); (case zqN => exact N7); (case zqT => k_asm); (case zqk => first | exact rfl | assumption); (case zqd => ktr_room); (case zqu => ktr_units); (case zqma => k_mem); (case zqmr => k_mem); (case zqrd => exact hrd6.mono (by k_extra "MY tl"))
      intro G e t vs2 nw h8 tk8 FG8 RS U8 sub8
      refine caught_X0 RS FG8 B1 U8 XB TB D1 KtsTurn.refl ?_ ?_ ?_ (by rfl) (by rfl) (by decide) (by passes_own)
      · k_is
      · kts_isx
      · intro h9 g9 nw9 T9 F9 N9 Got9 Nl9 B9 X9 P9 D9
        clear N9 Got9
        have N10 := news_sub Nl9 sub8
        clear Nl9 N7
        k_steps
        rename_i kF kN Tc kX
        refine hret j ta' n' c' oc' _ _ j0 j7 kF (news_sub kN ?_) ⟨c', oc', _, _, rfl, .head _, hdc, hvc⟩
        exact led_mem (by k_mem) (by k_mem) (by k_mem) (by k_mem) (by k_mem) (by k_extra "MY mem") (fun p hp => by repeat (first | exact hrs p hp | exact List.mem_append_left _ (hrs p hp) | exact List.mem_append_left _ (List.mem_append_left _ (hrs p hp)) | exact List.mem_append_left _ (List.mem_append_left _ (List.mem_append_left _ (hrs p hp))) | refine List.Mem.tail _ ?_))
    · k_dflt (refine' fb0 hdo4 lo4 hdo6 lo6 ?zqrd ?zqma ?zqmr hcm _ _ _ _ _ _ _ _ _ _ _ _ _ _ _ _ _ ?zqB ?zqF ?zqX ?zqN ?zqT ?zqk ?zqd ?zqu ?_)
      (case zqB => k_asm); (case zqF => k_asm); (case zqX => k_asm); (case zqN => exact N7); (case zqT => k_asm); (case zqk => first | exact rfl | assumption); (case zqd => ktr_room); (case zqu => ktr_units); (case zqma => k_mem); (case zqmr => k_mem); (case zqrd => exact hrd6.mono (by k_extra "MY tl"))
      intro f df fc g v1 v2 v3 v4 t1 t2 t3 t4 ek oe ot1 ot2 ot3 ot4 k1' k2' k3' k4' k5' k6' tt gw h8 tk8 F8 N8 gi8 hP1 hP2 hP3 hP4 em8 lo8
      clear N7
      dsimp only [List.cons_append] at N8
      obtain ⟨R8, eR, NR⟩ := news_gen N8
      clear N8
      have mm0 : (f, instObj 244 df) ∈ R8 := mem_of_eq eR (by k_mem)
      have mm1 : (df, dictOf [{ hash := PyData.keyHash w.params (Str.ofString "charmap"), key := .str (Str.ofString "charmap") k1', val := .ref fc }, { hash := PyData.keyHash w.params (Str.ofString "metrics"), key := .str (Str.ofString "metrics") k2', val := .ref mt }, { hash := PyData.keyHash w.params (Str.ofString "gdef"), key := .str (Str.ofString "gdef") k3', val := v1 }, { hash := PyData.keyHash w.params (Str.ofString "gsub"), key := .str (Str.ofString "gsub") k4', val := v2 }, { hash := PyData.keyHash w.params (Str.ofString "gpos"), key := .str (Str.ofString "gpos") k5', val := v3 }, { hash := PyData.keyHash w.params (Str.ofString "kern"), key := .str (Str.ofString "kern") k6', val := v4 }] 6) ∈ R8 := mem_of_eq eR (by k_mem)
      have mm2 : (t4, ot4) ∈ R8 := mem_of_eq eR (by k_mem)
      have mm3 : (ek, oe) ∈ R8 := mem_of_eq eR (by k_mem)
      have mm4 : (t3, ot3) ∈ R8 := mem_of_eq eR (by k_mem)
      have mm5 : (t2, ot2) ∈ R8 := mem_of_eq eR (by k_mem)
      have mm6 : (t1, ot1) ∈ R8 := mem_of_eq eR (by k_mem)
      have mm7 : (fc, tup [.str (Str.ofString "cmap") tt, dc]) ∈ R8 := mem_of_eq eR (by k_mem)
      have mm8 : (tp, listOf #[.ref lc, .int j ta'] n') ∈ R8 := mem_of_eq eR (by k_mem)
      have mm9 : (lc, listOf vs.toArray c) ∈ R8 := mem_of_eq eR (by k_mem)
      have mm10 : (360, tabObj #[rawInt 151, rawInt 23, .ref c']) ∈ R8 := mem_of_eq eR (by k_mem)
      have mm11 : (mt, instObj 94 md) ∈ R8 := mem_of_eq eR (by k_mem)
      have mm12 : (md, dictOf MD 5) ∈ R8 := mem_of_eq eR (by k_mem)
      have mm13 : (ta4, o4) ∈ R8 := mem_of_eq eR (by k_mem)
      have mm14 : (rd6, o6) ∈ R8 := mem_of_eq eR (by k_mem)
      have mm15 : (tb5, o5) ∈ R8 := mem_of_eq eR (by k_mem)
      have hrR : ∀ q ∈ rest, q ∈ R8 := fun q hq => mem_of_eq eR (by repeat (first | exact List.mem_append_left _ (hrs q hq) | refine List.Mem.tail _ ?_))
      have hgR : ∀ q ∈ gw, q ∈ R8 := fun q hq => mem_of_eq eR (by repeat (first | exact List.mem_append_right _ hq | refine List.Mem.tail _ ?_))
      have mm16 : (c', oc') ∈ R8 := mem_of_eq eR (by k_extra "MY mem")
      clear eR
      replace gi8 := gi8.mono hgR
      clear hgR
      have em8a := em8.1
      have hh2 := part_handed hP2
      have hh3 := part_handed hP3
      rcases hgd : valueAt kv (Str.ofString "GDEF") with _ | dg
      · rcases hP1 with ⟨_, _, e, _⟩ | ⟨_, rfl⟩
        · rw [hgd] at e; cases e
        · skip

          repeat' ((fail_if_success (with_reducible show wpAny _ _ (eval (Expr.IfExp _ _ _ _) _) _ _ _)); (first | (k_unfold; (try dsimp only)) | walk1 | (dsimp only; walk1) | fail "no step"))
          k_dflt (refine' part_merge (Str.ofString "GSUB") kv ?zqF ?zqN ?_ ?_ ?_)
          (case zqF => k_asm); (case zqN => k_asm)
          · intro hgs
            k_steps
          · intro dgs hgs
            k_steps
          · intro v5 t5 ot5 h15 tk15 F15 N15 hP5
            k_sweep
            repeat' ((fail_if_success (with_reducible show wpAny _ _ (eval (Expr.IfExp _ _ _ _) _) _ _ _)); (first | (k_unfold; (try dsimp only)) | walk1 | (dsimp only; walk1) | fail "no step"))
            k_dflt (refine' part_merge (Str.ofString "GPOS") kv ?zrF ?zrN ?_ ?_ ?_)
            (case zrF => k_asm); (case zrN => k_asm)
            · intro hgs
              k_steps
            · intro dgs hgs
              k_steps
            · intro v6 t6 ot6 h16 tk16 F16 N16 hP6
              k_sweep
              rcases hkn : valueAt kv (Str.ofString "kern") with _ | dk
              · rcases hP4 with ⟨_, _, e, _⟩ | ⟨_, rfl⟩
                · rw [hkn] at e; cases e
                · k_steps
                  rename_i kF kN Tc kX
                  refine hret j ta' n' c' oc' _ _ j0 j7 kF (news_sub kN ?_) ⟨c', oc', _, _, rfl, .head _, hdc, hvc⟩
                  exact led_mem (by k_mem) (by k_mem) (by k_mem) (by k_mem) (by k_mem) (by k_mem) (fun p hp => by have hq := hrR p hp; repeat (first | exact hq | refine List.Mem.tail _ ?_ | refine List.mem_append_left _ ?_))
              · rcases hP4 with ⟨_, _, e, rfl, rfl⟩ | ⟨e, _⟩
                · rw [hkn] at e; cases e
                  k_steps
                  rename_i kF kN Tc kX
                  refine hret j ta' n' c' oc' _ _ j0 j7 kF (news_sub kN ?_) ⟨c', oc', _, _, rfl, .head _, hdc, hvc⟩
                  exact led_mem (by k_mem) (by k_mem) (by k_mem) (by k_mem) (by k_mem) (by k_mem) (fun p hp => by have hq := hrR p hp; repeat (first | exact hq | refine List.Mem.tail _ ?_ | refine List.mem_append_left _ ?_))
                · rw [hkn] at e; cases e
      · rcases hP1 with ⟨_, _, e, rfl, rfl⟩ | ⟨e, _⟩
        · rw [hgd] at e; cases e

          repeat' ((fail_if_success (with_reducible show wpAny _ _ (eval (Expr.IfExp _ _ _ _) _) _ _ _)); (first | (k_unfold; (try dsimp only)) | walk1 | (dsimp only; walk1) | fail "no step"))
          k_dflt (refine' part_merge (Str.ofString "GSUB") kv ?zqF ?zqN ?_ ?_ ?_)
          (case zqF => k_asm); (case zqN => k_asm)
          · intro hgs
            k_steps
          · intro dgs hgs
            k_steps
          · intro v5 t5 ot5 h15 tk15 F15 N15 hP5
            k_sweep
            repeat' ((fail_if_success (with_reducible show wpAny _ _ (eval (Expr.IfExp _ _ _ _) _) _ _ _)); (first | (k_unfold; (try dsimp only)) | walk1 | (dsimp only; walk1) | fail "no step"))
            k_dflt (refine' part_merge (Str.ofString "GPOS") kv ?zrF ?zrN ?_ ?_ ?_)
            (case zrF => k_asm); (case zrN => k_asm)
            · intro hgs
              k_steps
            · intro dgs hgs
              k_steps
            · intro v6 t6 ot6 h16 tk16 F16 N16 hP6
              k_sweep
              rcases hkn : valueAt kv (Str.ofString "kern") with _ | dk
              · rcases hP4 with ⟨_, _, e, _⟩ | ⟨_, rfl⟩
                · rw [hkn] at e; cases e
                · k_steps
                  rename_i kF kN Tc kX
                  refine hret j ta' n' c' oc' _ _ j0 j7 kF (news_sub kN ?_) ⟨c', oc', _, _, rfl, .head _, hdc, hvc⟩
                  exact led_mem (by k_mem) (by k_mem) (by k_mem) (by k_mem) (by k_mem) (by k_mem) (fun p hp => by have hq := hrR p hp; repeat (first | exact hq | refine List.Mem.tail _ ?_ | refine List.mem_append_left _ ?_))
              · rcases hP4 with ⟨_, _, e, rfl, rfl⟩ | ⟨e, _⟩
                · rw [hkn] at e; cases e
                  k_steps
                  rename_i kF kN Tc kX
                  refine hret j ta' n' c' oc' _ _ j0 j7 kF (news_sub kN ?_) ⟨c', oc', _, _, rfl, .head _, hdc, hvc⟩
                  exact led_mem (by k_mem) (by k_mem) (by k_mem) (by k_mem) (by k_mem) (by k_mem) (fun p hp => by have hq := hrR p hp; repeat (first | exact hq | refine List.Mem.tail _ ?_ | refine List.mem_append_left _ ?_))
                · rw [hkn] at e; cases e
        · rw [hgd] at e; cases e
  · refine ⟨_, _, _, rest, [], rfl, ?_, ?_, ht', fun _ h => h, .nil, Nat.zero_le _⟩
    all_goals first | (first | k_extra "MY lo" | omega) | (simp; (first | k_extra "MY lo" | omega))
example : True ∧ True := by w_top off; first | (walk1; done) | exact ⟨trivial, trivial⟩
example : True := by
  k_with_none
  k_with "eval Name" => (k_here; (with_reducible show wpAny _ _ (eval (Expr.Name _ _) (compEnvC _ _ _ _)) _ _ _); k_dflt (first | (name_kind "local"; refine' LCgL.ld_own ?zN ?zm ?zC ?zx ?_ ?zk ?zl ?zd; (case zk => kernel_rfl); (case zl => kernel_rfl); (case zd => kernel_rfl); (case zN => k_asm); (case zm => k_mem); (case zC => assumption); (case zx => assumption); k_whole) | (name_kind "globalImplicit"; first | (refine' LCgL.ld_global ?zF ?zX ?zT ?ze ?_ ?zg ?zk ?zl ?zd; (case zg => kernel_rfl); (case zk => kernel_rfl); (case zl => kernel_rfl); (case zd => kernel_rfl); (case zF => k_asm); (case zX => k_asm); (case zT => k_asm); (case ze => k_is); k_whole) | (refine' LCgL.ld_built ?zF ?zX ?zT ?ze ?zv ?zn ?_ ?zg ?zb ?zk ?zl ?zd; (case zg => kernel_rfl); (case zb => kernel_rfl); (case zk => kernel_rfl); (case zl => kernel_rfl); (case zd => kernel_rfl); (case zF => k_asm); (case zX => k_asm); (case zT => k_asm); (case ze => k_is); (case zv => boot_fast); (case zn => decide); k_whole))))
  k_with "eval Name" => (k_here; (fail_if_success (with_reducible show wpAny _ _ (eval (Expr.Name _ _) (compEnvC _ _ _ _)) _ _ _)); k_dflt (first | (name_kind "local"; refine' nameX_L ?zF ?zv ?_ ?za ?zb ?zc; (case zF => k_asm); (case za => kernel_rfl); (case zb => kernel_rfl); (case zc => kernel_rfl); (case zv => rfl); k_whole) | (name_kind "cell"; refine' nameX_C ?zN ?zl ?zm ?zd ?_ ?za ?zb ?zc; (case za => kernel_rfl); (case zb => kernel_rfl); (case zc => kernel_rfl); (case zN => k_asm); (case zl => rfl); (case zm => k_mem); (case zd => k_asm); k_whole) | (name_kind "globalImplicit"; first | (refine' nameX_K ?zF ?zX ?zT ?ze ?_ ?za ?zb ?zc; (case za => kernel_rfl); (case zb => kernel_rfl); (case zc => kernel_rfl); (case zF => k_asm); (case zX => k_asm); (case zT => k_asm); (case ze => k_is); k_whole) | (refine' nameX_B ?zF ?zX ?zT ?ze ?zv ?zn ?_ ?za ?zb ?zc; (case za => kernel_rfl); (case zb => kernel_rfl); (case zc => kernel_rfl); (case zF => k_asm); (case zX => k_asm); (case zT => k_asm); (case ze => k_is); (case zv => boot_fast); (case zn => decide); k_whole))))
  k_with "ite" => (k_closed; first | (with_reducible refine ite_pos ?zi ?_; (case zi => decide +kernel)) | (with_reducible refine ite_neg ?zi ?_; (case zi => decide +kernel)))
  k_with "getAttr ref" => (k_here; k_dflt (refine' get_own ?zF ?zX ?zI ?zg ?zh ?za ?zn ?zl ?zv ?_; (case zF => k_asm); (case zX => k_asm); (case zI => k_inst); (case zl => k_get); (case zg => k_is); (case zh => k_is); (case za => k_is); (case zn => k_is); (case zv => k_handed); k_whole))
  k_with "spliced" => ((with_reducible show wpAny _ _ (spliced (backTo _ (starEach (_ :: _) _))) _ _ _); k_dflt (refine args_cons ?_))
  k_with "newList" => (k_here; k_dflt (refine' newList_K ?zF ?zN ?_ ?zs; (case zF => k_asm); (case zN => k_asm); (case zs => exact Nat.le_of_ble_eq_true rfl); k_whole); k_extra "M46a0")
  k_with "MY ltp" => ((with_reducible rename @LT.lt Nat _ _ _ ∧ _ => kL); first | (with_reducible first | exact kL.1 | exact kL.2 | exact kL.2.1 | exact kL.2.2 | exact kL.2.2.1 | exact kL.2.2.2 | exact kL.2.2.2.1 | exact kL.2.2.2.2 | exact kL.2.2.2.2.1 | exact kL.2.2.2.2.2 | exact kL.2.2.2.2.2.1 | exact kL.2.2.2.2.2.2 | exact kL.2.2.2.2.2.2.1 | exact kL.2.2.2.2.2.2.2 | exact kL.2.2.2.2.2.2.2.1 | exact kL.2.2.2.2.2.2.2.2 | exact kL.2.2.2.2.2.2.2.2.1 | exact kL.2.2.2.2.2.2.2.2.2 | exact kL.2.2.2.2.2.2.2.2.2.1 | exact kL.2.2.2.2.2.2.2.2.2.2 | exact kL.2.2.2.2.2.2.2.2.2.2.1 | exact kL.2.2.2.2.2.2.2.2.2.2.2 | exact kL.2.2.2.2.2.2.2.2.2.2.2.1 | exact kL.2.2.2.2.2.2.2.2.2.2.2.2 | exact kL.2.2.2.2.2.2.2.2.2.2.2.2.1 | exact kL.2.2.2.2.2.2.2.2.2.2.2.2.2 | exact kL.2.2.2.2.2.2.2.2.2.2.2.2.2.1 | exact kL.2.2.2.2.2.2.2.2.2.2.2.2.2.2 | exact kL.2.2.2.2.2.2.2.2.2.2.2.2.2.2.1 | exact kL.2.2.2.2.2.2.2.2.2.2.2.2.2.2.2 | exact kL.2.2.2.2.2.2.2.2.2.2.2.2.2.2.2.1 | exact kL.2.2.2.2.2.2.2.2.2.2.2.2.2.2.2.2 | exact kL.2.2.2.2.2.2.2.2.2.2.2.2.2.2.2.2.1 | exact kL.2.2.2.2.2.2.2.2.2.2.2.2.2.2.2.2.2 | exact kL.2.2.2.2.2.2.2.2.2.2.2.2.2.2.2.2.2.1 | exact kL.2.2.2.2.2.2.2.2.2.2.2.2.2.2.2.2.2.2 | exact kL.2.2.2.2.2.2.2.2.2.2.2.2.2.2.2.2.2.2.1 | exact kL.2.2.2.2.2.2.2.2.2.2.2.2.2.2.2.2.2.2.2 | exact kL.2.2.2.2.2.2.2.2.2.2.2.2.2.2.2.2.2.2.2.1 | exact kL.2.2.2.2.2.2.2.2.2.2.2.2.2.2.2.2.2.2.2.2 | exact kL.2.2.2.2.2.2.2.2.2.2.2.2.2.2.2.2.2.2.2.2.1 | exact kL.2.2.2.2.2.2.2.2.2.2.2.2.2.2.2.2.2.2.2.2.2 | exact kL.2.2.2.2.2.2.2.2.2.2.2.2.2.2.2.2.2.2.2.2.2.1 | exact kL.2.2.2.2.2.2.2.2.2.2.2.2.2.2.2.2.2.2.2.2.2.2 | exact kL.2.2.2.2.2.2.2.2.2.2.2.2.2.2.2.2.2.2.2.2.2.2.1 | exact kL.2.2.2.2.2.2.2.2.2.2.2.2.2.2.2.2.2.2.2.2.2.2.2) | (clear kL; k_extra "MY ltp"))
  k_with "MY ne" => first | (refine Nat.ne_of_gt ?_; k_extra "MY ltp") | (refine Nat.ne_of_lt ?_; k_extra "MY ltp")
  k_with "newTuple" => (k_here; k_dflt (refine' kup_newTuple ?zF ?zN ?_ ?zs; (case zF => k_asm); (case zN => k_asm); (case zs => kmk_size)); k_extra "M46a0")
  k_with "MY ltq" => first | with_reducible assumption | k_extra "MY ltp" | ((with_reducible refine' Nat.lt_trans ?_ ?klb); (case klb => with_reducible assumption); k_extra "MY ltq") | ((with_reducible refine' Nat.lt_trans ?kla ?_); (case kla => with_reducible assumption); k_extra "MY ltp") | ((with_reducible refine' Nat.lt_succ_of_lt ?_); first | with_reducible assumption | k_extra "MY ltp" | ((with_reducible refine' Nat.lt_succ_of_lt ?_); first | with_reducible assumption | k_extra "MY ltp")) | ((with_reducible refine' Mine.mem_allLt ?_ _ ?klm); (case klm => with_reducible assumption); first | with_reducible assumption | k_extra "MY ltp")
  k_with "MY lo" => first | ((with_reducible show @LT.lt Nat _ _ _); (try dsimp only); k_extra "MY ltq") | ((with_reducible show @Ne Nat _ _); (try dsimp only); first | with_reducible assumption | (refine Ne.symm ?_; with_reducible assumption) | (refine Nat.ne_of_gt ?_; k_extra "MY ltq") | (refine Nat.ne_of_lt ?_; k_extra "MY ltq")) | decide
  k_with "H mem" => first | exact List.Mem.head _ | (refine' List.Mem.tail _ ?_; k_extra "H mem") | ((fail_if_success refine' List.Mem.tail _ ?_); change (_ : Addr × Obj) ∈ (_ : List (Addr × Obj)); first | with_reducible assumption | (with_reducible refine' List.mem_append_left _ ?_; k_extra "H mem") | (with_reducible refine' List.mem_append_right _ ?_; k_extra "H mem"))
  k_with "H room" => ((try simp only [depth_under_make, depth_under_kw, depth_in1, depth_deeper, depth_caller]); (try dsimp only [ktrTop]); first | decide | ((try simp only [Nat.add_assoc, Nat.reduceAdd]); (with_reducible rename _ + _ < recursionLimit => kH); first | exact Mine.room_of kH rfl | exact Mine.room_at kH) | omega)
  k_with "H units" => ((try simp only [units_in1, units_deeper, Around.mark_units, units_caller]); (try dsimp only [ktrTop]); first | decide | ((try simp only [Nat.add_assoc, Nat.reduceAdd]); (with_reducible rename _ + _ < cLine => kH); first | exact Mine.room_of kH rfl | exact Mine.room_at kH) | omega)
  k_with "H ne" => (refine neN ?_; (try dsimp only); first | with_reducible assumption | (refine Ne.symm ?_; with_reducible assumption) | (with_reducible first | exact Nat.ne_of_lt (by assumption) | exact Nat.ne_of_gt (by assumption)) | k_extra "MY ne" | ((with_reducible rename (_ ≠ _ ∧ _ ≠ _ ∧ _ ≠ _) ∧ _ => kOff); first | (simp only [kOff, ne_eq, not_false_eq_true]; done) | (refine Ne.symm ?_; simp only [kOff, ne_eq, not_false_eq_true]; done)) | k_extra "MY lo" | omega)
  trivial
theorem look_nil (k d : Int) : kdfLook [] k d = d := rfl
theorem look_cons (p : Int × Int) (c : List (Int × Int)) (k d : Int) : kdfLook (p :: c) k d = if p.1 = k then p.2 else kdfLook c k d := by
  unfold kdfLook
  rw [List.find?_cons]
  by_cases h : p.1 = k
  · simp [h]
  · simp [h]
theorem look_map (k v k' d : Int) : ∀ c : List (Int × Int), kdfLook (c.map (fun p => if decide (p.1 = k) then (p.1, v) else p)) k' d = if k' = k ∧ (c.any fun p => decide (p.1 = k)) = true then v else kdfLook c k' d
  | [] => by simp [look_nil]
  | p :: c => by
    rw [List.map_cons, look_cons, look_map k v k' d c, look_cons, List.any_cons]
    by_cases h : p.1 = k
    · by_cases h2 : k' = k
      · subst h2; simp [h]
      · have h3 : ¬ k = k' := fun e => h2 e.symm
        simp [h, h2, h3]
    · by_cases h2 : k' = k
      · subst h2
        simp only [h, decide_false, Bool.false_eq_true, if_false, Bool.false_or]
      · simp [h, h2]
theorem look_app (k v k' d : Int) : ∀ c : List (Int × Int), (c.any fun p => decide (p.1 = k)) = false → kdfLook (c ++ [(k, v)]) k' d = if k' = k then v else kdfLook c k' d
  | [], _ => by
    rw [List.nil_append, look_cons, look_nil]
    by_cases h : k' = k
    · subst h; simp
    · have h3 : ¬ k = k' := fun e => h e.symm
      simp [h, h3]
  | p :: c, ha => by
    rw [List.any_cons, Bool.or_eq_false_iff] at ha
    rw [List.cons_append, look_cons, look_app k v k' d c ha.2, look_cons]
    have h1 : ¬ p.1 = k := by simpa using ha.1
    by_cases h : k' = k
    · subst h; simp [h1]
    · simp [h]
theorem look_put (c : List (Int × Int)) (k v k' d : Int) : kdfLook (kdfPut c k v) k' d = if k' = k then v else kdfLook c k' d := by
  unfold kdfPut
  by_cases h : (c.any fun p => decide (p.1 = k)) = true
  · rw [if_pos h, look_map]
    simp only [h, and_true]
  · rw [if_neg h]
    exact look_app k v k' d c (Bool.eq_false_iff.mpr h)
theorem look_absent (c : List (Int × Int)) (k d : Int) (h : k ∉ c.map (·.1)) : kdfLook c k d = d := by
  induction c with
  | nil => rfl
  | cons p c ih =>
    rw [look_cons, if_neg, ih]
    · exact fun e => h (by rw [List.map_cons]; exact .tail _ e)
    · exact fun e => h (by rw [List.map_cons, e]; exact .head _)
-- what the comprehension of CharMap stores
def FKc (v : Value) (k : Int) : Prop := ∃ t, v = .int k t
def FVc (c : List (Int × Int)) (v y : Value) : Prop := ∃ n t u, v = .int n t ∧ y = .int (kdfLook c n 0) u
def pc (c : List (Int × Int)) : Value → Bool
  | .int n _ => decide (kdfLook c n 0 ≠ 0)
  | _ => false
theorem stored_cm {c : List (Int × Int)} {l : List Value} {kvs : List (Int × Value)} (h : StoredAll FKc (FVc c) l kvs) : ∃ c2, FlatPairs PyData.int kvs (kdfD c2) ∧ c2.length ≤ l.length ∧ ∀ k, ((∃ t, Value.int k t ∈ l) → kdfLook c2 k 0 = kdfLook c k 0) ∧ ((¬ ∃ t, Value.int k t ∈ l) → kdfLook c2 k 0 = 0) := by
  induction h with
  | nil => exact ⟨[], .nil, Nat.le_refl _, fun k => ⟨fun ⟨t, h⟩ => (nomatch h), fun _ => rfl⟩⟩
  | @snoc l kvs v k y _ hk hv ih =>
    obtain ⟨c2, f, hl, hlook⟩ := ih
    obtain ⟨t, rfl⟩ := hk
    obtain ⟨n, t', u, e, rfl⟩ := hv
    cases e
    refine ⟨kdfPut c2 k (kdfLook c k 0), ?_, ?_, fun k' => ?_⟩
    · rw [← kdfD_put]
      exact FlatPairs.stored PyProof.V.same_int f k (Flat.int _ _)
    · have := kdfPut_len c2 k (kdfLook c k 0)
      rw [List.length_append, List.length_singleton]; (first | k_extra "MY lo" | omega)
    · rw [look_put]
      by_cases h : k' = k
      · subst h
        rw [if_pos rfl]
        exact ⟨fun _ => rfl, fun h => absurd ⟨t, List.mem_append_right _ (.head _)⟩ h⟩
      · rw [if_neg h]
        refine ⟨fun ⟨t1, h1⟩ => (hlook k').1 ?_, fun hn => (hlook k').2 fun ⟨t1, h1⟩ => hn ⟨t1, List.mem_append_left _ h1⟩⟩
        rcases List.mem_append.mp h1 with h1 | h1
        · exact ⟨t1, h1⟩
        · rw [List.mem_singleton] at h1
          injection h1 with h1 _
          exact absurd h1 h
theorem stored_cm2 {c : List (Int × Int)} {kvs0 : List (Int × Value)} {vs : List Value} {kvs : List (Int × Value)} (fl : FlatPairs PyData.int kvs0 (kdfD c)) (hlen : vs.length = kvs0.length) (hP : ∀ (j : Nat) (v : Value), vs[j]? = some v → ∃ k x, kvs0[j]? = some (k, x) ∧ ∃ t, v = Value.int k t)
    (h : StoredAll FKc (FVc c) (vs.filter (pc c)) kvs) : ∃ c2, FlatPairs PyData.int kvs (kdfD c2) ∧ c2.length ≤ c.length ∧ ∀ k, kdfLook c2 k 0 = kdfLook c k 0 := by
  obtain ⟨c2, f, hl, hlook⟩ := stored_cm h
  have hcl : kvs0.length = c.length := by have := fl.length; rw [kdfD_length] at this; (first | k_extra "MY lo" | omega)
  refine ⟨c2, f, Nat.le_trans hl (by have := List.length_filter_le (pc c) vs; (first | k_extra "MY lo" | omega)), fun k => ?_⟩
  by_cases hm : ∃ t, Value.int k t ∈ vs.filter (pc c)
  · exact (hlook k).1 hm
  · rw [(hlook k).2 hm]
    by_cases hk : k ∈ c.map (·.1)
    · obtain ⟨j, hj⟩ := List.mem_iff_getElem?.mp hk
      have hjl : j < vs.length := by
        have := (List.getElem?_eq_some_iff.mp hj).1
        rw [List.length_map] at this; (first | k_extra "MY lo" | omega)
      obtain ⟨k2, x, e1, t, e2⟩ := hP j vs[j] (by simp [hjl])
      have e3 := kdf_key fl j k2 x e1
      rw [hj] at e3
      cases e3
      by_cases hz : kdfLook c k 0 = 0
      · exact hz.symm
      · exact absurd ⟨t, List.mem_filter.mpr ⟨by rw [← e2]; exact List.getElem_mem hjl, by simp [pc, hz]⟩⟩ hm
    · exact (look_absent c k 0 hk).symm
example : True ∧ True := by w_top off; first | (walk1; done) | exact ⟨trivial, trivial⟩
example : True := by
  k_with_none
  k_with "eval Name" => (k_here; (with_reducible show wpAny _ _ (eval (Expr.Name _ _) (compEnvC _ _ _ _)) _ _ _); k_dflt (first | (name_kind "local"; refine' LCgL.ld_own ?zN ?zm ?zC ?zx ?_ ?zk ?zl ?zd; (case zk => kernel_rfl); (case zl => kernel_rfl); (case zd => kernel_rfl); (case zN => k_asm); (case zm => k_mem); (case zC => assumption); (case zx => assumption); k_whole) | (name_kind "globalImplicit"; first | (refine' LCgL.ld_global ?zF ?zX ?zT ?ze ?_ ?zg ?zk ?zl ?zd; (case zg => kernel_rfl); (case zk => kernel_rfl); (case zl => kernel_rfl); (case zd => kernel_rfl); (case zF => k_asm); (case zX => k_asm); (case zT => k_asm); (case ze => k_is); k_whole) | (refine' LCgL.ld_built ?zF ?zX ?zT ?ze ?zv ?zn ?_ ?zg ?zb ?zk ?zl ?zd; (case zg => kernel_rfl); (case zb => kernel_rfl); (case zk => kernel_rfl); (case zl => kernel_rfl); (case zd => kernel_rfl); (case zF => k_asm); (case zX => k_asm); (case zT => k_asm); (case ze => k_is); (case zv => boot_fast); (case zn => decide); k_whole))))
  k_with "eval Name" => (k_here; (fail_if_success (with_reducible show wpAny _ _ (eval (Expr.Name _ _) (compEnvC _ _ _ _)) _ _ _)); k_dflt (first | (name_kind "local"; refine' nameX_L ?zF ?zv ?_ ?za ?zb ?zc; (case zF => k_asm); (case za => kernel_rfl); (case zb => kernel_rfl); (case zc => kernel_rfl); (case zv => rfl); k_whole) | (name_kind "cell"; refine' nameX_C ?zN ?zl ?zm ?zd ?_ ?za ?zb ?zc; (case za => kernel_rfl); (case zb => kernel_rfl); (case zc => kernel_rfl); (case zN => k_asm); (case zl => rfl); (case zm => k_mem); (case zd => k_asm); k_whole) | (name_kind "globalImplicit"; first | (refine' nameX_K ?zF ?zX ?zT ?ze ?_ ?za ?zb ?zc; (case za => kernel_rfl); (case zb => kernel_rfl); (case zc => kernel_rfl); (case zF => k_asm); (case zX => k_asm); (case zT => k_asm); (case ze => k_is); k_whole) | (refine' nameX_B ?zF ?zX ?zT ?ze ?zv ?zn ?_ ?za ?zb ?zc; (case za => kernel_rfl); (case zb => kernel_rfl); (case zc => kernel_rfl); (case zF => k_asm); (case zX => k_asm); (case zT => k_asm); (case ze => k_is); (case zv => boot_fast); (case zn => decide); k_whole))))
  k_with "ite" => (k_closed; first | (with_reducible refine ite_pos ?zi ?_; (case zi => decide +kernel)) | (with_reducible refine ite_neg ?zi ?_; (case zi => decide +kernel)))
  k_with "getAttr ref" => (k_here; k_dflt (refine' get_own ?zF ?zX ?zI ?zg ?zh ?za ?zn ?zl ?zv ?_; (case zF => k_asm); (case zX => k_asm); (case zI => k_inst); (case zl => k_get); (case zg => k_is); (case zh => k_is); (case za => k_is); (case zn => k_is); (case zv => k_handed); k_whole))
  k_with "spliced" => ((with_reducible show wpAny _ _ (spliced (backTo _ (starEach (_ :: _) _))) _ _ _); k_dflt (refine args_cons ?_))
  k_with "newList" => (k_here; k_dflt (refine' newList_K ?zF ?zN ?_ ?zs; (case zF => k_asm); (case zN => k_asm); (case zs => exact Nat.le_of_ble_eq_true rfl); k_whole); k_extra "M46a0")
  k_with "MY ltp" => ((with_reducible rename @LT.lt Nat _ _ _ ∧ _ => kL); first | (with_reducible first | exact kL.1 | exact kL.2 | exact kL.2.1 | exact kL.2.2 | exact kL.2.2.1 | exact kL.2.2.2 | exact kL.2.2.2.1 | exact kL.2.2.2.2 | exact kL.2.2.2.2.1 | exact kL.2.2.2.2.2 | exact kL.2.2.2.2.2.1 | exact kL.2.2.2.2.2.2 | exact kL.2.2.2.2.2.2.1 | exact kL.2.2.2.2.2.2.2 | exact kL.2.2.2.2.2.2.2.1 | exact kL.2.2.2.2.2.2.2.2 | exact kL.2.2.2.2.2.2.2.2.1 | exact kL.2.2.2.2.2.2.2.2.2 | exact kL.2.2.2.2.2.2.2.2.2.1 | exact kL.2.2.2.2.2.2.2.2.2.2 | exact kL.2.2.2.2.2.2.2.2.2.2.1 | exact kL.2.2.2.2.2.2.2.2.2.2.2 | exact kL.2.2.2.2.2.2.2.2.2.2.2.1 | exact kL.2.2.2.2.2.2.2.2.2.2.2.2 | exact kL.2.2.2.2.2.2.2.2.2.2.2.2.1 | exact kL.2.2.2.2.2.2.2.2.2.2.2.2.2 | exact kL.2.2.2.2.2.2.2.2.2.2.2.2.2.1 | exact kL.2.2.2.2.2.2.2.2.2.2.2.2.2.2 | exact kL.2.2.2.2.2.2.2.2.2.2.2.2.2.2.1 | exact kL.2.2.2.2.2.2.2.2.2.2.2.2.2.2.2 | exact kL.2.2.2.2.2.2.2.2.2.2.2.2.2.2.2.1 | exact kL.2.2.2.2.2.2.2.2.2.2.2.2.2.2.2.2 | exact kL.2.2.2.2.2.2.2.2.2.2.2.2.2.2.2.2.1 | exact kL.2.2.2.2.2.2.2.2.2.2.2.2.2.2.2.2.2 | exact kL.2.2.2.2.2.2.2.2.2.2.2.2.2.2.2.2.2.1 | exact kL.2.2.2.2.2.2.2.2.2.2.2.2.2.2.2.2.2.2 | exact kL.2.2.2.2.2.2.2.2.2.2.2.2.2.2.2.2.2.2.1 | exact kL.2.2.2.2.2.2.2.2.2.2.2.2.2.2.2.2.2.2.2 | exact kL.2.2.2.2.2.2.2.2.2.2.2.2.2.2.2.2.2.2.2.1 | exact kL.2.2.2.2.2.2.2.2.2.2.2.2.2.2.2.2.2.2.2.2 | exact kL.2.2.2.2.2.2.2.2.2.2.2.2.2.2.2.2.2.2.2.2.1 | exact kL.2.2.2.2.2.2.2.2.2.2.2.2.2.2.2.2.2.2.2.2.2 | exact kL.2.2.2.2.2.2.2.2.2.2.2.2.2.2.2.2.2.2.2.2.2.1 | exact kL.2.2.2.2.2.2.2.2.2.2.2.2.2.2.2.2.2.2.2.2.2.2 | exact kL.2.2.2.2.2.2.2.2.2.2.2.2.2.2.2.2.2.2.2.2.2.2.1 | exact kL.2.2.2.2.2.2.2.2.2.2.2.2.2.2.2.2.2.2.2.2.2.2.2) | (clear kL; k_extra "MY ltp"))
  k_with "MY ne" => first | (refine Nat.ne_of_gt ?_; k_extra "MY ltp") | (refine Nat.ne_of_lt ?_; k_extra "MY ltp")
  k_with "newTuple" => (k_here; k_dflt (refine' kup_newTuple ?zF ?zN ?_ ?zs; (case zF => k_asm); (case zN => k_asm); (case zs => kmk_size)); k_extra "M46a0")
  k_with "MY ltq" => first | with_reducible assumption | k_extra "MY ltp" | ((with_reducible refine' Nat.lt_trans ?_ ?klb); (case klb => with_reducible assumption); k_extra "MY ltq") | ((with_reducible refine' Nat.lt_trans ?kla ?_); (case kla => with_reducible assumption); k_extra "MY ltp") | ((with_reducible refine' Nat.lt_succ_of_lt ?_); first | with_reducible assumption | k_extra "MY ltp" | ((with_reducible refine' Nat.lt_succ_of_lt ?_); first | with_reducible assumption | k_extra "MY ltp")) | ((with_reducible refine' Mine.mem_allLt ?_ _ ?klm); (case klm => with_reducible assumption); first | with_reducible assumption | k_extra "MY ltp")
  k_with "MY lo" => first | ((with_reducible show @LT.lt Nat _ _ _); (try dsimp only); k_extra "MY ltq") | ((with_reducible show @Ne Nat _ _); (try dsimp only); first | with_reducible assumption | (refine Ne.symm ?_; with_reducible assumption) | (refine Nat.ne_of_gt ?_; k_extra "MY ltq") | (refine Nat.ne_of_lt ?_; k_extra "MY ltq")) | decide
  k_with "H mem" => first | exact List.Mem.head _ | (refine' List.Mem.tail _ ?_; k_extra "H mem") | ((fail_if_success refine' List.Mem.tail _ ?_); change (_ : Addr × Obj) ∈ (_ : List (Addr × Obj)); first | with_reducible assumption | (with_reducible refine' List.mem_append_left _ ?_; k_extra "H mem") | (with_reducible refine' List.mem_append_right _ ?_; k_extra "H mem"))
  k_with "H room" => ((try simp only [depth_under_make, depth_under_kw, depth_in1, depth_deeper, depth_caller]); (try dsimp only [ktrTop]); first | decide | ((try simp only [Nat.add_assoc, Nat.reduceAdd]); (with_reducible rename _ + _ < recursionLimit => kH); first | exact Mine.room_of kH rfl | exact Mine.room_at kH) | omega)
  k_with "H units" => ((try simp only [units_in1, units_deeper, Around.mark_units, units_caller]); (try dsimp only [ktrTop]); first | decide | ((try simp only [Nat.add_assoc, Nat.reduceAdd]); (with_reducible rename _ + _ < cLine => kH); first | exact Mine.room_of kH rfl | exact Mine.room_at kH) | omega)
  k_with "H ne" => (refine neN ?_; (try dsimp only); first | with_reducible assumption | (refine Ne.symm ?_; with_reducible assumption) | (with_reducible first | exact Nat.ne_of_lt (by assumption) | exact Nat.ne_of_gt (by assumption)) | k_extra "MY ne" | ((with_reducible rename (_ ≠ _ ∧ _ ≠ _ ∧ _ ≠ _) ∧ _ => kOff); first | (simp only [kOff, ne_eq, not_false_eq_true]; done) | (refine Ne.symm ?_; simp only [kOff, ne_eq, not_false_eq_true]; done)) | k_extra "MY lo" | omega)
  trivial
section
open PySem.Calls
section
section
variable {prog : Program} {w : World} {M : Model} {A : Around} {E : Value → Shared → Prop} {s : Shared} {h₀ : Heap} {L d : Addr} {m : Str → Option Value} {news : List (Addr × Obj)} {o : Obj} {kvs : List (Int × Value)} {c : List (Int × Int)} {env : Env}
theorem newDict_at {Q : Value → Shared → Prop} (h : wpAny M A newDict Q E s) : wpAny M A newDict (fun a s' => a = .ref s.heap.objs.size ∧ Q a s') E s := fun Γ p hΓ => ⟨rfl, h Γ p hΓ⟩
theorem dc_dict {kx vx iter : PySem.Expr} {x : Str} {px : Pos} {ifs : List PySem.Expr} {scope : Scope} {cl : List (Str × Addr)} {pos : Pos} {Q : Value → Shared → Prop} (hh : A.handled = none) (F : Fr h₀ L s.heap m) (N : News h₀ L s.heap news) (hbig : h₀.NoLimit) (hm : (d, o) ∈ news) (i1 : o.IsDictOf (intKind prog w) kvs) (fl : FlatPairs PyData.int kvs (kdfD c)) (hc : c.length ≤ 3) (lo : (d == sysModules) = false)
    (hclos : closureFor scope env = pure cl) (hcell : ∀ y ∈ scope.names, y.2 ≠ .cell) (hkind : scope.kind = .function)
    (hnames : ∀ y ∈ scope.names, y.2 = .local → scope.names.lookup y.1 = some .local) (hx : scope.names.lookup x = some .local)
    (hiter : ∀ Q' : Value → Shared → Prop, Q' (.ref d) s → wpAny (model prog w) A (eval iter env) Q' E s)
    (tests : ∀ C n t s₃ m₃ E', n ∈ c.map (·.1) → s₃.heap.Ns C m₃ → m₃ x = some (.int n t) → (∀ b o, s.heap.get? b = some o → s₃.heap.get? b = some o) →
      wpAny (model prog w) A (forIn ifs true fun c r => if r = true then do let ok ← isTrue c (compEnvC scope cl C env) (eval c (compEnvC scope cl C env)); pure (ForInStep.yield ok) else pure (ForInStep.yield r))
        (fun ok s₄ => ok = decide (kdfLook c n 0 ≠ 0) ∧ Keeps s₃ s₄) E' s₃)
    (key : ∀ C n t s₃ m₃ E', n ∈ c.map (·.1) → s₃.heap.Ns C m₃ → m₃ x = some (.int n t) → (∀ b o, s.heap.get? b = some o → s₃.heap.get? b = some o) →
      wpAny (model prog w) A (eval kx (compEnvC scope cl C env)) (fun y s₄ => (∃ t, y = .int n t) ∧ Keeps s₃ s₄) E' s₃)
    (val : ∀ C n t s₃ m₃ E', n ∈ c.map (·.1) → s₃.heap.Ns C m₃ → m₃ x = some (.int n t) → (∀ b o, s.heap.get? b = some o → s₃.heap.get? b = some o) →
      wpAny (model prog w) A (eval vx (compEnvC scope cl C env)) (fun y s₄ => (∃ t, y = .int (kdfLook c n 0) t) ∧ Keeps s₃ s₄) E' s₃)
    (k : ∀ D o2 kvs2 c2 h' tk, Fr h₀ L h' m → News h₀ L h' ((D, o2) :: news) → (∀ p ∈ news, p.1 < D) → o2.IsDictOf (intKind prog w) kvs2 → FlatPairs PyData.int kvs2 (kdfD c2) → c2.length ≤ c.length → (∀ k, kdfLook c2 k 0 = kdfLook c k 0) → (D == sysModules) = false → Q (.ref D) { s with heap := h', toks := tk })
    (hs : ∀ x, foldedSetIterable iter env x = pure x) :
    wpAny (model prog w) A (eval (.DictComp kx vx [⟨.Name x px, iter, ifs, 0⟩] scope pos) env) Q E s := by
  have hD : s.heap.DictOf (intKind prog w) d kvs := Heap.dictOf_iff.mpr ⟨o, (N _ hm).1, i1⟩
  obtain ⟨ep, hat⟩ := hD.dictAt
  have hlen : kvs.length = c.length := by have := fl.length; rw [kdfD_length] at this; (first | k_extra "MY lo" | omega)
  rw [arm_eval_DictComp]
  refine wpAny_comprehension_free (use := none) rfl hs hclos hkind hnames (hiter _ ?_)
  have K := kdl_dict (prog := prog) (w := w) (knd := intKind prog w) (kvs := kvs) (ep := ep) lo
  obtain ⟨oI, St, hit, W, hst⟩ := K.iter A s hh hat
  refine hit E _ ?_
  have dlt : d < s.heap.objs.size := (K.there s.heap hat).1
  have up : ∀ b o, s.heap.get? b = some o → (s.heap.push oI).get? b = some o := fun b o e => Heap.get?_push_of_some _ e
  have up3 : ∀ (h₃ : Heap), (∀ b o, b ∉ [s.heap.objs.size] → (s.heap.push oI).get? b = some o → h₃.get? b = some o) → ∀ b o, s.heap.get? b = some o → h₃.get? b = some o := fun h₃ hk b o e =>
    hk b o (fun hm => Nat.lt_irrefl _ ((List.mem_singleton.mp hm) ▸ Heap.lt_size e)) (up b o e)
  have isk : ∀ (i : Nat) (v : Value), (∃ k x, kvs[i]? = some (k, x) ∧ (intKind prog w).is k v = true) → ∃ n t, v = Value.int n t ∧ n ∈ c.map (·.1) ∧ True := fun i v ⟨k, x, e, hk⟩ => by
    obtain ⟨t, rfl⟩ := Value.isInt_shape hk
    exact ⟨k, t, rfl, List.mem_of_getElem? (kdf_key fl i k x e), trivial⟩
  have key0 := comp_block_walkCD (knd := intKind prog w) (E := E) (env := env) (kx := kx) (vx := vx) (iter := iter) (x := x) (px := px) (ifs := ifs) (scope := scope) (cl := cl) (pos := pos) (s₂ := { s with heap := s.heap.push oI }) W (by rw [hlen]; exact Nat.le_trans hc (Nat.le_of_ble_eq_true rfl)) (pc c) FKc (FVc c) (RR := fun acc C r s' => acc = .ref (s.heap.push oI).objs.size → compPost (model prog w) A E none Q acc C r s') hcell hkind hx hst (fun b hb => by
      show b < (s.heap.push oI).objs.size
      rw [Heap.size_push]
      rcases List.mem_cons.mp hb with rfl | hb
      · exact Nat.lt_succ_self _
      · rw [List.mem_singleton.mp hb]; exact Nat.lt_succ_of_lt dlt) ⟨?_, ?_, ?_⟩ ?_
  · refine wpAny_mono (newDict_at key0) (fun acc s₃ ⟨ha, h₃⟩ => ?_) fun _ _ e => e
    refine wpAny_mono h₃ (fun cenv s₄ h₄ => ?_) fun _ _ e => e
    exact codeAny_mono h₄ fun r s' h => h ha
  · intro C i v s₃ m₃ E' hP hn hx3 hk
    obtain ⟨n, t, rfl, hnc, _⟩ := isk i v hP
    exact tests C n t s₃ m₃ E' hnc hn hx3 (up3 _ hk)
  · intro C i v s₃ m₃ E' hP hp hn hx3 hk
    obtain ⟨n, t, rfl, hnc, _⟩ := isk i v hP
    exact wpAny_mono (key C n t s₃ m₃ E' hnc hn hx3 (up3 _ hk)) (fun y s₄ ⟨⟨t', e⟩, h⟩ => ⟨⟨n, by rw [e]; exact intKind_is _ _ _ _, t, rfl⟩, h⟩) fun _ _ e => e
  · intro C i v s₃ m₃ E' hP hp hn hx3 hk
    obtain ⟨n, t, rfl, hnc, _⟩ := isk i v hP
    exact wpAny_mono (val C n t s₃ m₃ E' hnc hn hx3 (up3 _ hk)) (fun y s₄ ⟨⟨t', e⟩, h⟩ => ⟨⟨n, t, t', rfl, e⟩, h⟩) fun _ _ e => e
  · intro D C h' tk m' kvs2 vs hDn hCn hDC hn hl hvl hP hF hk ha
    injection ha with ha
    subst ha
    refine ⟨m', hn, fun h'' hs'' => ?_⟩
    have hl' := hl.extBut hs''.extBut hDC
    obtain ⟨o2, ho2, hd2⟩ := Heap.dictOf_iff.mp hl'
    obtain ⟨c2, f2, hc2, hlook⟩ := stored_cm2 fl hvl (fun j v hj => by
      obtain ⟨k, x, e, hk⟩ := hP j v hj
      exact ⟨k, x, e, Value.isInt_shape hk⟩) hF
    have old : ∀ b o, s.heap.get? b = some o → h''.get? b = some o := fun b o e => hs''.extBut b o (by rintro rfl; have z := up _ _ e; rw [show (s.heap.push oI).get? b = none from hCn] at z; cases z) (up3 _ hk b o e)
    have lt0 : ∀ b, b < s.heap.objs.size → b < (s.heap.push oI).objs.size := fun b hb => by rw [Heap.size_push]; exact Nat.lt_succ_of_lt hb
    have hLs := F.ns.lt
    refine k (s.heap.push oI).objs.size o2 kvs2 c2 h'' tk (F.keeps old) (fun p hp => ?_) (fun p hp => lt0 _ (Heap.lt_size (N p hp).1)) hd2 f2 hc2 hlook ((F.push oI).notModules (modules_low hbig))
    rcases List.mem_cons.mp hp with rfl | hp
    · refine ⟨ho2, Nat.ne_of_gt (lt0 _ hLs), ?_⟩
      cases q : h₀.get? (s.heap.push oI).objs.size with
      | none => rfl
      | some o => exact absurd (Heap.lt_size (up _ _ (F.keep _ _ q))) (Nat.lt_irrefl _)
    · exact ⟨old _ _ (N p hp).1, (N p hp).2⟩
end
end
end
example : True ∧ True := by w_top off; first | (walk1; done) | exact ⟨trivial, trivial⟩
example : True := by
  k_with_none
  k_with "eval Name" => (k_here; (with_reducible show wpAny _ _ (eval (Expr.Name _ _) (compEnvC _ _ _ _)) _ _ _); k_dflt (first | (name_kind "local"; refine' LCgL.ld_own ?zN ?zm ?zC ?zx ?_ ?zk ?zl ?zd; (case zk => kernel_rfl); (case zl => kernel_rfl); (case zd => kernel_rfl); (case zN => k_asm); (case zm => k_mem); (case zC => assumption); (case zx => assumption); k_whole) | (name_kind "globalImplicit"; first | (refine' LCgL.ld_global ?zF ?zX ?zT ?ze ?_ ?zg ?zk ?zl ?zd; (case zg => kernel_rfl); (case zk => kernel_rfl); (case zl => kernel_rfl); (case zd => kernel_rfl); (case zF => k_asm); (case zX => k_asm); (case zT => k_asm); (case ze => k_is); k_whole) | (refine' LCgL.ld_built ?zF ?zX ?zT ?ze ?zv ?zn ?_ ?zg ?zb ?zk ?zl ?zd; (case zg => kernel_rfl); (case zb => kernel_rfl); (case zk => kernel_rfl); (case zl => kernel_rfl); (case zd => kernel_rfl); (case zF => k_asm); (case zX => k_asm); (case zT => k_asm); (case ze => k_is); (case zv => boot_fast); (case zn => decide); k_whole))))
  k_with "eval Name" => (k_here; (fail_if_success (with_reducible show wpAny _ _ (eval (Expr.Name _ _) (compEnvC _ _ _ _)) _ _ _)); k_dflt (first | (name_kind "local"; refine' nameX_L ?zF ?zv ?_ ?za ?zb ?zc; (case zF => k_asm); (case za => kernel_rfl); (case zb => kernel_rfl); (case zc => kernel_rfl); (case zv => rfl); k_whole) | (name_kind "cell"; refine' nameX_C ?zN ?zl ?zm ?zd ?_ ?za ?zb ?zc; (case za => kernel_rfl); (case zb => kernel_rfl); (case zc => kernel_rfl); (case zN => k_asm); (case zl => rfl); (case zm => k_mem); (case zd => k_asm); k_whole) | (name_kind "globalImplicit"; first | (refine' nameX_K ?zF ?zX ?zT ?ze ?_ ?za ?zb ?zc; (case za => kernel_rfl); (case zb => kernel_rfl); (case zc => kernel_rfl); (case zF => k_asm); (case zX => k_asm); (case zT => k_asm); (case ze => k_is); k_whole) | (refine' nameX_B ?zF ?zX ?zT ?ze ?zv ?zn ?_ ?za ?zb ?zc; (case za => kernel_rfl); (case zb => kernel_rfl); (case zc => kernel_rfl); (case zF => k_asm); (case zX => k_asm); (case zT => k_asm); (case ze => k_is); (case zv => boot_fast); (case zn => decide); k_whole))))
  k_with "ite" => (k_closed; first | (with_reducible refine ite_pos ?zi ?_; (case zi => decide +kernel)) | (with_reducible refine ite_neg ?zi ?_; (case zi => decide +kernel)))
  k_with "getAttr ref" => (k_here; k_dflt (refine' get_own ?zF ?zX ?zI ?zg ?zh ?za ?zn ?zl ?zv ?_; (case zF => k_asm); (case zX => k_asm); (case zI => k_inst); (case zl => k_get); (case zg => k_is); (case zh => k_is); (case za => k_is); (case zn => k_is); (case zv => k_handed); k_whole))
  k_with "spliced" => ((with_reducible show wpAny _ _ (spliced (backTo _ (starEach (_ :: _) _))) _ _ _); k_dflt (refine args_cons ?_))
  k_with "newList" => (k_here; k_dflt (refine' newList_K ?zF ?zN ?_ ?zs; (case zF => k_asm); (case zN => k_asm); (case zs => exact Nat.le_of_ble_eq_true rfl); k_whole); k_extra "M46a0")
  k_with "MY ltp" => ((with_reducible rename @LT.lt Nat _ _ _ ∧ _ => kL); first | (with_reducible first | exact kL.1 | exact kL.2 | exact kL.2.1 | exact kL.2.2 | exact kL.2.2.1 | exact kL.2.2.2 | exact kL.2.2.2.1 | exact kL.2.2.2.2 | exact kL.2.2.2.2.1 | exact kL.2.2.2.2.2 | exact kL.2.2.2.2.2.1 | exact kL.2.2.2.2.2.2 | exact kL.2.2.2.2.2.2.1 | exact kL.2.2.2.2.2.2.2 | exact kL.2.2.2.2.2.2.2.1 | exact kL.2.2.2.2.2.2.2.2 | exact kL.2.2.2.2.2.2.2.2.1 | exact kL.2.2.2.2.2.2.2.2.2 | exact kL.2.2.2.2.2.2.2.2.2.1 | exact kL.2.2.2.2.2.2.2.2.2.2 | exact kL.2.2.2.2.2.2.2.2.2.2.1 | exact kL.2.2.2.2.2.2.2.2.2.2.2 | exact kL.2.2.2.2.2.2.2.2.2.2.2.1 | exact kL.2.2.2.2.2.2.2.2.2.2.2.2 | exact kL.2.2.2.2.2.2.2.2.2.2.2.2.1 | exact kL.2.2.2.2.2.2.2.2.2.2.2.2.2 | exact kL.2.2.2.2.2.2.2.2.2.2.2.2.2.1 | exact kL.2.2.2.2.2.2.2.2.2.2.2.2.2.2 | exact kL.2.2.2.2.2.2.2.2.2.2.2.2.2.2.1 | exact kL.2.2.2.2.2.2.2.2.2.2.2.2.2.2.2 | exact kL.2.2.2.2.2.2.2.2.2.2.2.2.2.2.2.1 | exact kL.2.2.2.2.2.2.2.2.2.2.2.2.2.2.2.2 | exact kL.2.2.2.2.2.2.2.2.2.2.2.2.2.2.2.2.1 | exact kL.2.2.2.2.2.2.2.2.2.2.2.2.2.2.2.2.2 | exact kL.2.2.2.2.2.2.2.2.2.2.2.2.2.2.2.2.2.1 | exact kL.2.2.2.2.2.2.2.2.2.2.2.2.2.2.2.2.2.2 | exact kL.2.2.2.2.2.2.2.2.2.2.2.2.2.2.2.2.2.2.1 | exact kL.2.2.2.2.2.2.2.2.2.2.2.2.2.2.2.2.2.2.2 | exact kL.2.2.2.2.2.2.2.2.2.2.2.2.2.2.2.2.2.2.2.1 | exact kL.2.2.2.2.2.2.2.2.2.2.2.2.2.2.2.2.2.2.2.2 | exact kL.2.2.2.2.2.2.2.2.2.2.2.2.2.2.2.2.2.2.2.2.1 | exact kL.2.2.2.2.2.2.2.2.2.2.2.2.2.2.2.2.2.2.2.2.2 | exact kL.2.2.2.2.2.2.2.2.2.2.2.2.2.2.2.2.2.2.2.2.2.1 | exact kL.2.2.2.2.2.2.2.2.2.2.2.2.2.2.2.2.2.2.2.2.2.2 | exact kL.2.2.2.2.2.2.2.2.2.2.2.2.2.2.2.2.2.2.2.2.2.2.1 | exact kL.2.2.2.2.2.2.2.2.2.2.2.2.2.2.2.2.2.2.2.2.2.2.2) | (clear kL; k_extra "MY ltp"))
  k_with "MY ne" => first | (refine Nat.ne_of_gt ?_; k_extra "MY ltp") | (refine Nat.ne_of_lt ?_; k_extra "MY ltp")
  k_with "newTuple" => (k_here; k_dflt (refine' kup_newTuple ?zF ?zN ?_ ?zs; (case zF => k_asm); (case zN => k_asm); (case zs => kmk_size)); k_extra "M46a0")
  k_with "MY ltq" => first | with_reducible assumption | k_extra "MY ltp" | ((with_reducible refine' Nat.lt_trans ?_ ?klb); (case klb => with_reducible assumption); k_extra "MY ltq") | ((with_reducible refine' Nat.lt_trans ?kla ?_); (case kla => with_reducible assumption); k_extra "MY ltp") | ((with_reducible refine' Nat.lt_succ_of_lt ?_); first | with_reducible assumption | k_extra "MY ltp" | ((with_reducible refine' Nat.lt_succ_of_lt ?_); first | with_reducible assumption | k_extra "MY ltp")) | ((with_reducible refine' Mine.mem_allLt ?_ _ ?klm); (case klm => with_reducible assumption); first | with_reducible assumption | k_extra "MY ltp")
  k_with "MY lo" => first | ((with_reducible show @LT.lt Nat _ _ _); (try dsimp only); k_extra "MY ltq") | ((with_reducible show @Ne Nat _ _); (try dsimp only); first | with_reducible assumption | (refine Ne.symm ?_; with_reducible assumption) | (refine Nat.ne_of_gt ?_; k_extra "MY ltq") | (refine Nat.ne_of_lt ?_; k_extra "MY ltq")) | decide
  k_with "H mem" => first | exact List.Mem.head _ | (refine' List.Mem.tail _ ?_; k_extra "H mem") | ((fail_if_success refine' List.Mem.tail _ ?_); change (_ : Addr × Obj) ∈ (_ : List (Addr × Obj)); first | with_reducible assumption | (with_reducible refine' List.mem_append_left _ ?_; k_extra "H mem") | (with_reducible refine' List.mem_append_right _ ?_; k_extra "H mem"))
  k_with "H room" => ((try simp only [depth_under_make, depth_under_kw, depth_in1, depth_deeper, depth_caller]); (try dsimp only [ktrTop]); first | decide | ((try simp only [Nat.add_assoc, Nat.reduceAdd]); (with_reducible rename _ + _ < recursionLimit => kH); first | exact Mine.room_of kH rfl | exact Mine.room_at kH) | omega)
  k_with "H units" => ((try simp only [units_in1, units_deeper, Around.mark_units, units_caller]); (try dsimp only [ktrTop]); first | decide | ((try simp only [Nat.add_assoc, Nat.reduceAdd]); (with_reducible rename _ + _ < cLine => kH); first | exact Mine.room_of kH rfl | exact Mine.room_at kH) | omega)
  k_with "H ne" => (refine neN ?_; (try dsimp only); first | with_reducible assumption | (refine Ne.symm ?_; with_reducible assumption) | (with_reducible first | exact Nat.ne_of_lt (by assumption) | exact Nat.ne_of_gt (by assumption)) | k_extra "MY ne" | ((with_reducible rename (_ ≠ _ ∧ _ ≠ _ ∧ _ ≠ _) ∧ _ => kOff); first | (simp only [kOff, ne_eq, not_false_eq_true]; done) | (refine Ne.symm ?_; simp only [kOff, ne_eq, not_false_eq_true]; done)) | k_extra "MY lo" | omega)
  trivial
example : True := by
  k_with "MY enter" => (refine' code_def ?zk1 ?zk2 ?zk3 ?zk4 ?zk5 ?zkA ?zkF ?zkK ?zk6 ?zk7 ?zk8 ?zk9 ?zkB ?_ ?zc2 ?zc3 ?zc4 ?zc5; (case zkA => exact rfl); (case zkF => exact rfl); (case zkK => k_asm); (case zk1 => k_asm); (case zk2 => k_asm); (case zk3 => k_asm); (case zk4 => k_asm); (case zk5 => k_asm); (case zk6 => k_is); (case zk7 => k_is); (case zk8 => ktr_room); (case zk9 => first | exact BindsTo.of_eq rfl | exact binds_K (by k_in) rfl (by k_is) rfl rfl rfl); (case zc5 => decide); (case zkB => exact locs rfl); (case zc2 => exact rfl); (case zc3 => exact rfl); (case zc4 => exact rfl); k_extra "M91c7")
  k_with "MY enterC" => (refine' code_defC ?zk1 ?zk2 ?zk3 ?zk4 ?zk5 ?zkA ?zkF ?zkK ?zk6 ?zk7 ?zk8 ?zk9 ?zkB ?zkD ?_ ?zc2 ?zc3 ?zc4; (case zkA => exact rfl); (case zkF => exact rfl); (case zkK => k_asm); (case zk1 => k_asm); (case zk2 => k_asm); (case zk3 => k_asm); (case zk4 => k_asm); (case zk5 => k_asm); (case zk6 => k_is); (case zk7 => k_is); (case zk8 => ktr_room); (case zk9 => first | exact BindsTo.of_eq rfl | exact binds_K (by k_in) rfl (by k_is) rfl rfl rfl); (case zkB => exact rfl); (case zkD => decide +kernel); (case zc2 => exact rfl); (case zc3 => exact rfl); (case zc4 => exact rfl); k_extra "M289d")
  k_with "MY fn" => (refine wpAny_call ?_; k_dflt (first | k_extra "MY enter" | k_extra "MY enterC"))
  k_with "MY cls" => (k_dflt (refine' call_cls ?zq1 ?zq2 ?zq3 ?zq4 ?zq5 ?zq6 ?_; (case zq1 => k_asm); (case zq2 => k_asm); (case zq3 => k_asm); (case zq4 => k_is); (case zq5 => k_is); (case zq6 => k_is); k_extra "M274b"))
  k_with "MY sub" => repeat' (first | exact List.forall_mem_nil _ | exact Mine.sub_refl | (refine Mine.sub_cons (by k_mem) ?_) | refine Mine.sub_tail ?_)
  k_with "callWith ref" => (k_here; k_dflt (first | refine' callWith_K ?zq1 ?zq2 ?_; (case zq1 => k_asm); (case zq2 => k_is); k_whole | (refine' callWith_K0 (Frag.In.keeps ?zq1 (Fr.keep ?zqF)) ?zq2 ?_; (case zqF => k_asm); (case zq1 => k_asm); (case zq2 => k_is); k_whole) | refine' callWith_K0 ?zq1 ?zq2 ?_; (case zq1 => k_in); (case zq2 => k_is); k_whole))
  k_with "MY lt" => first | assumption | exact Mine.mem_allLt (by assumption) | (refine Mine.mem_allLt ?_; simp only [*]; done)
  k_with "getItem ref int" => (k_here; k_dflt (refine kdt_getItem (knd := PySem.intKind _ _) (by k_asm) (by k_mem) (by assumption) (intKind_is _ _ _ _) (by assumption) ?_))
  trivial
theorem ch0 {w : World} {p : Program} {loose : List Str} {mean : ExcName → Option Value} {mg mb : Str → Option Value} {cd : Addr} {o : Obj} {kvs : List (Int × Value)} {c : List (Int × Int)} {rest : List (Addr × Obj)}
  (hm : (cd, o) ∈ rest) (i1 : o.IsDictOf (PySem.intKind PySem.Challenge.rw_nu0220_01.row.prog w) kvs) (fl : FlatPairs PyData.int kvs (kdfD c)) (hc : c.length ≤ 3) (lo : (cd == sysModules) = false)
  : ∀ (dp un : Nat) (gd : Option (List Code)) (cn : Str) (cs : Scope) (a : Addr) (ccd : Value) (cl : List (Str × Addr)) (outer : List Env) (A₀ : Around) (base h₀ : Heap) (L : Addr) (m : Str → Option Value) (s : Shared) (Q E : Value → Shared → Prop)
  (_B : Below A₀ base outer h₀) (_F : Fr h₀ L s.heap m) (_X : (hd.heap_39 w.params).In h₀) (_N : News h₀ L s.heap (rest)) (_T : Top p loose mean mg mb h₀) (_hk : cs.kind = .function)
  (_hd : dp + 8 < recursionLimit) (_hu : un + 80 < cLine)
  (_hret : ∀ x d e o2 kvs2 c2 j1 j2 h' tk', Fr h₀ L h' m → News h₀ L h' ((e, o2) :: (x, instObj 346 d) :: (d, dictOf [{ hash := PyData.keyHash w.params (Str.ofString "codes"), key := .str (Str.ofString "codes") j1, val := .ref e }, { hash := PyData.keyHash w.params (Str.ofString "variations"), key := .str (Str.ofString "variations") j2, val := .none }] 2) :: rest) → (∀ p ∈ rest, p.1 < d) → @LT.lt Nat _ d x → @LT.lt Nat _ x e → o2.IsDictOf (PySem.intKind PySem.Challenge.rw_nu0220_01.row.prog w) kvs2 → FlatPairs PyData.int kvs2 (kdfD c2) → c2.length ≤ 3 → (∀ k, kdfLook c2 k 0 = kdfLook c k 0) → (e == sysModules) = false → Q (.ref x) { s with heap := h', toks := tk' }) ,
  wpAny (model PySem.Challenge.rw_nu0220_01.row.prog w) (ktrTop dp un gd cn cs L a ccd cl outer) (call (.ref 346) [.ref cd]) Q E s := by
  k_fill
  intro dp un gd cn cs a ccd cl outer A₀ base h₀ L m s Q E B F X N T hk hd hu hret
  have NN := news_sub N (sub_cons hm sub_refl)
  have hb0 : ∀ q ∈ rest, @LT.lt Nat _ q.1 s.heap.objs.size := fun q hq => Heap.lt_size (N q hq).1
  clear N
  k_extra "MY cls"
  repeat' ((fail_if_success (with_reducible show wpAny _ _ (eval (Expr.DictComp _ _ _ _ _) _) _ _ _)); (first | (k_unfold; (try dsimp only)) | walk1 | (dsimp only; walk1) | fail "no step"))
  k_dflt (refine' dc_dict (d := cd) (c := c) ?zqh ?zqF ?zqN ?zqb ?zqm i1 fl hc lo ?zq1 ?zq2 ?zq3 ?zq4 ?zq5 ?zqit ?zqt ?zqk ?zqv ?_ (by intro _; rfl))
  (case zqh => rfl); (case zqF => k_asm); (case zqN => k_asm); (case zqb => exact Top.nolimit (by k_asm)); (case zqm => k_mem); (case zq1 => with_unfolding_all rfl); (case zq2 => decide); (case zq3 => rfl); (case zq4 => decide); (case zq5 => rfl)
  case zqit =>
    intro Q' hQ'
    k_steps
    exact hQ'
  case zqt =>
    intro C n t s₃ m₃ E' hnc hns hx hk
    rename_i x1 d1 h1 l1 l2 g1 L1 h2 tk1 FG1 F2 B1 X1 T1 l3 oc dc1 N2
    have F3 := F2.keeps hk
    have N3 : News g1 L1 s₃.heap _ := fun p hp => ⟨hk _ _ (N2 p hp).1, (N2 p hp).2⟩
    clear F2 N2
    obtain ⟨vv, hv, hfl⟩ := fl.of_lookup PyProof.V.same_int (kdfD_item (kdf_has hnc))
    obtain ⟨tv, rfl⟩ := PyProof.V.Flat.int_inv hfl
    k_steps
    · rw [Bool.eq_iff_iff]
      simp
    · exact ⟨_, _, rfl, fun _ _ e => e⟩
  case zqk =>
    intro C n t s₃ m₃ E' hnc hns hx hk
    rename_i x1 d1 h1 l1 l2 g1 L1 h2 tk1 FG1 F2 B1 X1 T1 l3 oc dc1 N2
    have F3 := F2.keeps hk
    have N3 : News g1 L1 s₃.heap _ := fun p hp => ⟨hk _ _ (N2 p hp).1, (N2 p hp).2⟩
    clear F2 N2
    obtain ⟨vv, hv, hfl⟩ := fl.of_lookup PyProof.V.same_int (kdfD_item (kdf_has hnc))
    obtain ⟨tv, rfl⟩ := PyProof.V.Flat.int_inv hfl
    k_steps
    exact ⟨_, _, rfl, fun _ _ e => e⟩
  case zqv =>
    intro C n t s₃ m₃ E' hnc hns hx hk
    rename_i x1 d1 h1 l1 l2 g1 L1 h2 tk1 FG1 F2 B1 X1 T1 l3 oc dc1 N2
    have F3 := F2.keeps hk
    have N3 : News g1 L1 s₃.heap _ := fun p hp => ⟨hk _ _ (N2 p hp).1, (N2 p hp).2⟩
    clear F2 N2
    obtain ⟨vv, hv, hfl⟩ := fl.of_lookup PyProof.V.same_int (kdfD_item (kdf_has hnc))
    obtain ⟨tv, rfl⟩ := PyProof.V.Flat.int_inv hfl
    k_steps
    exact ⟨_, _, rfl, fun _ _ e => e⟩
  intro D o2 kvs2 c2 h3 tk3 F3 N3 l3 i2 f2 hc2 hlook lo2
  k_lt l3
  k_steps
  rename_i x0 d0 _ _ _ l5 l6 _ _ _ _ _ _ _ _ _ _ _ _ _ _ _ kF kN _ _
  refine hret _ _ _ _ _ _ _ _ _ _ kF (news_sub kN (sub_cons (.head _) (sub_cons (by k_mem) (sub_cons (by k_mem) ?_)))) (mem_allLt l5.2) l6 (by (first | k_extra "MY lo" | omega)) i2 f2 (Nat.le_trans hc2 hc) hlook lo2
  exact fun p hp => by repeat (first | exact hp | refine List.Mem.tail _ ?_)
example : True ∧ True := by w_top off; first | (walk1; done) | exact ⟨trivial, trivial⟩
example : True := by
  k_with_none
  k_with "eval Name" => (k_here; (with_reducible show wpAny _ _ (eval (Expr.Name _ _) (compEnvC _ _ _ _)) _ _ _); k_dflt (first | (name_kind "local"; refine' LCgL.ld_own ?zN ?zm ?zC ?zx ?_ ?zk ?zl ?zd; (case zk => kernel_rfl); (case zl => kernel_rfl); (case zd => kernel_rfl); (case zN => k_asm); (case zm => k_mem); (case zC => assumption); (case zx => assumption); k_whole) | (name_kind "globalImplicit"; first | (refine' LCgL.ld_global ?zF ?zX ?zT ?ze ?_ ?zg ?zk ?zl ?zd; (case zg => kernel_rfl); (case zk => kernel_rfl); (case zl => kernel_rfl); (case zd => kernel_rfl); (case zF => k_asm); (case zX => k_asm); (case zT => k_asm); (case ze => k_is); k_whole) | (refine' LCgL.ld_built ?zF ?zX ?zT ?ze ?zv ?zn ?_ ?zg ?zb ?zk ?zl ?zd; (case zg => kernel_rfl); (case zb => kernel_rfl); (case zk => kernel_rfl); (case zl => kernel_rfl); (case zd => kernel_rfl); (case zF => k_asm); (case zX => k_asm); (case zT => k_asm); (case ze => k_is); (case zv => boot_fast); (case zn => decide); k_whole))))
  k_with "eval Name" => (k_here; (fail_if_success (with_reducible show wpAny _ _ (eval (Expr.Name _ _) (compEnvC _ _ _ _)) _ _ _)); k_dflt (first | (name_kind "local"; refine' nameX_L ?zF ?zv ?_ ?za ?zb ?zc; (case zF => k_asm); (case za => kernel_rfl); (case zb => kernel_rfl); (case zc => kernel_rfl); (case zv => rfl); k_whole) | (name_kind "cell"; refine' nameX_C ?zN ?zl ?zm ?zd ?_ ?za ?zb ?zc; (case za => kernel_rfl); (case zb => kernel_rfl); (case zc => kernel_rfl); (case zN => k_asm); (case zl => rfl); (case zm => k_mem); (case zd => k_asm); k_whole) | (name_kind "globalImplicit"; first | (refine' nameX_K ?zF ?zX ?zT ?ze ?_ ?za ?zb ?zc; (case za => kernel_rfl); (case zb => kernel_rfl); (case zc => kernel_rfl); (case zF => k_asm); (case zX => k_asm); (case zT => k_asm); (case ze => k_is); k_whole) | (refine' nameX_B ?zF ?zX ?zT ?ze ?zv ?zn ?_ ?za ?zb ?zc; (case za => kernel_rfl); (case zb => kernel_rfl); (case zc => kernel_rfl); (case zF => k_asm); (case zX => k_asm); (case zT => k_asm); (case ze => k_is); (case zv => boot_fast); (case zn => decide); k_whole))))
  k_with "ite" => (k_closed; first | (with_reducible refine ite_pos ?zi ?_; (case zi => decide +kernel)) | (with_reducible refine ite_neg ?zi ?_; (case zi => decide +kernel)))
  k_with "getAttr ref" => (k_here; k_dflt (refine' get_own ?zF ?zX ?zI ?zg ?zh ?za ?zn ?zl ?zv ?_; (case zF => k_asm); (case zX => k_asm); (case zI => k_inst); (case zl => k_get); (case zg => k_is); (case zh => k_is); (case za => k_is); (case zn => k_is); (case zv => k_handed); k_whole))
  k_with "spliced" => ((with_reducible show wpAny _ _ (spliced (backTo _ (starEach (_ :: _) _))) _ _ _); k_dflt (refine args_cons ?_))
  k_with "newList" => (k_here; k_dflt (refine' newList_K ?zF ?zN ?_ ?zs; (case zF => k_asm); (case zN => k_asm); (case zs => exact Nat.le_of_ble_eq_true rfl); k_whole); k_extra "M46a0")
  k_with "MY ltp" => ((with_reducible rename @LT.lt Nat _ _ _ ∧ _ => kL); first | (with_reducible first | exact kL.1 | exact kL.2 | exact kL.2.1 | exact kL.2.2 | exact kL.2.2.1 | exact kL.2.2.2 | exact kL.2.2.2.1 | exact kL.2.2.2.2 | exact kL.2.2.2.2.1 | exact kL.2.2.2.2.2 | exact kL.2.2.2.2.2.1 | exact kL.2.2.2.2.2.2 | exact kL.2.2.2.2.2.2.1 | exact kL.2.2.2.2.2.2.2 | exact kL.2.2.2.2.2.2.2.1 | exact kL.2.2.2.2.2.2.2.2 | exact kL.2.2.2.2.2.2.2.2.1 | exact kL.2.2.2.2.2.2.2.2.2 | exact kL.2.2.2.2.2.2.2.2.2.1 | exact kL.2.2.2.2.2.2.2.2.2.2 | exact kL.2.2.2.2.2.2.2.2.2.2.1 | exact kL.2.2.2.2.2.2.2.2.2.2.2 | exact kL.2.2.2.2.2.2.2.2.2.2.2.1 | exact kL.2.2.2.2.2.2.2.2.2.2.2.2 | exact kL.2.2.2.2.2.2.2.2.2.2.2.2.1 | exact kL.2.2.2.2.2.2.2.2.2.2.2.2.2 | exact kL.2.2.2.2.2.2.2.2.2.2.2.2.2.1 | exact kL.2.2.2.2.2.2.2.2.2.2.2.2.2.2 | exact kL.2.2.2.2.2.2.2.2.2.2.2.2.2.2.1 | exact kL.2.2.2.2.2.2.2.2.2.2.2.2.2.2.2 | exact kL.2.2.2.2.2.2.2.2.2.2.2.2.2.2.2.1 | exact kL.2.2.2.2.2.2.2.2.2.2.2.2.2.2.2.2 | exact kL.2.2.2.2.2.2.2.2.2.2.2.2.2.2.2.2.1 | exact kL.2.2.2.2.2.2.2.2.2.2.2.2.2.2.2.2.2 | exact kL.2.2.2.2.2.2.2.2.2.2.2.2.2.2.2.2.2.1 | exact kL.2.2.2.2.2.2.2.2.2.2.2.2.2.2.2.2.2.2 | exact kL.2.2.2.2.2.2.2.2.2.2.2.2.2.2.2.2.2.2.1 | exact kL.2.2.2.2.2.2.2.2.2.2.2.2.2.2.2.2.2.2.2 | exact kL.2.2.2.2.2.2.2.2.2.2.2.2.2.2.2.2.2.2.2.1 | exact kL.2.2.2.2.2.2.2.2.2.2.2.2.2.2.2.2.2.2.2.2 | exact kL.2.2.2.2.2.2.2.2.2.2.2.2.2.2.2.2.2.2.2.2.1 | exact kL.2.2.2.2.2.2.2.2.2.2.2.2.2.2.2.2.2.2.2.2.2 | exact kL.2.2.2.2.2.2.2.2.2.2.2.2.2.2.2.2.2.2.2.2.2.1 | exact kL.2.2.2.2.2.2.2.2.2.2.2.2.2.2.2.2.2.2.2.2.2.2 | exact kL.2.2.2.2.2.2.2.2.2.2.2.2.2.2.2.2.2.2.2.2.2.2.1 | exact kL.2.2.2.2.2.2.2.2.2.2.2.2.2.2.2.2.2.2.2.2.2.2.2) | (clear kL; k_extra "MY ltp"))
  k_with "MY ne" => first | (refine Nat.ne_of_gt ?_; k_extra "MY ltp") | (refine Nat.ne_of_lt ?_; k_extra "MY ltp")
  k_with "newTuple" => (k_here; k_dflt (refine' kup_newTuple ?zF ?zN ?_ ?zs; (case zF => k_asm); (case zN => k_asm); (case zs => kmk_size)); k_extra "M46a0")
  k_with "MY ltq" => first | with_reducible assumption | k_extra "MY ltp" | ((with_reducible refine' Nat.lt_trans ?_ ?klb); (case klb => with_reducible assumption); k_extra "MY ltq") | ((with_reducible refine' Nat.lt_trans ?kla ?_); (case kla => with_reducible assumption); k_extra "MY ltp") | ((with_reducible refine' Nat.lt_succ_of_lt ?_); first | with_reducible assumption | k_extra "MY ltp" | ((with_reducible refine' Nat.lt_succ_of_lt ?_); first | with_reducible assumption | k_extra "MY ltp")) | ((with_reducible refine' Mine.mem_allLt ?_ _ ?klm); (case klm => with_reducible assumption); first | with_reducible assumption | k_extra "MY ltp")
  k_with "MY lo" => first | ((with_reducible show @LT.lt Nat _ _ _); (try dsimp only); k_extra "MY ltq") | ((with_reducible show @Ne Nat _ _); (try dsimp only); first | with_reducible assumption | (refine Ne.symm ?_; with_reducible assumption) | (refine Nat.ne_of_gt ?_; k_extra "MY ltq") | (refine Nat.ne_of_lt ?_; k_extra "MY ltq")) | decide
  k_with "H mem" => first | exact List.Mem.head _ | (refine' List.Mem.tail _ ?_; k_extra "H mem") | ((fail_if_success refine' List.Mem.tail _ ?_); change (_ : Addr × Obj) ∈ (_ : List (Addr × Obj)); first | with_reducible assumption | (with_reducible refine' List.mem_append_left _ ?_; k_extra "H mem") | (with_reducible refine' List.mem_append_right _ ?_; k_extra "H mem"))
  k_with "H room" => ((try simp only [depth_under_make, depth_under_kw, depth_in1, depth_deeper, depth_caller]); (try dsimp only [ktrTop]); first | decide | ((try simp only [Nat.add_assoc, Nat.reduceAdd]); (with_reducible rename _ + _ < recursionLimit => kH); first | exact Mine.room_of kH rfl | exact Mine.room_at kH) | omega)
  k_with "H units" => ((try simp only [units_in1, units_deeper, Around.mark_units, units_caller]); (try dsimp only [ktrTop]); first | decide | ((try simp only [Nat.add_assoc, Nat.reduceAdd]); (with_reducible rename _ + _ < cLine => kH); first | exact Mine.room_of kH rfl | exact Mine.room_at kH) | omega)
  k_with "H ne" => (refine neN ?_; (try dsimp only); first | with_reducible assumption | (refine Ne.symm ?_; with_reducible assumption) | (with_reducible first | exact Nat.ne_of_lt (by assumption) | exact Nat.ne_of_gt (by assumption)) | k_extra "MY ne" | ((with_reducible rename (_ ≠ _ ∧ _ ≠ _ ∧ _ ≠ _) ∧ _ => kOff); first | (simp only [kOff, ne_eq, not_false_eq_true]; done) | (refine Ne.symm ?_; simp only [kOff, ne_eq, not_false_eq_true]; done)) | k_extra "MY lo" | omega)
  trivial
section
open PySem.Calls Builtin
section
section
variable {prog : Program} {w : World} {A : Around} {E : Value → Shared → Prop} {s : Shared} {it d : Addr} {i ep : Nat} {es : Array DictEntry}
-- a plain dict by its entries (whatever its keys are): iterated, counted
def EsAt (h : Heap) (d : Addr) (es : Array DictEntry) (ep : Nat) : Prop := ∃ o, h.get? d = some o ∧ o.ExactDict ∧ o.data = .dict es ep
theorem EsAt.typeIs (h : EsAt s.heap d es ep) : s.TypeIs (.ref d) "dict" := by
  obtain ⟨o, ho, hc, _⟩ := h
  exact ⟨o, ho, hc.1⟩
theorem EsAt.keep {h h' : Heap} (x : EsAt h d es ep) (e : ∀ o, h.get? d = some o → h'.get? d = some o) : EsAt h' d es ep := by
  obtain ⟨o, ho, r⟩ := x
  exact ⟨o, e o ho, r⟩
theorem EsAt.lt_size {h : Heap} (x : EsAt h d es ep) : d < h.objs.size := by
  obtain ⟨o, ho, _⟩ := x
  exact Heap.lt_size ho
theorem es_iter {Q : Value → Shared → Prop} (hd : (d == sysModules) = false) (hm : EsAt s.heap d es ep)
    (hQ : Q (.ref s.heap.objs.size) { s with heap := s.heap.push { cls := .type "dict_keyiterator", data := .fields #[.ref d, .int 0 0, .int es.size 0, .int ep 0] } }) :
    wpAny (model prog w) A (pyIter (.ref d)) Q E s := by
  have hT := hm.typeIs
  obtain ⟨o, ho, hc, hdat⟩ := hm
  refine wpAny_pyIter_slot hT PySem.F.slot_dict_iter (wpAny_call_entry PySem.F.slot_dict_iter hT PySem.F.entry_dict_iter ?_ (PySem.F.args_dict_iter_1 _))
  unfold Builtin.«dict.__iter__» Builtin.Dict.dictSlotNone
  refine wpAny_bind (wpAny_bind (wpAny_notOrdered_dict hT ?_))
  show wpAny _ _ (pure (Value.ref d)) _ _ s
  refine wpAny_pure ?_
  show wpAny _ _ (Builtin.Dict.showsAll d >>= _) _ _ s
  unfold Builtin.Dict.showsAll
  rw [hd]
  refine wpAny_bind (wpAny_pure (wpAny_bind (wpAny_dictEntries ho hdat (wpAny_bind (wpAny_dictEpoch ho hdat ?_)))))
  exact wpAny_bind (wpAny_newObj_type (wpAny_pure ⟨_, rfl, "dict_keyiterator", _, ⟨_, Heap.get?_push_size _ rfl, rfl⟩, PySem.F.slot_dict_keyiterator_next.lookup, by simpa [rawInt] using hQ⟩))
theorem es_next {Q : Option Value → Shared → Prop} (hit : s.heap.IsKeyIter it d i es.size ep) (hm : EsAt s.heap d es ep) (hi : i < es.size)
    (hQ : ∀ h', h'.IsKeyIter it d (i + 1) es.size ep → Heap.SameBut it s.heap h' → Q (some es[i].key) { s with heap := h' }) :
    wpAny (model prog w) A (pyNext (.ref it)) Q E s := by
  have hT := hit.typeIs
  obtain ⟨o, ho, hc, hd⟩ := id hit
  obtain ⟨od, hod, hcd, hdd⟩ := hm
  have hown : Builtin.Dict_items.ownsTuple "dict_keyiterator" = false := by decide
  have hit' : (s.heap.update it (Obj.mapFields (·.setIfInBounds 1 (rawInt ((i : Int) + 1))))).IsKeyIter it d (i + 1) es.size ep :=
    ⟨_, Heap.get?_update_self _ ho (Obj.isFreed_of_fields (Obj.data_mapFields hd _)), (Obj.cls_mapFields ..).trans hc, by rw [Obj.data_mapFields hd]; simp [rawInt]⟩
  unfold pyNext
  refine wpAny_bind (wpAny_attempt (wpAny_callSpecial?_slot (name := Str.ofString "__next__") hT PySem.F.slot_dict_keyiterator_next
    (wpAny_call_entry PySem.F.slot_dict_keyiterator_next hT PySem.F.entry_dict_keyiterator_next ?_ (PySem.F.args_dict_keyiterator_next_1 _))))
  refine wpAny_bind (wpAny_pure (wpAny_bind (wpAny_bind ?_)))
  first | refine wpAny_bind (wpAny_typeNameOfWhole_keyiter hT (wpAny_pure ?_)) | refine wpAny_bind (wpAny_typeNameOf_keyiter hT (wpAny_pure ?_))
  refine wpAny_bind (wpAny_fieldsOf ho hd ?_)
  simp only [hown, Bool.false_eq_true, if_false]
  show wpAny _ _ (if (Value.ref d == Value.none) = true then _ else _) _ _ s
  rw [if_neg (show ¬ ((Value.ref d == Value.none) = true) from Bool.false_ne_true)]
  refine wpAny_bind (wpAny_pure (wpAny_bind (wpAny_dictEntries hod hdd ?_)))
  rw [if_neg (by simp)]
  refine wpAny_bind (wpAny_pure (wpAny_bind (wpAny_dictEpoch hod hdd ?_)))
  rw [if_neg (by simp)]
  refine wpAny_pure ?_
  simp only [show ¬ ((i : Int) < 0) from by (first | k_extra "MY lo" | omega), if_false, Int.toNat_natCast, Array.getElem?_eq_getElem hi]
  refine wpAny_bind ?_
  first | refine wpAny_bind (wpAny_typeNameOfWhole_keyiter hT (wpAny_pure ?_)) | refine wpAny_bind (wpAny_typeNameOf_keyiter hT (wpAny_pure ?_))
  refine wpAny_bind (wpAny_isOneOf_keyiter hT ?_)
  show wpAny _ _ (setField (.ref it) 1 (rawInt ((i : Int) + 1)) >>= _) _ _ s
  refine wpAny_bind (wpAny_setField ho hd (by simp) (wpAny_bind (wpAny_holding ?_)))
  refine wpAny_bind (wpAny_isOneOf_keyiter (s := { s with heap := s.heap.update it (Obj.mapFields (·.setIfInBounds 1 (rawInt ((i : Int) + 1)))) }) hit'.typeIs ?_)
  exact wpAny_pure (wpAny_pure ⟨_, rfl, wpAny_pure (hQ _ hit' (Heap.SameBut.update ..))⟩)
theorem es_end {Q : Option Value → Shared → Prop} (hh : A.handled = none) (hit : s.heap.IsKeyIter it d es.size es.size ep) (hm : EsAt s.heap d es ep)
    (hQ : ∀ h', Heap.ExtBut it s.heap h' → Q none { s with heap := h' }) : wpAny (model prog w) A (pyNext (.ref it)) Q E s := by
  have hT := hit.typeIs
  obtain ⟨o, ho, hc, hd⟩ := id hit
  obtain ⟨od, hod, hcd, hdd⟩ := hm
  have hown : Builtin.Dict_items.ownsTuple "dict_keyiterator" = false := by decide
  unfold pyNext
  refine wpAny_bind (wpAny_attempt (wpAny_callSpecial?_slot (name := Str.ofString "__next__") hT PySem.F.slot_dict_keyiterator_next
    (wpAny_call_entry PySem.F.slot_dict_keyiterator_next hT PySem.F.entry_dict_keyiterator_next ?_ (PySem.F.args_dict_keyiterator_next_1 _))))
  refine wpAny_bind (wpAny_pure (wpAny_bind (wpAny_bind ?_)))
  first | refine wpAny_bind (wpAny_typeNameOfWhole_keyiter hT (wpAny_pure ?_)) | refine wpAny_bind (wpAny_typeNameOf_keyiter hT (wpAny_pure ?_))
  refine wpAny_bind (wpAny_fieldsOf ho hd ?_)
  simp only [hown, Bool.false_eq_true, if_false]
  show wpAny _ _ (if (Value.ref d == Value.none) = true then _ else _) _ _ s
  rw [if_neg (show ¬ ((Value.ref d == Value.none) = true) from Bool.false_ne_true)]
  refine wpAny_bind (wpAny_pure (wpAny_bind (wpAny_dictEntries hod hdd ?_)))
  rw [if_neg (by simp)]
  refine wpAny_bind (wpAny_pure (wpAny_bind (wpAny_dictEpoch hod hdd ?_)))
  rw [if_neg (by simp)]
  refine wpAny_pure ?_
  simp only [show ¬ (((es.size : Nat) : Int) < 0) from by (first | k_extra "MY lo" | omega), if_false, Int.toNat_natCast, Array.getElem?_eq_none (Nat.le_refl es.size)]
  refine wpAny_bind ?_
  first | refine wpAny_bind (wpAny_typeNameOfWhole_keyiter hT (wpAny_pure ?_)) | refine wpAny_bind (wpAny_typeNameOf_keyiter hT (wpAny_pure ?_))
  show wpAny _ _ (setField (.ref it) 0 .none >>= _) _ _ s
  refine wpAny_bind (wpAny_setField ho hd (by simp) ?_)
  show wpAny _ _ (newExc (.type "StopIteration") [] >>= _) _ _ _
  refine wpAny_bind ?_
  simp only [newExc, newTuple]
  refine wpAny_bind (wpAny_newObj_type ?_ (by size_fits))
  refine wpAny_bind (m := firstArgMember _ _) (wpAny_of_eq (a := Value.none) (by first | rfl | (simp only [firstArgMember]; rfl)) ?_)
  refine wpAny_newObj_type ?_ (by size_fits)
  simp only [raiseNew]
  refine wpAny_bind (wpAny_handled ?_)
  rw [show A.in1.handled = none from hh]
  refine wpAny_bind (wpAny_pure (wpAny_throw ?_))
  refine wpAny_bind (wpAny_isInstance (T := "StopIteration") (b := true) ⟨_, Heap.get?_push_size _ rfl, rfl⟩ isSubtype_stop ?_)
  exact wpAny_pure (hQ _ (((Heap.SameBut.update ..).extBut.push _).push _))
theorem es_walks (hh : A.handled = none) (I d : Addr) (hne : d ≠ I) (es : Array DictEntry) (ep : Nat) :
    Walks prog w A I [I, d] [I] es.size (fun i v => es[i]?.map (·.key) = some v) (fun i h => h.IsKeyIter I d i es.size ep ∧ EsAt h d es ep) where
  sub := fun b hb => by rw [List.mem_singleton.mp hb]; exact .head _
  frame := fun _ _ _ st hk => ⟨st.1.at fun o e => hk I (.head _) o e, st.2.keep fun o e => hk d (.tail _ (.head _)) o e⟩
  item := fun i s Q E hi st hQ => es_next st.1 st.2 hi fun h' hit' hs' => hQ es[i].key h' s.toks (by simp [hi]) ⟨hit', st.2.keep fun o e => hs'.extBut d o hne e⟩ fun b o hb e => hs'.extBut b o (fun h => hb (by rw [h]; exact .head _)) e
  done := fun s Q E st hQ => es_end hh st.1 st.2 fun h' he' => hQ h' s.toks fun b o hb e => he' b o (fun h => hb (by rw [h]; exact .head _)) e
  self := fun _ _ _ _ st hQ => wpAny_pyIter_keyiter st.1 hQ
theorem es_src (lo : (d == sysModules) = false) : KdlSrc prog w "dict" d d es.size (fun i v => es[i]?.map (·.key) = some v) (fun h => EsAt h d es ep) where
  type := fun _ hm => hm.typeIs
  there := fun _ hm => ⟨hm.lt_size, hm.lt_size⟩
  keep := fun _ _ hm hk => hm.keep fun o e => hk d (.inl rfl) o e
  notList := by decide
  notTuple := by decide
  hint := fun _ _ _ _ hm hq => kdl_hint_dict hm.typeIs hq
  iter := fun _ _ hh hm => ⟨_, _, (fun _ _ hq => es_iter lo hm hq), es_walks hh _ d (Nat.ne_of_lt hm.lt_size) es ep, ⟨⟨_, Heap.get?_push_size _ rfl, rfl, rfl⟩, hm.keep fun o e => Heap.get?_push_of_some _ e⟩⟩
theorem es_len {Q : Value → Shared → Prop} (lo : (d == sysModules) = false) (hm : EsAt s.heap d es ep) (hf : es.size < 100) (h : ∀ t tk, Q (.int es.size t) { s with toks := tk }) :
    wpAny (model prog w) A (call (.builtin "len") [.ref d]) Q E s := by
  have hT := hm.typeIs
  obtain ⟨o, ho, hc, hd⟩ := id hm
  refine Calls.call_function_entry kind_len plain_len entry_len (args_len1 _) ?_
  unfold Builtin.«len»
  refine wpAny_bind (m := oneArg "len" _) (wpAny_pure ?_)
  refine wpAny_bind (m := callSpecial? (.ref d) (Str.ofString "__len__")) (wpAny_callSpecial?_slot (name := Str.ofString "__len__") hT PySem.F.slot_dict_len
    (wpAny_call_entry PySem.F.slot_dict_len hT PySem.F.entry_dict_len ?_ (PySem.F.args_dict_len_1 _)))
  show wpAny _ _ (dictSize d >>= _) _ _ s
  unfold dictSize
  refine wpAny_bind (wpAny_bind (wpAny_dictEntries ho hd (wpAny_pure ?_)))
  show wpAny _ _ (Builtin.Dict.pendingCount d >>= _) _ _ s
  refine wpAny_bind (wpAny_pendingCount_other lo ?_)
  refine wpAny_bind (wpAny_mkInt (wpAny_pure ⟨_, rfl, ?_⟩))
  refine wpAny_bind (wpAny_holding (wpAny_pure ?_))
  refine wpAny_bind (wpAny_letGo ?_)
  rw [Nat.add_zero]
  show wpAny _ _ (if ((es.size : Nat) : Int) < 0 then _ else _) _ _ _
  rw [if_neg (by (first | k_extra "MY lo" | omega))]
  show wpAny _ _ (if ((es.size : Nat) : Int) ≥ 2 ^ 63 then _ else _) _ _ _
  rw [if_neg (by (first | k_extra "MY lo" | omega))]
  exact wpAny_bind (wpAny_mkInt (wpAny_pure ⟨_, rfl, h _ _⟩))
end
end
end
section
open PySem.Calls Builtin
section
section
variable {prog : Program} {w : World} {A : Around} {E : Value → Shared → Prop} {s : Shared} {h₀ : Heap} {L d : Addr} {m : Str → Option Value} {news tl all : List (Addr × Obj)} {o : Obj} {D : List (PyData × PyData)}
theorem kvsOf_length {K : Type} (xs : List (K × Addr × Value)) : (kvsOf xs).length = xs.length := by unfold kvsOf; rw [List.length_map]
theorem tup_size (T : TupTab (intKind prog w) PyData.int news d D) : ∃ o es ep, (d, o) ∈ news ∧ o.ExactDict ∧ o.data = .dict es ep ∧ es.size = D.length := by
  obtain ⟨lo, o, es, ep, xs, hm, hc, hd, he, hn, hk, hf⟩ := T
  refine ⟨o, es, ep, hm, hc, hd, ?_⟩
  rw [hf.length, kvsOf_length, ← Array.length_toList, he, List.length_map]
theorem ts_set {Q : Value → Shared → Prop} {vs : List (Value × Value)} {ps : List (PyData × PyData)} (hu : A.units < cLine) (F : Fr h₀ L s.heap m) (N : News h₀ L s.heap all) (hm : (d, o) ∈ all) (lo : (d == sysModules) = false) (hd : o.IsDictOf (intKind prog w) []) (hk : KeysIn (intKind prog w) PyData.int all vs ps) (hsz : ps.length ≤ 10) (hs : ∀ p ∈ tl, p ∈ all) (hoff : ∀ p ∈ tl, p.1 ≠ d)
    (h : ∀ h' oo es ep news' tk, Fr h₀ L h' m → News h₀ L h' ((d, oo) :: tl) → News h₀ L h' news' → oo.ExactDict → oo.data = .dict es ep → es.size = (putAllT ps []).length → (d, oo) ∈ news' → TupTab (intKind prog w) PyData.int news' d (putAllT ps []) → Q (.ref d) { s with heap := h', toks := tk }) :
    TupStores prog w A E d Q vs s := by
  refine TupStores.intro (knd := intKind prog w) (enc := PyData.int) PyProof.V.same_int hu F N (TupTab.ofEmpty hm lo hd) hk (fun h' news' tk F' N' T keep => ?_) (Nat.le_trans hsz (Nat.le_of_ble_eq_true rfl))
  obtain ⟨oo, es, ep, m1, m2, m3, m4⟩ := tup_size T
  exact h h' oo es ep news' tk F' (news_sub N' (sub_cons m1 fun p hp => keep p (hs p hp) (hoff p hp))) N' m2 m3 m4 m1 T
theorem off_of {l : List (Addr × Obj)} (h : LCg.Off1 d l) : ∀ p ∈ l, p.1 ≠ d := mem_off1 h
theorem Dict_tupd {env : Env} {keys : List (Option PySem.Expr)} {values : List PySem.Expr} {pos : Pos} {Q : Value → Shared → Prop} (h1 : tupFirst keys = true) (F : Fr h₀ L s.heap m) (N : News h₀ L s.heap news)
    (hbig : sysModules < h₀.objs.size) (hall : keys.all (·.isSome) = true) (hl : keys.length = values.length) (h0 : keys ≠ []) (hlen : keys.length ≤ 15)
    (h : ∀ d o h', Fr h₀ L h' m → News h₀ L h' ((d, o) :: news) → (d == sysModules) = false → o.IsDictOf (intKind prog w) [] → (∀ p ∈ news, p.1 < d) →
      wpAny (model prog w) A (evalPairs (pairTrees keys values env pos)) (TupStores prog w A E d Q) E { s with heap := h' }) :
    wpAny (model prog w) A (eval (.Dict keys values pos) env) Q E s :=
  Dict_tup_made h1 F N hbig hall hl h0 hlen fun o F' N' lo e => h _ o _ F' N' lo e fun p hp => Heap.lt_size (N p hp).1
end
end
end
example : True ∧ True := by w_top off; first | (walk1; done) | exact ⟨trivial, trivial⟩
example : True := by
  k_with_none
  k_with "eval Name" => (k_here; (with_reducible show wpAny _ _ (eval (Expr.Name _ _) (compEnvC _ _ _ _)) _ _ _); k_dflt (first | (name_kind "local"; refine' LCgL.ld_own ?zN ?zm ?zC ?zx ?_ ?zk ?zl ?zd; (case zk => kernel_rfl); (case zl => kernel_rfl); (case zd => kernel_rfl); (case zN => k_asm); (case zm => k_mem); (case zC => assumption); (case zx => assumption); k_whole) | (name_kind "globalImplicit"; first | (refine' LCgL.ld_global ?zF ?zX ?zT ?ze ?_ ?zg ?zk ?zl ?zd; (case zg => kernel_rfl); (case zk => kernel_rfl); (case zl => kernel_rfl); (case zd => kernel_rfl); (case zF => k_asm); (case zX => k_asm); (case zT => k_asm); (case ze => k_is); k_whole) | (refine' LCgL.ld_built ?zF ?zX ?zT ?ze ?zv ?zn ?_ ?zg ?zb ?zk ?zl ?zd; (case zg => kernel_rfl); (case zb => kernel_rfl); (case zk => kernel_rfl); (case zl => kernel_rfl); (case zd => kernel_rfl); (case zF => k_asm); (case zX => k_asm); (case zT => k_asm); (case ze => k_is); (case zv => boot_fast); (case zn => decide); k_whole))))
  k_with "eval Name" => (k_here; (fail_if_success (with_reducible show wpAny _ _ (eval (Expr.Name _ _) (compEnvC _ _ _ _)) _ _ _)); k_dflt (first | (name_kind "local"; refine' nameX_L ?zF ?zv ?_ ?za ?zb ?zc; (case zF => k_asm); (case za => kernel_rfl); (case zb => kernel_rfl); (case zc => kernel_rfl); (case zv => rfl); k_whole) | (name_kind "cell"; refine' nameX_C ?zN ?zl ?zm ?zd ?_ ?za ?zb ?zc; (case za => kernel_rfl); (case zb => kernel_rfl); (case zc => kernel_rfl); (case zN => k_asm); (case zl => rfl); (case zm => k_mem); (case zd => k_asm); k_whole) | (name_kind "globalImplicit"; first | (refine' nameX_K ?zF ?zX ?zT ?ze ?_ ?za ?zb ?zc; (case za => kernel_rfl); (case zb => kernel_rfl); (case zc => kernel_rfl); (case zF => k_asm); (case zX => k_asm); (case zT => k_asm); (case ze => k_is); k_whole) | (refine' nameX_B ?zF ?zX ?zT ?ze ?zv ?zn ?_ ?za ?zb ?zc; (case za => kernel_rfl); (case zb => kernel_rfl); (case zc => kernel_rfl); (case zF => k_asm); (case zX => k_asm); (case zT => k_asm); (case ze => k_is); (case zv => boot_fast); (case zn => decide); k_whole))))
  k_with "ite" => (k_closed; first | (with_reducible refine ite_pos ?zi ?_; (case zi => decide +kernel)) | (with_reducible refine ite_neg ?zi ?_; (case zi => decide +kernel)))
  k_with "getAttr ref" => (k_here; k_dflt (refine' get_own ?zF ?zX ?zI ?zg ?zh ?za ?zn ?zl ?zv ?_; (case zF => k_asm); (case zX => k_asm); (case zI => k_inst); (case zl => k_get); (case zg => k_is); (case zh => k_is); (case za => k_is); (case zn => k_is); (case zv => k_handed); k_whole))
  k_with "spliced" => ((with_reducible show wpAny _ _ (spliced (backTo _ (starEach (_ :: _) _))) _ _ _); k_dflt (refine args_cons ?_))
  k_with "newList" => (k_here; k_dflt (refine' newList_K ?zF ?zN ?_ ?zs; (case zF => k_asm); (case zN => k_asm); (case zs => exact Nat.le_of_ble_eq_true rfl); k_whole); k_extra "M46a0")
  k_with "MY ltp" => ((with_reducible rename @LT.lt Nat _ _ _ ∧ _ => kL); first | (with_reducible first | exact kL.1 | exact kL.2 | exact kL.2.1 | exact kL.2.2 | exact kL.2.2.1 | exact kL.2.2.2 | exact kL.2.2.2.1 | exact kL.2.2.2.2 | exact kL.2.2.2.2.1 | exact kL.2.2.2.2.2 | exact kL.2.2.2.2.2.1 | exact kL.2.2.2.2.2.2 | exact kL.2.2.2.2.2.2.1 | exact kL.2.2.2.2.2.2.2 | exact kL.2.2.2.2.2.2.2.1 | exact kL.2.2.2.2.2.2.2.2 | exact kL.2.2.2.2.2.2.2.2.1 | exact kL.2.2.2.2.2.2.2.2.2 | exact kL.2.2.2.2.2.2.2.2.2.1 | exact kL.2.2.2.2.2.2.2.2.2.2 | exact kL.2.2.2.2.2.2.2.2.2.2.1 | exact kL.2.2.2.2.2.2.2.2.2.2.2 | exact kL.2.2.2.2.2.2.2.2.2.2.2.1 | exact kL.2.2.2.2.2.2.2.2.2.2.2.2 | exact kL.2.2.2.2.2.2.2.2.2.2.2.2.1 | exact kL.2.2.2.2.2.2.2.2.2.2.2.2.2 | exact kL.2.2.2.2.2.2.2.2.2.2.2.2.2.1 | exact kL.2.2.2.2.2.2.2.2.2.2.2.2.2.2 | exact kL.2.2.2.2.2.2.2.2.2.2.2.2.2.2.1 | exact kL.2.2.2.2.2.2.2.2.2.2.2.2.2.2.2 | exact kL.2.2.2.2.2.2.2.2.2.2.2.2.2.2.2.1 | exact kL.2.2.2.2.2.2.2.2.2.2.2.2.2.2.2.2 | exact kL.2.2.2.2.2.2.2.2.2.2.2.2.2.2.2.2.1 | exact kL.2.2.2.2.2.2.2.2.2.2.2.2.2.2.2.2.2 | exact kL.2.2.2.2.2.2.2.2.2.2.2.2.2.2.2.2.2.1 | exact kL.2.2.2.2.2.2.2.2.2.2.2.2.2.2.2.2.2.2 | exact kL.2.2.2.2.2.2.2.2.2.2.2.2.2.2.2.2.2.2.1 | exact kL.2.2.2.2.2.2.2.2.2.2.2.2.2.2.2.2.2.2.2 | exact kL.2.2.2.2.2.2.2.2.2.2.2.2.2.2.2.2.2.2.2.1 | exact kL.2.2.2.2.2.2.2.2.2.2.2.2.2.2.2.2.2.2.2.2 | exact kL.2.2.2.2.2.2.2.2.2.2.2.2.2.2.2.2.2.2.2.2.1 | exact kL.2.2.2.2.2.2.2.2.2.2.2.2.2.2.2.2.2.2.2.2.2 | exact kL.2.2.2.2.2.2.2.2.2.2.2.2.2.2.2.2.2.2.2.2.2.1 | exact kL.2.2.2.2.2.2.2.2.2.2.2.2.2.2.2.2.2.2.2.2.2.2 | exact kL.2.2.2.2.2.2.2.2.2.2.2.2.2.2.2.2.2.2.2.2.2.2.1 | exact kL.2.2.2.2.2.2.2.2.2.2.2.2.2.2.2.2.2.2.2.2.2.2.2) | (clear kL; k_extra "MY ltp"))
  k_with "MY ne" => first | (refine Nat.ne_of_gt ?_; k_extra "MY ltp") | (refine Nat.ne_of_lt ?_; k_extra "MY ltp")
  k_with "newTuple" => (k_here; k_dflt (refine' kup_newTuple ?zF ?zN ?_ ?zs; (case zF => k_asm); (case zN => k_asm); (case zs => kmk_size)); k_extra "M46a0")
  k_with "MY ltq" => first | with_reducible assumption | k_extra "MY ltp" | ((with_reducible refine' Nat.lt_trans ?_ ?klb); (case klb => with_reducible assumption); k_extra "MY ltq") | ((with_reducible refine' Nat.lt_trans ?kla ?_); (case kla => with_reducible assumption); k_extra "MY ltp") | ((with_reducible refine' Nat.lt_succ_of_lt ?_); first | with_reducible assumption | k_extra "MY ltp" | ((with_reducible refine' Nat.lt_succ_of_lt ?_); first | with_reducible assumption | k_extra "MY ltp")) | ((with_reducible refine' Mine.mem_allLt ?_ _ ?klm); (case klm => with_reducible assumption); first | with_reducible assumption | k_extra "MY ltp")
  k_with "MY lo" => first | ((with_reducible show @LT.lt Nat _ _ _); (try dsimp only); k_extra "MY ltq") | ((with_reducible show @Ne Nat _ _); (try dsimp only); first | with_reducible assumption | (refine Ne.symm ?_; with_reducible assumption) | (refine Nat.ne_of_gt ?_; k_extra "MY ltq") | (refine Nat.ne_of_lt ?_; k_extra "MY ltq")) | decide
  k_with "H mem" => first | exact List.Mem.head _ | (refine' List.Mem.tail _ ?_; k_extra "H mem") | ((fail_if_success refine' List.Mem.tail _ ?_); change (_ : Addr × Obj) ∈ (_ : List (Addr × Obj)); first | with_reducible assumption | (with_reducible refine' List.mem_append_left _ ?_; k_extra "H mem") | (with_reducible refine' List.mem_append_right _ ?_; k_extra "H mem"))
  k_with "H room" => ((try simp only [depth_under_make, depth_under_kw, depth_in1, depth_deeper, depth_caller]); (try dsimp only [ktrTop]); first | decide | ((try simp only [Nat.add_assoc, Nat.reduceAdd]); (with_reducible rename _ + _ < recursionLimit => kH); first | exact Mine.room_of kH rfl | exact Mine.room_at kH) | omega)
  k_with "H units" => ((try simp only [units_in1, units_deeper, Around.mark_units, units_caller]); (try dsimp only [ktrTop]); first | decide | ((try simp only [Nat.add_assoc, Nat.reduceAdd]); (with_reducible rename _ + _ < cLine => kH); first | exact Mine.room_of kH rfl | exact Mine.room_at kH) | omega)
  k_with "H ne" => (refine neN ?_; (try dsimp only); first | with_reducible assumption | (refine Ne.symm ?_; with_reducible assumption) | (with_reducible first | exact Nat.ne_of_lt (by assumption) | exact Nat.ne_of_gt (by assumption)) | k_extra "MY ne" | ((with_reducible rename (_ ≠ _ ∧ _ ≠ _ ∧ _ ≠ _) ∧ _ => kOff); first | (simp only [kOff, ne_eq, not_false_eq_true]; done) | (refine Ne.symm ?_; simp only [kOff, ne_eq, not_false_eq_true]; done)) | k_extra "MY lo" | omega)
  trivial
def putIf (b : Bool) (kvs : List (Str × Value)) (tag : Str) (v : Value) : List (Str × Value) := if b then stored kvs tag v else kvs
theorem putIf_len {b : Bool} {kvs : List (Str × Value)} {tag : Str} {v : Value} {n : Nat} (h : kvs.length ≤ n) : (putIf b kvs tag v).length ≤ n + 1 := by
  unfold putIf
  have := stored_length_le kvs tag v
  split <;> (first | k_extra "MY lo" | omega)
section
variable {w : World} {A : Around} {E : Value → Shared → Prop} {s : Shared} {h₀ : Heap} {L d : Addr} {m : Str → Option Value} {tl all : List (Addr × Obj)} {o : Obj} {kvs : List (Str × Value)} {tag : Str} {part : Value} {b : Bool} {M : Model}
def IfPost (w : World) (h₀ : Heap) (L : Addr) (m : Str → Option Value) (d : Addr) (tl : List (Addr × Obj)) (b : Bool) (kvs : List (Str × Value)) (tag : Str) (part : Value) (s : Shared) (fl : Flow) (s' : Shared) : Prop :=
  ∃ o' t ot h' tk', fl = .next ∧ s' = { s with heap := h', toks := tk' } ∧ Fr h₀ L h' m ∧ News h₀ L h' ((d, o') :: (t, ot) :: tl) ∧ o'.IsDictOf (sK w) (putIf b kvs tag (.ref t)) ∧ (b = true → ∃ tt, ot = tup [.str tag tt, part]) ∧ @Ne Nat t d
theorem if_merge {x : Sem Flow} {Q : Flow → Shared → Prop} (tag : Str) (part : Value) (b : Bool) (kvs : List (Str × Value)) (d : Addr) (tl : List (Addr × Obj)) (_F : Fr h₀ L s.heap m) (h0 : b = false → wpAny M A x (IfPost w h₀ L m d tl b kvs tag part s) E s) (h1 : b = true → wpAny M A x (IfPost w h₀ L m d tl b kvs tag part s) E s)
    (h2 : ∀ o' t ot h' tk', Fr h₀ L h' m → News h₀ L h' ((d, o') :: (t, ot) :: tl) → o'.IsDictOf (sK w) (putIf b kvs tag (.ref t)) → (b = true → ∃ tt, ot = tup [.str tag tt, part]) → @Ne Nat t d → Q .next { s with heap := h', toks := tk' }) : wpAny M A x Q E s := by
  refine wpAny_mono (Q := IfPost w h₀ L m d tl b kvs tag part s) ?_ (fun fl s' ⟨o', t, ot, h', tk', e1, e2, f, n, i, z, ne⟩ => by subst e1 e2; exact h2 o' t ot h' tk' f n i z ne) fun _ _ x => x
  cases b
  · exact h0 rfl
  · exact h1 rfl
theorem IfPost.miss {t : Addr} {ot : Obj} {h' : Heap} {tk' : Nat} (hb : b = false) (F : Fr h₀ L h' m) (N : News h₀ L h' all) (hm : (d, o) ∈ all) (ht : (t, ot) ∈ all) (hs : ∀ p ∈ tl, p ∈ all) (hd : o.IsDictOf (sK w) kvs) (hne : @Ne Nat t d) : IfPost w h₀ L m d tl b kvs tag part s .next { s with heap := h', toks := tk' } :=
  ⟨o, t, ot, h', tk', rfl, rfl, F, news_sub N (sub_cons hm (sub_cons ht hs)), by rw [hb]; exact hd, fun h => by rw [hb] at h; (cases h), hne⟩
theorem IfPost.hit {t : Addr} {tt : Tok} {h' : Heap} {tk' : Nat} (hb : b = true) (F : Fr h₀ L h' m) (N : News h₀ L h' ((d, o) :: (t, tup [.str tag tt, part]) :: tl)) (hd : o.IsDictOf (sK w) (stored kvs tag (.ref t))) (hne : @Ne Nat t d) : IfPost w h₀ L m d tl b kvs tag part s .next { s with heap := h', toks := tk' } :=
  ⟨o, t, _, h', tk', rfl, rfl, F, N, by rw [hb]; exact hd, fun _ => ⟨tt, rfl⟩, hne⟩
theorem set_tup {t : Addr} {ot : Obj} {tk : Tok} {Q : Unit → Shared → Prop} (F : Fr h₀ L s.heap m) (N : News h₀ L s.heap all) (hd : o.IsDictOf (sK w) kvs) (hoff : ∀ p ∈ tl, p.1 ≠ d) (hm : (d, o) ∈ all) (ht : (t, ot) ∈ all) (hs : ∀ p ∈ tl, p ∈ all) (hne : @Ne Nat t d) (hsz : kvs.length ≤ 100)
    (h : ∀ h' o', Fr h₀ L h' m → News h₀ L h' ((d, o') :: (t, ot) :: tl) → o'.IsDictOf (sK w) (stored kvs tag (.ref t)) → Q () { s with heap := h', toks := s.toks + 1 }) :
    wpAny (model PySem.Challenge.rw_nu0220_01.row.prog w) A (setItem (.ref d) (.str tag tk) (.ref t)) Q E s := by
  refine kda_set (knd := sK w) F (news_sub N (sub_cons hm (sub_cons ht hs))) (UpdF.head fun p hp => ?_) hd (strKind_is _ _ _ _) (Nat.le_trans hsz (Nat.le_of_ble_eq_true rfl)) h
  rcases List.mem_cons.mp hp with rfl | hp
  · exact hne
  · exact hoff p hp
theorem off_cons2 {t : Addr} {ot : Obj} (hne : @Ne Nat t d) (h : ∀ p ∈ tl, p.1 ≠ d) : ∀ p ∈ (t, ot) :: tl, p.1 ≠ d := fun p hp => by
  rcases List.mem_cons.mp hp with rfl | hp
  · exact hne
  · exact h p hp
end
example : True := by
  k_with "MY enter" => (refine' code_def ?zk1 ?zk2 ?zk3 ?zk4 ?zk5 ?zkA ?zkF ?zkK ?zk6 ?zk7 ?zk8 ?zk9 ?zkB ?_ ?zc2 ?zc3 ?zc4 ?zc5; (case zkA => exact rfl); (case zkF => exact rfl); (case zkK => k_asm); (case zk1 => k_asm); (case zk2 => k_asm); (case zk3 => k_asm); (case zk4 => k_asm); (case zk5 => k_asm); (case zk6 => k_is); (case zk7 => k_is); (case zk8 => ktr_room); (case zk9 => first | exact BindsTo.of_eq rfl | exact binds_K (by k_in) rfl (by k_is) rfl rfl rfl); (case zc5 => decide); (case zkB => exact locs rfl); (case zc2 => exact rfl); (case zc3 => exact rfl); (case zc4 => exact rfl); k_extra "M91c7")
  k_with "MY enterC" => (refine' code_defC ?zk1 ?zk2 ?zk3 ?zk4 ?zk5 ?zkA ?zkF ?zkK ?zk6 ?zk7 ?zk8 ?zk9 ?zkB ?zkD ?_ ?zc2 ?zc3 ?zc4; (case zkA => exact rfl); (case zkF => exact rfl); (case zkK => k_asm); (case zk1 => k_asm); (case zk2 => k_asm); (case zk3 => k_asm); (case zk4 => k_asm); (case zk5 => k_asm); (case zk6 => k_is); (case zk7 => k_is); (case zk8 => ktr_room); (case zk9 => first | exact BindsTo.of_eq rfl | exact binds_K (by k_in) rfl (by k_is) rfl rfl rfl); (case zkB => exact rfl); (case zkD => decide +kernel); (case zc2 => exact rfl); (case zc3 => exact rfl); (case zc4 => exact rfl); k_extra "M289d")
  k_with "MY fn" => (refine wpAny_call ?_; k_dflt (first | k_extra "MY enter" | k_extra "MY enterC"))
  k_with "MY cls" => (k_dflt (refine' call_cls ?zq1 ?zq2 ?zq3 ?zq4 ?zq5 ?zq6 ?_; (case zq1 => k_asm); (case zq2 => k_asm); (case zq3 => k_asm); (case zq4 => k_is); (case zq5 => k_is); (case zq6 => k_is); k_extra "M274b"))
  k_with "MY sub" => repeat' (first | exact List.forall_mem_nil _ | exact Mine.sub_refl | (refine Mine.sub_cons (by k_mem) ?_) | refine Mine.sub_tail ?_)
  k_with "callWith ref" => (k_here; k_dflt (first | refine' callWith_K ?zq1 ?zq2 ?_; (case zq1 => k_asm); (case zq2 => k_is); k_whole | (refine' callWith_K0 (Frag.In.keeps ?zq1 (Fr.keep ?zqF)) ?zq2 ?_; (case zqF => k_asm); (case zq1 => k_asm); (case zq2 => k_is); k_whole) | refine' callWith_K0 ?zq1 ?zq2 ?_; (case zq1 => k_in); (case zq2 => k_is); k_whole))
  k_with "MY lt" => first | assumption | exact Mine.mem_allLt (by assumption) | (refine Mine.mem_allLt ?_; simp only [*]; done)
  k_with "MY tl0" => repeat' (with_reducible first | exact Mine.sub_refl | refine Mine.sub_tail ?_)
  k_with "And" => ((with_reducible show PySem.W.FnAt _ _ ∧ _); k_dflt (refine' ⟨ro_fn ?zqr ?zqs ?zqN, ?_⟩; (case zqr => with_reducible assumption); (case zqN => k_asm); (case zqs => first | (with_reducible exact Mine.sub_refl) | k_extra "MY tl")); try dsimp only [List.nil_append, List.cons_append])
  k_with "callWith ref" => (k_here; k_dflt (first | (refine' callWith_K ?zq1 ?zq2 ?_; (case zq1 => k_asm); (case zq2 => k_is); k_whole) | (refine' callWith_K0 (Frag.In.keeps ?zq1 (Fr.keep ?zqF)) ?zq2 ?_; (case zqF => k_asm); (case zq1 => k_asm); (case zq2 => k_is); k_whole) | (refine' callWith_K0 ?zq1 ?zq2 ?_; (case zq1 => k_in); (case zq2 => k_is); k_whole) | (refine' callWith_F ?zq1 ?_; (case zq1 => refine' Mine.ro_fn ?zqr ?zqs ?zqN; (case zqr => with_reducible assumption); (case zqN => k_asm); (case zqs => first | (with_reducible exact Mine.sub_refl) | k_extra "MY tl")); k_whole)))
  k_with "call ref" => (k_here; k_dflt (refine' Mine.ro_call (by with_reducible assumption) ?zqs ?zqB ?zqF ?zqX ?zqN ?zqT ?zqk ?zqd ?zqu ?_; (case zqB => k_asm); (case zqF => k_asm); (case zqX => k_asm); (case zqN => k_asm); (case zqT => k_asm); (case zqs => first | (with_reducible exact Mine.sub_refl) | k_extra "MY tl"); (case zqk => first | exact rfl | assumption); (case zqd => ktr_room); (case zqu => ktr_units)); k_extra "Me7b0")
  k_with "compareOp In str ref" => (k_here; k_dflt (refine kda_in (knd := PySem.strKind _ _) (by k_asm) (by first | assumption | k_mem) (by k_asm) (by k_asm) (strKind_is _ _ _ _) _ (by first | exact Mine.isSome_none (by assumption) | exact Mine.isSome_some (by assumption)) ?_); (try dsimp only [Option.isSome]))
  k_with "subscriptTail" => (k_here; k_dflt (refine kda_item (knd := PySem.strKind _ _) (by k_asm) (by first | assumption | k_mem) (by k_asm) (strKind_is _ _ _ _) (by assumption) ?_))
  k_with "subscriptTail Name" => (k_here; k_dflt (refine kda_item (knd := PySem.strKind _ _) (by k_asm) (by first | assumption | k_mem) (by k_asm) (strKind_is _ _ _ _) (by assumption) ?_))
  k_with "MY tl" => repeat' (with_reducible first | exact Mine.sub_refl | exact Mine.sub_appR | refine Mine.sub_tail ?_ | refine Mine.sub_left ?_)
  k_with "MY sl" => ((try (with_reducible exact Mine.sub_refl)); (repeat' (refine Mine.sub_cons (by k_mem) ?_)); (k_extra "MY tl"))
  k_with "MY mem" => first | (with_reducible (repeat (first | assumption | exact List.Mem.head _ | (refine List.Mem.tail _ ?_) | (refine List.mem_append_right _ ?_; assumption) | (refine List.mem_append_left _ ?_))); done) | repeat (first | assumption | exact List.Mem.head _ | (refine List.Mem.tail _ ?_) | (refine List.mem_append_right _ ?_; assumption) | (refine List.mem_append_left _ ?_))
  k_with "compareOp NotIn str ref" => (k_here; k_dflt (refine kdg_notin (knd := PySem.strKind _ _) (by k_asm) (by first | assumption | k_mem) (by k_asm) (by k_asm) (strKind_is _ _ _ _) _ (by first | exact Mine.isSome_none (by assumption) | exact Mine.isSome_some (by assumption)) ?_); (try dsimp only [Option.isSome, Bool.not_true, Bool.not_false]))
  k_with "call ref" => k_extra "MY ng0"
  k_with "MY ng0" => (k_here; (with_reducible show wpAny _ _ (call (Value.ref 214) _) _ _ _); k_dflt (refine' Mine.ng0  _ _ _ _ _ _ _ _ _ _ _ _ _ _ _ _ _ ?zqB ?zqF ?zqX ?zqN ?zqT ?zqk ?zqd ?zqu ?_; (case zqB => k_asm); (case zqF => k_asm); (case zqX => k_asm); (case zqN => k_asm); (case zqT => k_asm); (case zqk => first | exact rfl | assumption); (case zqd => ktr_room); (case zqu => ktr_units)); k_extra "M67b0")
  k_with "call ref" => k_extra "MY gt0"
  k_with "MY gt0" => (k_here; (with_reducible show wpAny _ _ (call (Value.ref 200) _) _ _ _); k_dflt (refine' Mine.gt0 ?zqg _ _ _ _ _ _ _ _ _ _ _ _ _ _ _ _ _ ?zqB ?zqF ?zqX ?zqN ?zqT ?zqk ?zqd ?zqu ?_; (case zqB => k_asm); (case zqF => k_asm); (case zqX => k_asm); (case zqN => k_asm); (case zqT => k_asm); (case zqk => first | exact rfl | assumption); (case zqd => ktr_room); (case zqu => ktr_units); (case zqg => first | exact GdefIn.mono (by assumption) (by k_extra "MY tl") | exact (show GdefIn _ [] _ _ from Mine.GdefIn.intro (kvs := []) (by k_mem) (by k_mem) (by k_mem) (by k_mem) (by k_mem) (by k_mem) (by k_mem) (by k_mem) (by k_mem) (by k_mem) (by k_mem) (by assumption) .nil (Nat.zero_le _) ⟨by assumption, by assumption⟩ (by assumption) (by assumption) (by assumption) (by assumption) (by assumption) (by assumption)))); k_extra "M67b0")
  k_with "compareOp NotEq ref ref" => (k_here; k_dflt (first | (refine' Mine.gt_ne_diff (c' := []) rfl ?zql ?zqN ?zq1 ?zq2 ?zqu ?zqh ?zqk ?_; (case zqN => k_asm); (case zqh => assumption); (case zqk => assumption); (case zql => assumption); (case zq1 => k_extra "MY tl"); (case zq2 => k_extra "MY tl"); (case zqu => ktr_units)) | (refine' Mine.gt_ne_same ?zqN ?zq1 ?zq2 ?zqu ?zqh ?zqk ?_; (case zqN => k_asm); (case zqh => assumption); (case zqk => assumption); (case zq1 => k_extra "MY tl"); (case zq2 => k_extra "MY tl"); (case zqu => ktr_units))); (try dsimp only))
  k_with "getMethod ref" => (k_here; (with_reducible show wpAny _ _ (getMethod (Value.ref _) (Str.ofString "told") _) _ _ _); k_dflt (refine' Mine.gi_meth ?zqF ?zqN ?zqg ?zqs ?_ ?zqX; (case zqg => k_asm); (case zqF => k_asm); (case zqX => k_asm); (case zqN => k_asm); (case zqs => k_extra "MY tl")))
  k_with "setItem ref str ref" => (k_here; k_dflt (refine' Mine.set_tup ?zqF ?zqN ?zqd ?zqo ?zqm ?zqt ?zqs ?zqe ?zqz ?_; (case zqF => k_asm); (case zqN => k_asm); (case zqm => k_mem); (case zqt => k_mem); (case zqd => k_asm); (case zqo => k_asm); (case zqs => k_extra "MY sl"); (case zqe => (first | k_extra "MY lo" | omega)); (case zqz => k_asm)); k_extra "M3186")
  k_with "call builtin:len" => (k_here; (with_reducible show wpAny _ _ (call (Value.builtin "len") [Value.ref _]) _ _ _); k_dflt (refine' Mine.es_len ?zql ?zqm ?zqf ?_; (case zqm => exact ⟨_, News.get (by k_asm) (by k_mem), by assumption, by assumption⟩); (case zql => k_asm); (case zqf => k_asm)); k_extra "M5194")
  trivial
local macro_rules | `(tactic| k_extra "M3186") => `(tactic| (intro x0 x1 x2 x3 x4))
local macro_rules | `(tactic| k_extra "M5194") => `(tactic| (intro x0 x1))
theorem tb0 {w : World} {p : Program} {loose : List Str} {mean : ExcName → Option Value} {mg mb : Str → Option Value} {f df cm mt gg kd ta rd : Addr} {k1 k2 k3 k4 k5 k6 : Tok} {v2 v3 : Value} {c : List (Int × Int)} {ok ot ro : Obj} {kvs rvs : List (Str × Value)} {b1 b2 b3 b4 : Bool} {es : Array DictEntry} {ep : Nat} {rest : List (Addr × Obj)}
  (hf : (f, instObj 244 df) ∈ rest) (hdf : (df, dictOf [{ hash := PyData.keyHash w.params (Str.ofString "charmap"), key := .str (Str.ofString "charmap") k1, val := .ref cm }, { hash := PyData.keyHash w.params (Str.ofString "metrics"), key := .str (Str.ofString "metrics") k2, val := .ref mt }, { hash := PyData.keyHash w.params (Str.ofString "gdef"), key := .str (Str.ofString "gdef") k3, val := .ref gg }, { hash := PyData.keyHash w.params (Str.ofString "gsub"), key := .str (Str.ofString "gsub") k4, val := v2 }, { hash := PyData.keyHash w.params (Str.ofString "gpos"), key := .str (Str.ofString "gpos") k5, val := v3 }, { hash := PyData.keyHash w.params (Str.ofString "kern"), key := .str (Str.ofString "kern") k6, val := .ref kd }] 6) ∈ rest) (hg : GdefIn w c gg rest) (hb1 : b1 = true → c.length ≠ 0) (hb1' : b1 = false → c = []) (hb2 : b2 = true → ∃ x t, v2 = .str x t) (hb2' : b2 = false → v2 = .none) (hb3 : b3 = true → ∃ x t, v3 = .str x t) (hb3' : b3 = false → v3 = .none) (hk4 : (kd, ok) ∈ rest) (hkx : ok.ExactDict) (hkd : ok.data = .dict es ep) (hkz : es.size < 100) (hb4 : b4 = true → 0 < es.size) (hb4' : b4 = false → es.size = 0) (lok : (kd == sysModules) = false)
  (hta : (ta, ot) ∈ rest) (hdi : ot.IsDictOf (sK w) kvs) (lo : (ta == sysModules) = false) (hkl : kvs.length ≤ 50) (hrd : (rd, ro) ∈ rest) (hdr : ro.IsDictOf (sK w) rvs) (lor : (rd == sysModules) = false) (hrs : ReadersIn w rvs rest)
  : ∀ (dp un : Nat) (gd : Option (List Code)) (cn : Str) (cs : Scope) (a : Addr) (ccd : Value) (cl : List (Str × Addr)) (outer : List Env) (A₀ : Around) (base h₀ : Heap) (L : Addr) (m : Str → Option Value) (s : Shared) (Q E : Value → Shared → Prop)
  (_B : Below A₀ base outer h₀) (_F : Fr h₀ L s.heap m) (_X : (hd.heap_39 w.params).In h₀) (_N : News h₀ L s.heap (rest)) (_T : Top p loose mean mg mb h₀) (_hk : cs.kind = .function)
  (_hd : dp + 20 < recursionLimit) (_hu : un + 200 < cLine)
  (_hret : ∀ d o' t0 t1 t2 t3 t4 o1 o2 o3 o4 tt0 h' tk', Fr h₀ L h' m → News h₀ L h' ((d, o') :: (t4, o4) :: (t3, o3) :: (t2, o2) :: (t1, o1) :: (t0, tup [.str (Str.ofString "cmap") tt0, .ref cm]) :: rest) → o'.IsDictOf (sK w) (putIf b4 (putIf b3 (putIf b2 (putIf b1 (stored kvs (Str.ofString "cmap") (.ref t0)) (Str.ofString "GDEF") (.ref t1)) (Str.ofString "GSUB") (.ref t2)) (Str.ofString "GPOS") (.ref t3)) (Str.ofString "kern") (.ref t4)) → (b1 = true → ∃ tt, o1 = tup [.str (Str.ofString "GDEF") tt, .ref gg]) → (b2 = true → ∃ tt, o2 = tup [.str (Str.ofString "GSUB") tt, v2]) → (b3 = true → ∃ tt, o3 = tup [.str (Str.ofString "GPOS") tt, v3]) → (b4 = true → ∃ tt, o4 = tup [.str (Str.ofString "kern") tt, .ref kd]) → (d == sysModules) = false → Q (.ref d) { s with heap := h', toks := tk' }) ,
  wpAny (model PySem.Challenge.rw_nu0220_01.row.prog w) (ktrTop dp un gd cn cs L a ccd cl outer) (call (.ref 311) [.ref f, .ref ta, .ref rd]) Q E s := by
  k_fill
  intro dp un gd cn cs a ccd cl outer A₀ base h₀ L m s Q E B F X N T hk hd hu hret
  have NN := N
  clear N
  obtain ⟨fr1, yr1, kr1⟩ := hrs (Str.ofString "cmap") (.head _)
  obtain ⟨fr2, yr2, kr2⟩ := hrs (Str.ofString "GDEF") (.tail _ (.head _))
  obtain ⟨fr3, yr3, kr3⟩ := hrs (Str.ofString "GSUB") (.tail _ (.tail _ (.head _)))
  obtain ⟨fr4, yr4, kr4⟩ := hrs (Str.ofString "GPOS") (.tail _ (.tail _ (.tail _ (.head _))))
  obtain ⟨fr5, yr5, kr5⟩ := hrs (Str.ofString "kern") (.tail _ (.tail _ (.tail _ (.tail _ (.head _)))))
  k_extra "MY fn"
  repeat' ((fail_if_success (with_reducible show wpAny _ _ (call (Value.type "dict") _) _ _ _)); (first | (k_unfold; (try dsimp only)) | walk1 | (dsimp only; walk1) | fail "no step"))
  refine dd_call (by k_asm) (by k_asm) (Top.nolimit (by k_asm)) (by k_mem) hdi lo (Nat.le_trans hkl (Nat.le_of_ble_eq_true rfl)) ?_
  intro d hh1 od F1 N1 l1 lod hdd
  have hoff0 : ∀ p ∈ rest, p.1 ≠ d := fun p hp => Nat.ne_of_lt (l1 p hp)
  have hz0 : kvs.length ≤ 100 := Nat.le_trans hkl (by decide)
  replace l1 := allLt_of l1
  repeat' ((fail_if_success (with_reducible show wpAny _ _ (exec (Stmt.If _ _ _ _) _) _ _ _)); (first | (k_unfold; (try dsimp only)) | walk1 | (dsimp only; walk1) | fail "no step"))
  rename_i t0 tt0 _ _ _ _ l0 _ oo0 _ _ d0
  have ne0 : @Ne Nat t0 d := Nat.ne_of_gt l0.1
  have hoff1 : ∀ p ∈ (t0, tup [.str (Str.ofString "cmap") tt0, .ref cm]) :: rest, p.1 ≠ d := off_cons2 ne0 hoff0
  have hz1 : (stored kvs (Str.ofString "cmap") (.ref t0)).length ≤ 100 := Nat.le_trans (Nat.le_trans (stored_length_le kvs _ _) (Nat.succ_le_succ hkl)) (Nat.le_of_ble_eq_true rfl)
  repeat' ((fail_if_success (with_reducible show wpAny _ _ (exec (Stmt.If _ _ _ _) _) _ _ _)); (first | (k_unfold; (try dsimp only)) | walk1 | (dsimp only; walk1) | fail "no step"))
  k_dflt (refine' if_merge (w := w) (Str.ofString "GDEF") (.ref gg) b1 (stored kvs (Str.ofString "cmap") (.ref t0)) d ((t0, tup [.str (Str.ofString "cmap") tt0, .ref cm]) :: rest) ?zq0F ?_ ?_ ?_)
  (case zq0F => k_asm)
  · intro hb
    have hc := hb1' hb
    subst hc
    k_steps
    exact IfPost.miss (t := t0) (ot := tup [.str (Str.ofString "cmap") tt0, .ref cm]) hb (by k_asm) (by k_asm) (by k_mem) (by k_mem) (by k_extra "MY sl") d0 ne0
  · intro hb
    have hc := hb1 hb
    k_steps
    exact IfPost.hit hb (by k_asm) (by k_asm) (by assumption) (by (first | k_extra "MY lo" | omega))
  intro oo1 t1 ot1 h1x tk1x F1x N1x d1 z1 ne1
  k_sweep
  have hoff2 : ∀ p ∈ (t1, ot1) :: (t0, tup [.str (Str.ofString "cmap") tt0, .ref cm]) :: rest, p.1 ≠ d := off_cons2 ne1 hoff1
  have hz2 : (putIf b1 (stored kvs (Str.ofString "cmap") (.ref t0)) (Str.ofString "GDEF") (.ref t1)).length ≤ 100 := Nat.le_trans (putIf_len (n := 51) (Nat.le_trans (stored_length_le kvs _ _) (Nat.succ_le_succ hkl))) (Nat.le_of_ble_eq_true rfl)
  repeat' ((fail_if_success (with_reducible show wpAny _ _ (exec (Stmt.If _ _ _ _) _) _ _ _)); (first | (k_unfold; (try dsimp only)) | walk1 | (dsimp only; walk1) | fail "no step"))
  k_dflt (refine' if_merge (w := w) (Str.ofString "GSUB") (v2) b2 (putIf b1 (stored kvs (Str.ofString "cmap") (.ref t0)) (Str.ofString "GDEF") (.ref t1)) d ((t1, ot1) :: (t0, tup [.str (Str.ofString "cmap") tt0, .ref cm]) :: rest) ?zq1F ?_ ?_ ?_)
  (case zq1F => k_asm)
  · intro hb
    have hv := hb2' hb
    subst hv
    k_steps
    exact IfPost.miss (t := t0) (ot := tup [.str (Str.ofString "cmap") tt0, .ref cm]) hb (by k_asm) (by k_asm) (by k_mem) (by k_mem) (by k_extra "MY sl") d1 ne0
  · intro hb
    obtain ⟨vx, vt, hv⟩ := hb2 hb
    subst hv
    k_steps
    exact IfPost.hit hb (by k_asm) (by k_asm) (by assumption) (by (first | k_extra "MY lo" | omega))
  intro oo2 t2 ot2 h2x tk2x F2x N2x d2 z2 ne2
  k_sweep
  have hoff3 : ∀ p ∈ (t2, ot2) :: (t1, ot1) :: (t0, tup [.str (Str.ofString "cmap") tt0, .ref cm]) :: rest, p.1 ≠ d := off_cons2 ne2 hoff2
  have hz3 : (putIf b2 (putIf b1 (stored kvs (Str.ofString "cmap") (.ref t0)) (Str.ofString "GDEF") (.ref t1)) (Str.ofString "GSUB") (.ref t2)).length ≤ 100 := Nat.le_trans (putIf_len (n := 52) (putIf_len (n := 51) (Nat.le_trans (stored_length_le kvs _ _) (Nat.succ_le_succ hkl)))) (Nat.le_of_ble_eq_true rfl)
  repeat' ((fail_if_success (with_reducible show wpAny _ _ (exec (Stmt.If _ _ _ _) _) _ _ _)); (first | (k_unfold; (try dsimp only)) | walk1 | (dsimp only; walk1) | fail "no step"))
  k_dflt (refine' if_merge (w := w) (Str.ofString "GPOS") (v3) b3 (putIf b2 (putIf b1 (stored kvs (Str.ofString "cmap") (.ref t0)) (Str.ofString "GDEF") (.ref t1)) (Str.ofString "GSUB") (.ref t2)) d ((t2, ot2) :: (t1, ot1) :: (t0, tup [.str (Str.ofString "cmap") tt0, .ref cm]) :: rest) ?zq2F ?_ ?_ ?_)
  (case zq2F => k_asm)
  · intro hb
    have hv := hb3' hb
    subst hv
    k_steps
    exact IfPost.miss (t := t0) (ot := tup [.str (Str.ofString "cmap") tt0, .ref cm]) hb (by k_asm) (by k_asm) (by k_mem) (by k_mem) (by k_extra "MY sl") d2 ne0
  · intro hb
    obtain ⟨vx, vt, hv⟩ := hb3 hb
    subst hv
    k_steps
    exact IfPost.hit hb (by k_asm) (by k_asm) (by assumption) (by (first | k_extra "MY lo" | omega))
  intro oo3 t3 ot3 h3x tk3x F3x N3x d3 z3 ne3
  k_sweep
  have hoff4 : ∀ p ∈ (t3, ot3) :: (t2, ot2) :: (t1, ot1) :: (t0, tup [.str (Str.ofString "cmap") tt0, .ref cm]) :: rest, p.1 ≠ d := off_cons2 ne3 hoff3
  have hz4 : (putIf b3 (putIf b2 (putIf b1 (stored kvs (Str.ofString "cmap") (.ref t0)) (Str.ofString "GDEF") (.ref t1)) (Str.ofString "GSUB") (.ref t2)) (Str.ofString "GPOS") (.ref t3)).length ≤ 100 := Nat.le_trans (putIf_len (n := 53) (putIf_len (n := 52) (putIf_len (n := 51) (Nat.le_trans (stored_length_le kvs _ _) (Nat.succ_le_succ hkl))))) (Nat.le_of_ble_eq_true rfl)
  repeat' ((fail_if_success (with_reducible show wpAny _ _ (exec (Stmt.If _ _ _ _) _) _ _ _)); (first | (k_unfold; (try dsimp only)) | walk1 | (dsimp only; walk1) | fail "no step"))
  k_dflt (refine' if_merge (w := w) (Str.ofString "kern") (.ref kd) b4 (putIf b3 (putIf b2 (putIf b1 (stored kvs (Str.ofString "cmap") (.ref t0)) (Str.ofString "GDEF") (.ref t1)) (Str.ofString "GSUB") (.ref t2)) (Str.ofString "GPOS") (.ref t3)) d ((t3, ot3) :: (t2, ot2) :: (t1, ot1) :: (t0, tup [.str (Str.ofString "cmap") tt0, .ref cm]) :: rest) ?zq3F ?_ ?_ ?_)
  (case zq3F => k_asm)
  · intro hb
    have hv := hb4' hb
    k_steps
    exact IfPost.miss (t := t0) (ot := tup [.str (Str.ofString "cmap") tt0, .ref cm]) hb (by k_asm) (by k_asm) (by k_mem) (by k_mem) (by k_extra "MY sl") d3 ne0
  · intro hb
    have hv := hb4 hb
    k_steps
    exact IfPost.hit hb (by k_asm) (by k_asm) (by assumption) (by (first | k_extra "MY lo" | omega))
  intro oo4 t4 ot4 h4x tk4x F4x N4x d4 z4 ne4
  k_sweep
  k_steps
  rename_i kF kN Tc kX
  exact hret d oo4 t0 t1 t2 t3 t4 ot1 ot2 ot3 ot4 tt0 _ _ kF (news_sub kN (sub_cons (by k_mem) (sub_cons (by k_mem) (sub_cons (by k_mem) (sub_cons (by k_mem) (sub_cons (by k_mem) (sub_cons (by k_mem) (by k_extra "MY tl")))))))) d4 z1 z2 z3 z4 lod
example : True ∧ True := by w_top off; first | (walk1; done) | exact ⟨trivial, trivial⟩
example : True := by
  k_with_none
  k_with "eval Name" => (k_here; (with_reducible show wpAny _ _ (eval (Expr.Name _ _) (compEnvC _ _ _ _)) _ _ _); k_dflt (first | (name_kind "local"; refine' LCgL.ld_own ?zN ?zm ?zC ?zx ?_ ?zk ?zl ?zd; (case zk => kernel_rfl); (case zl => kernel_rfl); (case zd => kernel_rfl); (case zN => k_asm); (case zm => k_mem); (case zC => assumption); (case zx => assumption); k_whole) | (name_kind "globalImplicit"; first | (refine' LCgL.ld_global ?zF ?zX ?zT ?ze ?_ ?zg ?zk ?zl ?zd; (case zg => kernel_rfl); (case zk => kernel_rfl); (case zl => kernel_rfl); (case zd => kernel_rfl); (case zF => k_asm); (case zX => k_asm); (case zT => k_asm); (case ze => k_is); k_whole) | (refine' LCgL.ld_built ?zF ?zX ?zT ?ze ?zv ?zn ?_ ?zg ?zb ?zk ?zl ?zd; (case zg => kernel_rfl); (case zb => kernel_rfl); (case zk => kernel_rfl); (case zl => kernel_rfl); (case zd => kernel_rfl); (case zF => k_asm); (case zX => k_asm); (case zT => k_asm); (case ze => k_is); (case zv => boot_fast); (case zn => decide); k_whole))))
  k_with "eval Name" => (k_here; (fail_if_success (with_reducible show wpAny _ _ (eval (Expr.Name _ _) (compEnvC _ _ _ _)) _ _ _)); k_dflt (first | (name_kind "local"; refine' nameX_L ?zF ?zv ?_ ?za ?zb ?zc; (case zF => k_asm); (case za => kernel_rfl); (case zb => kernel_rfl); (case zc => kernel_rfl); (case zv => rfl); k_whole) | (name_kind "cell"; refine' nameX_C ?zN ?zl ?zm ?zd ?_ ?za ?zb ?zc; (case za => kernel_rfl); (case zb => kernel_rfl); (case zc => kernel_rfl); (case zN => k_asm); (case zl => rfl); (case zm => k_mem); (case zd => k_asm); k_whole) | (name_kind "globalImplicit"; first | (refine' nameX_K ?zF ?zX ?zT ?ze ?_ ?za ?zb ?zc; (case za => kernel_rfl); (case zb => kernel_rfl); (case zc => kernel_rfl); (case zF => k_asm); (case zX => k_asm); (case zT => k_asm); (case ze => k_is); k_whole) | (refine' nameX_B ?zF ?zX ?zT ?ze ?zv ?zn ?_ ?za ?zb ?zc; (case za => kernel_rfl); (case zb => kernel_rfl); (case zc => kernel_rfl); (case zF => k_asm); (case zX => k_asm); (case zT => k_asm); (case ze => k_is); (case zv => boot_fast); (case zn => decide); k_whole))))
  k_with "ite" => (k_closed; first | (with_reducible refine ite_pos ?zi ?_; (case zi => decide +kernel)) | (with_reducible refine ite_neg ?zi ?_; (case zi => decide +kernel)))
  k_with "getAttr ref" => (k_here; k_dflt (refine' get_own ?zF ?zX ?zI ?zg ?zh ?za ?zn ?zl ?zv ?_; (case zF => k_asm); (case zX => k_asm); (case zI => k_inst); (case zl => k_get); (case zg => k_is); (case zh => k_is); (case za => k_is); (case zn => k_is); (case zv => k_handed); k_whole))
  k_with "spliced" => ((with_reducible show wpAny _ _ (spliced (backTo _ (starEach (_ :: _) _))) _ _ _); k_dflt (refine args_cons ?_))
  k_with "newList" => (k_here; k_dflt (refine' newList_K ?zF ?zN ?_ ?zs; (case zF => k_asm); (case zN => k_asm); (case zs => exact Nat.le_of_ble_eq_true rfl); k_whole); k_extra "M46a0")
  k_with "MY ltp" => ((with_reducible rename @LT.lt Nat _ _ _ ∧ _ => kL); first | (with_reducible first | exact kL.1 | exact kL.2 | exact kL.2.1 | exact kL.2.2 | exact kL.2.2.1 | exact kL.2.2.2 | exact kL.2.2.2.1 | exact kL.2.2.2.2 | exact kL.2.2.2.2.1 | exact kL.2.2.2.2.2 | exact kL.2.2.2.2.2.1 | exact kL.2.2.2.2.2.2 | exact kL.2.2.2.2.2.2.1 | exact kL.2.2.2.2.2.2.2 | exact kL.2.2.2.2.2.2.2.1 | exact kL.2.2.2.2.2.2.2.2 | exact kL.2.2.2.2.2.2.2.2.1 | exact kL.2.2.2.2.2.2.2.2.2 | exact kL.2.2.2.2.2.2.2.2.2.1 | exact kL.2.2.2.2.2.2.2.2.2.2 | exact kL.2.2.2.2.2.2.2.2.2.2.1 | exact kL.2.2.2.2.2.2.2.2.2.2.2 | exact kL.2.2.2.2.2.2.2.2.2.2.2.1 | exact kL.2.2.2.2.2.2.2.2.2.2.2.2 | exact kL.2.2.2.2.2.2.2.2.2.2.2.2.1 | exact kL.2.2.2.2.2.2.2.2.2.2.2.2.2 | exact kL.2.2.2.2.2.2.2.2.2.2.2.2.2.1 | exact kL.2.2.2.2.2.2.2.2.2.2.2.2.2.2 | exact kL.2.2.2.2.2.2.2.2.2.2.2.2.2.2.1 | exact kL.2.2.2.2.2.2.2.2.2.2.2.2.2.2.2 | exact kL.2.2.2.2.2.2.2.2.2.2.2.2.2.2.2.1 | exact kL.2.2.2.2.2.2.2.2.2.2.2.2.2.2.2.2 | exact kL.2.2.2.2.2.2.2.2.2.2.2.2.2.2.2.2.1 | exact kL.2.2.2.2.2.2.2.2.2.2.2.2.2.2.2.2.2 | exact kL.2.2.2.2.2.2.2.2.2.2.2.2.2.2.2.2.2.1 | exact kL.2.2.2.2.2.2.2.2.2.2.2.2.2.2.2.2.2.2 | exact kL.2.2.2.2.2.2.2.2.2.2.2.2.2.2.2.2.2.2.1 | exact kL.2.2.2.2.2.2.2.2.2.2.2.2.2.2.2.2.2.2.2 | exact kL.2.2.2.2.2.2.2.2.2.2.2.2.2.2.2.2.2.2.2.1 | exact kL.2.2.2.2.2.2.2.2.2.2.2.2.2.2.2.2.2.2.2.2 | exact kL.2.2.2.2.2.2.2.2.2.2.2.2.2.2.2.2.2.2.2.2.1 | exact kL.2.2.2.2.2.2.2.2.2.2.2.2.2.2.2.2.2.2.2.2.2 | exact kL.2.2.2.2.2.2.2.2.2.2.2.2.2.2.2.2.2.2.2.2.2.1 | exact kL.2.2.2.2.2.2.2.2.2.2.2.2.2.2.2.2.2.2.2.2.2.2 | exact kL.2.2.2.2.2.2.2.2.2.2.2.2.2.2.2.2.2.2.2.2.2.2.1 | exact kL.2.2.2.2.2.2.2.2.2.2.2.2.2.2.2.2.2.2.2.2.2.2.2) | (clear kL; k_extra "MY ltp"))
  k_with "MY ne" => first | (refine Nat.ne_of_gt ?_; k_extra "MY ltp") | (refine Nat.ne_of_lt ?_; k_extra "MY ltp")
  k_with "newTuple" => (k_here; k_dflt (refine' kup_newTuple ?zF ?zN ?_ ?zs; (case zF => k_asm); (case zN => k_asm); (case zs => kmk_size)); k_extra "M46a0")
  k_with "MY ltq" => first | with_reducible assumption | k_extra "MY ltp" | ((with_reducible refine' Nat.lt_trans ?_ ?klb); (case klb => with_reducible assumption); k_extra "MY ltq") | ((with_reducible refine' Nat.lt_trans ?kla ?_); (case kla => with_reducible assumption); k_extra "MY ltp") | ((with_reducible refine' Nat.lt_succ_of_lt ?_); first | with_reducible assumption | k_extra "MY ltp" | ((with_reducible refine' Nat.lt_succ_of_lt ?_); first | with_reducible assumption | k_extra "MY ltp")) | ((with_reducible refine' Mine.mem_allLt ?_ _ ?klm); (case klm => with_reducible assumption); first | with_reducible assumption | k_extra "MY ltp")
  k_with "MY lo" => first | ((with_reducible show @LT.lt Nat _ _ _); (try dsimp only); k_extra "MY ltq") | ((with_reducible show @Ne Nat _ _); (try dsimp only); first | with_reducible assumption | (refine Ne.symm ?_; with_reducible assumption) | (refine Nat.ne_of_gt ?_; k_extra "MY ltq") | (refine Nat.ne_of_lt ?_; k_extra "MY ltq")) | decide
  k_with "H mem" => first | exact List.Mem.head _ | (refine' List.Mem.tail _ ?_; k_extra "H mem") | ((fail_if_success refine' List.Mem.tail _ ?_); change (_ : Addr × Obj) ∈ (_ : List (Addr × Obj)); first | with_reducible assumption | (with_reducible refine' List.mem_append_left _ ?_; k_extra "H mem") | (with_reducible refine' List.mem_append_right _ ?_; k_extra "H mem"))
  k_with "H room" => ((try simp only [depth_under_make, depth_under_kw, depth_in1, depth_deeper, depth_caller]); (try dsimp only [ktrTop]); first | decide | ((try simp only [Nat.add_assoc, Nat.reduceAdd]); (with_reducible rename _ + _ < recursionLimit => kH); first | exact Mine.room_of kH rfl | exact Mine.room_at kH) | omega)
  k_with "H units" => ((try simp only [units_in1, units_deeper, Around.mark_units, units_caller]); (try dsimp only [ktrTop]); first | decide | ((try simp only [Nat.add_assoc, Nat.reduceAdd]); (with_reducible rename _ + _ < cLine => kH); first | exact Mine.room_of kH rfl | exact Mine.room_at kH) | omega)
  k_with "H ne" => (refine neN ?_; (try dsimp only); first | with_reducible assumption | (refine Ne.symm ?_; with_reducible assumption) | (with_reducible first | exact Nat.ne_of_lt (by assumption) | exact Nat.ne_of_gt (by assumption)) | k_extra "MY ne" | ((with_reducible rename (_ ≠ _ ∧ _ ≠ _ ∧ _ ≠ _) ∧ _ => kOff); first | (simp only [kOff, ne_eq, not_false_eq_true]; done) | (refine Ne.symm ?_; simp only [kOff, ne_eq, not_false_eq_true]; done)) | k_extra "MY lo" | omega)
  trivial
section
open PySem.Calls
section
section
variable {A : Around} {s : Shared}
inductive Par (A : Around) (s : Shared) : List (Str × Value) → List (Str × Value) → Prop
  | nil : Par A s [] []
  | cons {k : Str} {v y : Value} {a b : List (Str × Value)} (e : SeqAt.EqAt A s v y true) (r : Par A s a b) : Par A s ((k, v) :: a) ((k, y) :: b)
theorem Par.length {a b : List (Str × Value)} (h : Par A s a b) : a.length = b.length := by
  induction h with
  | nil => rfl
  | cons _ _ ih => simp [ih]
theorem Par.keys {a b : List (Str × Value)} (h : Par A s a b) : a.map (·.1) = b.map (·.1) := by
  induction h with
  | nil => rfl
  | cons _ _ ih => simp [ih]
theorem Par.snoc {a b : List (Str × Value)} (h : Par A s a b) {k : Str} {v y : Value} (e : SeqAt.EqAt A s v y true) : Par A s (a ++ [(k, v)]) (b ++ [(k, y)]) := by
  induction h with
  | nil => exact .cons e .nil
  | cons e' _ ih => exact .cons e' ih
theorem Par.map {a b : List (Str × Value)} (h : Par A s a b) {k : Str} {v y : Value} (e : SeqAt.EqAt A s v y true) : Par A s (a.map fun kv => if kv.1 = k then (kv.1, v) else kv) (b.map fun kv => if kv.1 = k then (kv.1, y) else kv) := by
  induction h with
  | nil => exact .nil
  | @cons k' v' y' a b e' r ih =>
    rw [List.map_cons, List.map_cons]
    by_cases hk : k' = k
    · simp only [hk, if_true]
      exact .cons e ih
    · simp only [hk, if_false]
      exact .cons e' ih
theorem Par.any {a b : List (Str × Value)} (h : Par A s a b) (k : Str) : (a.any fun kv => decide (kv.1 = k)) = b.any fun kv => decide (kv.1 = k) := by
  induction h with
  | nil => rfl
  | cons _ _ ih => rw [List.any_cons, List.any_cons, ih]
theorem Par.stored {a b : List (Str × Value)} (h : Par A s a b) {k : Str} {v y : Value} (e : SeqAt.EqAt A s v y true) : Par A s (stored a k v) (stored b k y) := by
  unfold PySem.stored
  rw [h.any k]
  split
  · exact h.map e
  · exact h.snoc e
theorem Par.putIf {a b : List (Str × Value)} (h : Par A s a b) {c : Bool} {k : Str} {v y : Value} (e : c = true → SeqAt.EqAt A s v y true) : Par A s (putIf c a k v) (putIf c b k y) := by
  unfold Mine.putIf
  cases c
  · exact h
  · exact h.stored (e rfl)
theorem Par.hits {a b kb : List (Str × Value)} (h : Par A s a b) (hv : ∀ q ∈ b, valueAt kb q.1 = some q.2) : KeqHits A s kb a true := by
  induction h with
  | nil => exact .nil
  | @cons k v y a b e r ih =>
    have := KeqHits.hit (hv (k, y) (.head _)) e (ih fun q hq => hv q (.tail _ hq))
    exact this
theorem Par.hits_all {a b : List (Str × Value)} (h : Par A s a b) (hn : (b.map (·.1)).Nodup) : KeqHits A s b a true := h.hits fun q hq => by
  obtain ⟨i, hi⟩ := List.mem_iff_getElem?.mp hq
  exact valueAt_of_get hn hi
end
section
variable {w : World} {A : Around} {E : Value → Shared → Prop} {s : Shared} {h₀ : Heap} {L a b : Addr} {news : List (Addr × Obj)} {oa ob : Obj} {ka kb : List (Str × Value)} {Q : Value → Shared → Prop}
theorem eq_par (N : News h₀ L s.heap news) (pa : (a, oa) ∈ news) (pb : (b, ob) ∈ news) (da : oa.IsDictOf (sK w) ka) (db : ob.IsDictOf (sK w) kb) (la : (a == sysModules) = false) (lb : (b == sysModules) = false) (hu : A.units < cLine) (hp : Par A.in1 s ka kb) (h : Q (.bool true) s) :
    wpAny (model PySem.Challenge.rw_nu0220_01.row.prog w) A (compareOp .Eq (.ref a) (.ref b)) Q E s :=
  keq_pairs N pa pb da db la lb hp.length hu (hp.hits_all (keysNodup_of_isDictOf db)) h
theorem tupEq {t t' : Addr} {ot ot' : Obj} {tag : Str} {p p' : Value} (N : News h₀ L s.heap news) (m : (t, ot) ∈ news) (m' : (t', ot') ∈ news) (hu : A.units < cLine) (e : ∃ tt, ot = tup [.str tag tt, p]) (e' : ∃ tt, ot' = tup [.str tag tt, p']) (ep : SeqAt.EqAt A.in1 s p p' true) : SeqAt.EqAt A s (.ref t) (.ref t') true := by
  obtain ⟨tt, rfl⟩ := e
  obtain ⟨tt', rfl⟩ := e'
  by_cases h : t = t'
  · subst h; exact SeqAt.EqAt.same _
  · refine SeqAt.EqAt.of_refs h (eqAt_tup N m m' hu rfl fun j h1 h2 => ?_)
    match j, h1, h2 with
    | 0, _, _ => have := SeqAt.EqAt.str_str (A := A.in1) (s := s) tag tt tag tt'; rw [beq_self_eq_true] at this; exact this
    | 1, _, _ => exact ep
    | _ + 2, h, _ => exact absurd h (by simp)
theorem str_same {x : Str} {t t' : Tok} : SeqAt.EqAt A s (.str x t) (.str x t') true := by
  have := SeqAt.EqAt.str_str (A := A) (s := s) x t x t'; rw [beq_self_eq_true] at this; exact this
end
-- a turn of the loop that stores in the dict of what is due
section
variable {w : World} {A : Around} {E : Value → Shared → Prop} {s : Shared} {h₀ : Heap} {L d x : Addr} {m : Str → Option Value} {tl tl0 all : List (Addr × Obj)} {p1 p2 : Addr × Obj} {o : Obj} {kvs : List (Str × Value)} {tag : Str} {part : Value} {b : Bool} {M : Model}
def IfPostX (w : World) (h₀ : Heap) (L : Addr) (m : Str → Option Value) (d x : Addr) (tl : List (Addr × Obj)) (b : Bool) (kvs : List (Str × Value)) (tag : Str) (part : Value) (s : Shared) (fl : Flow) (s' : Shared) : Prop :=
  ∃ o' t ot h' tk', fl = .next ∧ s' = { s with heap := h', toks := tk' } ∧ Fr h₀ L h' m ∧ News h₀ L h' ((d, o') :: (t, ot) :: tl) ∧ o'.IsDictOf (sK w) (putIf b kvs tag (.ref t)) ∧ (b = true → ∃ tt, ot = tup [.str tag tt, part]) ∧ @Ne Nat t d ∧ @Ne Nat t x
theorem sl_b0 {α : Type} {p1 p2 d : α} {l : List α} : ∀ p ∈ p1 :: p2 :: l, p ∈ p1 :: p2 :: d :: l := sub_cons (.head _) (sub_cons (.tail _ (.head _)) fun _ h => .tail _ (.tail _ (.tail _ h)))
theorem sl_c0 {α : Type} {p1 d : α} {l : List α} : ∀ p ∈ p1 :: l, p ∈ p1 :: d :: l := sub_cons (.head _) fun _ h => .tail _ (.tail _ h)
theorem sl_b {α : Type} {x p1 p2 d : α} {l : List α} : ∀ p ∈ p1 :: p2 :: l, p ∈ x :: p1 :: p2 :: d :: l := fun p h => .tail _ (sl_b0 p h)
theorem sl_c {α : Type} {x p1 d : α} {l : List α} : ∀ p ∈ p1 :: l, p ∈ x :: p1 :: d :: l := fun p h => .tail _ (sl_c0 p h)
theorem off_lt {I : Addr} {l : List (Addr × Obj)} (h : AllLt I l) : ∀ a ∈ l.map (·.1), a ≠ I := fun a ha => by
  obtain ⟨p, hp, rfl⟩ := List.mem_map.mp ha
  exact Nat.ne_of_lt (mem_allLt h p hp)
theorem off_p (h : ∀ a ∈ tl.map (·.1), a ≠ d) : ∀ p ∈ tl, p.1 ≠ d := fun p hp => h _ (List.mem_map_of_mem hp)
theorem if_merge_a {xx : Sem Flow} {Q : Flow → Shared → Prop} (tag : Str) (part : Value) (b : Bool) (kvs : List (Str × Value)) (x : Addr) (_F : Fr h₀ L s.heap m) (_N : News h₀ L s.heap ((d, o) :: tl)) (hoff : ∀ a ∈ tl.map (·.1), a ≠ d) (h1 : b = true → (∀ p ∈ tl, p.1 ≠ d) → wpAny M A xx (IfPostX w h₀ L m d x tl b kvs tag part s) E s) (h0 : b = false → wpAny M A xx (IfPostX w h₀ L m d x tl b kvs tag part s) E s)
    (h2 : ∀ o' t ot h' tk', Fr h₀ L h' m → News h₀ L h' ((d, o') :: (t, ot) :: tl) → o'.IsDictOf (sK w) (putIf b kvs tag (.ref t)) → (b = true → ∃ tt, ot = tup [.str tag tt, part]) → @Ne Nat t d → @Ne Nat t x → (∀ a ∈ ((t, ot) :: tl).map (·.1), a ≠ d) → Q .next { s with heap := h', toks := tk' }) : wpAny M A xx Q E s := by
  refine wpAny_mono (Q := IfPostX w h₀ L m d x tl b kvs tag part s) ?_ (fun fl s' ⟨o', t, ot, h', tk', e1, e2, f, n, i, z, ne, nx⟩ => by subst e1 e2; exact h2 o' t ot h' tk' f n i z ne nx (fun a ha => by
    rcases List.mem_cons.mp ha with rfl | ha
    · exact ne
    · exact hoff a ha)) fun _ _ x => x
  cases b
  · exact h0 rfl
  · exact h1 rfl (off_p hoff)
theorem if_merge_b {xx : Sem Flow} {Q : Flow → Shared → Prop} (tag : Str) (part : Value) (b : Bool) (kvs : List (Str × Value)) (x : Addr) (_F : Fr h₀ L s.heap m) (_N : News h₀ L s.heap (p1 :: p2 :: (d, o) :: tl0)) (hoff : ∀ a ∈ (p1 :: p2 :: tl0).map (·.1), a ≠ d) (h1 : b = true → (∀ p ∈ p1 :: p2 :: tl0, p.1 ≠ d) → wpAny M A xx (IfPostX w h₀ L m d x (p1 :: p2 :: tl0) b kvs tag part s) E s) (h0 : b = false → wpAny M A xx (IfPostX w h₀ L m d x (p1 :: p2 :: tl0) b kvs tag part s) E s)
    (h2 : ∀ o' t ot h' tk', Fr h₀ L h' m → News h₀ L h' ((d, o') :: (t, ot) :: p1 :: p2 :: tl0) → o'.IsDictOf (sK w) (putIf b kvs tag (.ref t)) → (b = true → ∃ tt, ot = tup [.str tag tt, part]) → @Ne Nat t d → @Ne Nat t x → (∀ a ∈ ((t, ot) :: p1 :: p2 :: tl0).map (·.1), a ≠ d) → Q .next { s with heap := h', toks := tk' }) : wpAny M A xx Q E s := by
  refine if_merge_a (tl := p1 :: p2 :: tl0) (d := d) (o := o) tag part b kvs x _F (news_sub _N ?_) hoff h1 h0 h2
  exact sub_cons (.tail _ (.tail _ (.head _))) (sub_cons (.head _) (sub_cons (.tail _ (.head _)) fun p hp => .tail _ (.tail _ (.tail _ hp))))
theorem if_merge_c {xx : Sem Flow} {Q : Flow → Shared → Prop} (tag : Str) (part : Value) (b : Bool) (kvs : List (Str × Value)) (x : Addr) (_F : Fr h₀ L s.heap m) (_N : News h₀ L s.heap (p1 :: (d, o) :: tl0)) (hoff : ∀ a ∈ (p1 :: tl0).map (·.1), a ≠ d) (h1 : b = true → (∀ p ∈ p1 :: tl0, p.1 ≠ d) → wpAny M A xx (IfPostX w h₀ L m d x (p1 :: tl0) b kvs tag part s) E s) (h0 : b = false → wpAny M A xx (IfPostX w h₀ L m d x (p1 :: tl0) b kvs tag part s) E s)
    (h2 : ∀ o' t ot h' tk', Fr h₀ L h' m → News h₀ L h' ((d, o') :: (t, ot) :: p1 :: tl0) → o'.IsDictOf (sK w) (putIf b kvs tag (.ref t)) → (b = true → ∃ tt, ot = tup [.str tag tt, part]) → @Ne Nat t d → @Ne Nat t x → (∀ a ∈ ((t, ot) :: p1 :: tl0).map (·.1), a ≠ d) → Q .next { s with heap := h', toks := tk' }) : wpAny M A xx Q E s := by
  refine if_merge_a (tl := p1 :: tl0) (d := d) (o := o) tag part b kvs x _F (news_sub _N ?_) hoff h1 h0 h2
  exact sub_cons (.tail _ (.head _)) (sub_cons (.head _) fun p hp => .tail _ (.tail _ hp))
theorem off_swap {t i : Addr} {ot io : Obj} (h : ∀ a ∈ ((t, ot) :: (i, io) :: tl).map (·.1), a ≠ d) {io' : Obj} : ∀ a ∈ ((i, io') :: (t, ot) :: tl).map (·.1), a ≠ d := fun a ha => by
  rcases List.mem_cons.mp ha with rfl | ha
  · exact h _ (.tail _ (.head _))
  rcases List.mem_cons.mp ha with rfl | ha
  · exact h _ (.head _)
  · exact h _ (.tail _ (.tail _ ha))
theorem ue {p2 : Addr × Obj} {I : Addr} {it io : Obj} {rest : (Str → Option Value) → List (Addr × Obj) → Prop} {s₁ : Shared} {h' : Heap} {tk : Nat} {m' : Str → Option Value} (F : Fr h₀ L h' m') (N : News h₀ L h' (p1 :: p2 :: (I, io) :: tl)) (hio : io = it) (ha : @Ne Nat p1.1 I) (hb : @Ne Nat p2.1 I) (hI : ∀ a ∈ tl.map (·.1), a ≠ I) (r : (∀ a ∈ (p2 :: tl).map (·.1), a ≠ I) → rest m' (p1 :: p2 :: tl)) : UnrEnd h₀ L s₁ I it rest { s₁ with heap := h', toks := tk } := by
  subst hio
  refine UnrEnd.intro F N (p1 :: p2 :: tl) ?_ ?_ (r ?_)
  · exact sub_cons (.tail _ (.tail _ (.head _))) (sub_cons (.head _) (sub_cons (.tail _ (.head _)) fun p hp => .tail _ (.tail _ (.tail _ hp))))
  · intro p hp
    rcases List.mem_cons.mp hp with rfl | hp
    · exact ha
    rcases List.mem_cons.mp hp with rfl | hp
    · exact hb
    · exact hI _ (List.mem_map_of_mem hp)
  · intro a ha
    rcases List.mem_cons.mp ha with rfl | ha
    · exact hb
    · exact hI a ha
theorem tag_lit {prog : Program} {K : Frag} {value slice : PySem.Expr} {a : Addr} {o : Obj} {its : Array Value} {nn : Nat} {k : Int} {u : Tok} {v : Value} {Q : Value → Shared → Prop} (X : K.In h₀) (F : Fr h₀ L s.heap m) (e : K.lookup a = some o) (hc : o.cls = .type "tuple") (hd : o.data = .seq its nn)
    (h0 : 0 ≤ k) (h1 : k < its.size) (hz : its.size < 100) (hv : its[k.toNat]? = some v) (h : Q v s)
    (hs : subscripted slice false (.ref a) (.int k u) = operate [.ref a, .int k u] (getItem (.ref a) (.int k u))) (hg : ∀ r, letTemporaryGo value (.ref a) r = pure ()) :
    wpAny (model prog w) A (subscriptTail value slice (.ref a) (.int k u)) Q E s :=
  item_tuple (j := k.toNat) ⟨o, F.keep _ _ (X _ _ e), hc, nn, hd⟩ (by (first | k_extra "MY lo" | omega)) (by (first | k_extra "MY lo" | omega)) (seqIndex_of h0 h1) hv h hs hg
theorem lst_lit {prog : Program} {value slice : PySem.Expr} {l : Addr} {its : Array Value} {nn : Nat} {k : Int} {u : Tok} {v : Value} {Q : Value → Shared → Prop} (N : News h₀ L s.heap all) (hm : (l, PySem.W.listOf its nn) ∈ all) (h0 : 0 ≤ k) (h1 : k < 2 ^ 63) (hv : its[k.toNat]? = some v) (h : Q v s)
    (hs : subscripted slice false (.ref l) (.int k u) = operate [.ref l, .int k u] (getItem (.ref l) (.int k u))) :
    wpAny (model prog w) A (subscriptTail value slice (.ref l) (.int k u)) Q E s :=
  tail_any (N.isList hm).typeIs slot_list_getitem.lookup (wpAny_getItem_list (N.isList hm) h0 h1 hv h) hs
theorem IfPostX.miss {t : Addr} {ot : Obj} {h' : Heap} {tk' : Nat} (hb : b = false) (F : Fr h₀ L h' m) (N : News h₀ L h' all) (hm : (d, o) ∈ all) (ht : (t, ot) ∈ all) (hs : ∀ p ∈ tl, p ∈ all) (hd : o.IsDictOf (sK w) kvs) (hne : @Ne Nat t d) (hnx : @Ne Nat t x) : IfPostX w h₀ L m d x tl b kvs tag part s .next { s with heap := h', toks := tk' } :=
  ⟨o, t, ot, h', tk', rfl, rfl, F, news_sub N (sub_cons hm (sub_cons ht hs)), by rw [hb]; exact hd, fun h => by rw [hb] at h; (cases h), hne, hnx⟩
theorem IfPostX.hit {t : Addr} {tt : Tok} {h' : Heap} {tk' : Nat} (hb : b = true) (F : Fr h₀ L h' m) (N : News h₀ L h' ((d, o) :: (t, tup [.str tag tt, part]) :: tl)) (hd : o.IsDictOf (sK w) (stored kvs tag (.ref t))) (hne : @Ne Nat t d) (hnx : @Ne Nat t x) : IfPostX w h₀ L m d x tl b kvs tag part s .next { s with heap := h', toks := tk' } :=
  ⟨o, t, _, h', tk', rfl, rfl, F, N, by rw [hb]; exact hd, fun _ => ⟨tt, rfl⟩, hne, hnx⟩
end
end
end
section
open PySem.Calls Builtin
section
section
variable {prog : Program} {w : World} {A : Around} {E : Value → Shared → Prop} {s : Shared} {h₀ : Heap} {L d : Addr} {m : Str → Option Value} {news tl all : List (Addr × Obj)} {o : Obj}
theorem empty_esM {K : Type} [DecidableEq K] {knd : KeyKind prog w K} {o : Obj} (h : o.IsDictOf knd []) : ∃ es ep, o.ExactDict ∧ o.data = .dict es ep ∧ es.toList = [] := by
  obtain ⟨es, ep, hc, hdat, _, hp, _⟩ := h
  exact ⟨es, ep, hc, hdat, List.length_eq_zero_iff.mp hp.length⟩
theorem tk_step {xs : List (List Int × Addr × Value)} {a : Addr} {ok : Obj} {ks : List Int} {v : Value} {es : Array DictEntry} {ep : Nat} {Q : Unit → Shared → Prop} (hu : A.units < cLine) (F : Fr h₀ L s.heap m) (N : News h₀ L s.heap ((d, o) :: tl)) (hoff : ∀ p ∈ tl, p.1 ≠ d) (hc : o.ExactDict) (hd : o.data = .dict es ep) (he : es.toList = xs.map (entryOfKey (tupleKind (intKind prog w)))) (hn : (xs.map (·.1)).Nodup)
    (hx : ∀ x ∈ xs, ∃ ok, (x.2.1, ok) ∈ tl ∧ TupKeyObj (intKind prog w) x.1 ok) (hz : xs.length ≤ 5) (ma : (a, ok) ∈ tl) (tk : TupKeyObj (intKind prog w) ks ok)
    (h : ∀ h' o' es' ep' tk', Fr h₀ L h' m → News h₀ L h' ((d, o') :: tl) → o'.ExactDict → o'.data = .dict es' ep' → es'.toList = (storedH xs ks a v).map (entryOfKey (tupleKind (intKind prog w))) → ((storedH xs ks a v).map (·.1)).Nodup → Q () { s with heap := h', toks := tk' }) :
    wpAny (model prog w) A (dictSet d (.ref a) v) Q E s := by
  have hD : s.heap.DictOfH (tupleKind (intKind prog w)) d xs := ⟨o, es, ep, N.get (.head _), hc, hd, he, fun x hx' => let ⟨_, hmk, t⟩ := hx x hx'; t.key (N.get (.tail _ hmk)), hn⟩
  refine wpAny_dictSet_heap (hsz := Nat.le_trans hz (Nat.le_of_ble_eq_true rfl)) (knd := tupleKind (intKind prog w)) hu (tk.key (N.get (.tail _ ma))) hD fun h' hm' hs => ?_
  obtain ⟨o', es', ep', ho', hc', hd', he', _, hn'⟩ := hm'
  refine h h' o' es' ep' _ (F.change hs (N _ (.head _)).2.1 (N.fresh (.head _))) (fun p hp => ?_) hc' hd' he' hn'
  rcases List.mem_cons.mp hp with rfl | hp
  · exact ⟨ho', (N _ (.head _)).2⟩
  · exact ⟨hs.extBut p.1 _ (hoff p hp) (N p (.tail _ hp)).1, (N p (.tail _ hp)).2⟩
def KernAt (w : World) (d a1 a2 : Addr) (news : List (Addr × Obj)) : Prop := (d == sysModules) = false ∧ ∃ (ko : Obj) (es : Array DictEntry) (ep : Nat) (x1 x2 y1 y2 z1 z2 : Tok), (d, ko) ∈ news ∧ ko.ExactDict ∧ ko.data = .dict es ep ∧ es.toList = [entryOfKey (tupleKind (intKind PySem.Challenge.rw_nu0220_01.row.prog w)) ([2, 1], a1, .int 3 z1), entryOfKey (tupleKind (intKind PySem.Challenge.rw_nu0220_01.row.prog w)) ([1, 5], a2, .int 4 z2)] ∧ (a1, tup [.int 2 x1, .int 1 x2]) ∈ news ∧ (a2, tup [.int 1 y1, .int 5 y2]) ∈ news
theorem KernAt.mono {a1 a2 : Addr} (h : KernAt w d a1 a2 news) (hs : ∀ p ∈ news, p ∈ all) : KernAt w d a1 a2 all := by
  obtain ⟨lo, ko, es, ep, x1, x2, y1, y2, z1, z2, m1, c, dt, e, m2, m3⟩ := h
  exact ⟨lo, ko, es, ep, x1, x2, y1, y2, z1, z2, hs _ m1, c, dt, e, hs _ m2, hs _ m3⟩
theorem key_ints {a b : Int} {t u : Tok} : TupKeyObj (intKind prog w) [a, b] (tup [.int a t, .int b u]) := TupKeyObj.made (.cons (intKind_is _ _ _ _) (.cons (intKind_is _ _ _ _) .nil))
theorem kern_set {a1 a2 : Addr} {x1 x2 y1 y2 z1 z2 : Tok} {Q : Value → Shared → Prop} (hu : A.units < cLine) (F : Fr h₀ L s.heap m) (N : News h₀ L s.heap all) (hm : (d, o) ∈ all) (lo : (d == sysModules) = false) (hd : o.IsDictOf (intKind PySem.Challenge.rw_nu0220_01.row.prog w) []) (hs : ∀ p ∈ tl, p ∈ all) (hoff : ∀ p ∈ tl, p.1 ≠ d)
    (m1 : (a1, tup [.int 2 x1, .int 1 x2]) ∈ tl) (m2 : (a2, tup [.int 1 y1, .int 5 y2]) ∈ tl)
    (h : ∀ h' ko tk, Fr h₀ L h' m → News h₀ L h' ((d, ko) :: tl) → KernAt w d a1 a2 [(d, ko), (a1, tup [.int 2 x1, .int 1 x2]), (a2, tup [.int 1 y1, .int 5 y2])] → Q (.ref d) { s with heap := h', toks := tk }) :
    TupStores PySem.Challenge.rw_nu0220_01.row.prog w A E d Q [(.ref a1, .int 3 z1), (.ref a2, .int 4 z2)] s := by
  obtain ⟨es0, ep0, c0, d0, n0⟩ := empty_esM hd
  unfold TupStores storeAll
  rw [List.forIn_cons]
  refine wpAny_bind (wpAny_bind (tk_step (xs := []) (ks := [2, 1]) hu F (news_sub N (sub_cons hm hs)) hoff c0 d0 (by rw [n0]; rfl) List.nodup_nil (fun _ hx => by cases hx) (Nat.zero_le _) m1 key_ints fun h1 o1 es1 ep1 tk1 F1 N1 c1 d1 e1 n1 => wpAny_pure ?_))
  dsimp only
  rw [List.forIn_cons]
  have hx1 : ∀ x ∈ storedH [] [2, 1] a1 (Value.int 3 z1), ∃ ok, (x.2.1, ok) ∈ tl ∧ TupKeyObj (intKind PySem.Challenge.rw_nu0220_01.row.prog w) x.1 ok := fun x hx => by
    rcases List.mem_singleton.mp hx with rfl
    exact ⟨_, m1, key_ints⟩
  refine wpAny_bind (wpAny_bind (tk_step (ks := [1, 5]) hu F1 N1 hoff c1 d1 e1 n1 hx1 (Nat.le_of_ble_eq_true rfl) m2 key_ints fun h2 o2 es2 ep2 tk2 F2 N2 c2 d2 e2 n2 => wpAny_pure ?_))
  dsimp only
  rw [List.forIn_nil]
  exact wpAny_pure (h h2 o2 tk2 F2 N2 ⟨lo, o2, es2, ep2, _, _, _, _, _, _, .head _, c2, d2, e2, .tail _ (.head _), .tail _ (.tail _ (.head _))⟩)
theorem kern_tab {a1 a2 : Addr} (K : KernAt w d a1 a2 news) : TupTab (intKind PySem.Challenge.rw_nu0220_01.row.prog w) PyData.int news d [(encTuple PyData.int [2, 1], .int 3), (encTuple PyData.int [1, 5], .int 4)] := by
  obtain ⟨lo, ko, es, ep, x1, x2, y1, y2, z1, z2, m1, c, dt, e, m2, m3⟩ := K
  refine ⟨lo, ko, es, ep, [([2, 1], a1, .int 3 z1), ([1, 5], a2, .int 4 z2)], m1, c, dt, e, (show ([[2, 1], [1, 5]] : List (List Int)).Nodup by decide), fun x hx => ?_, .cons (Flat.int _ _) (.cons (Flat.int _ _) .nil)⟩
  rcases List.mem_cons.mp hx with rfl | hx
  · exact ⟨_, m2, key_ints⟩
  rcases List.mem_singleton.mp hx with rfl
  exact ⟨_, m3, key_ints⟩
theorem kern_item {value slice : PySem.Expr} {a a1 a2 : Addr} {k1 k2 : Int} {t u : Tok} {e : Int} {Q : Value → Shared → Prop} (hu : A.units + 1 < cLine) (N : News h₀ L s.heap news) (K : KernAt w d a1 a2 news) (ma : (a, tup [.int k1 t, .int k2 u]) ∈ news) (hl : lookup (encTuple PyData.int [k1, k2]) [(encTuple PyData.int [2, 1], .int 3), (encTuple PyData.int [1, 5], .int 4)] = some (.int e))
    (h : ∀ t tk, Q (.int e t) { s with toks := tk })
    (hs : subscripted slice false (.ref d) (.ref a) = operate [.ref d, .ref a] (getItem (.ref d) (.ref a))) (hg : ∀ r, letTemporaryGo value (.ref d) r = pure ()) :
    wpAny (model PySem.Challenge.rw_nu0220_01.row.prog w) A (subscriptTail value slice (.ref d) (.ref a)) Q E s := by
  refine item_tupTab PyProof.V.same_int hu N (kern_tab K) ma key_ints hl (fun v hv => ?_) hs hg
  obtain ⟨t, rfl⟩ := PyProof.V.Flat.int_inv hv
  exact h t _
theorem kern_keys {a1 a2 : Addr} (K : KernAt w d a1 a2 news) : ∃ (ko : Obj) (es : Array DictEntry) (ep : Nat) (x1 x2 y1 y2 : Tok), (d == sysModules) = false ∧ (d, ko) ∈ news ∧ ko.ExactDict ∧ ko.data = .dict es ep ∧ es.size = 2 ∧ es[0]?.map (·.key) = some (.ref a1) ∧ es[1]?.map (·.key) = some (.ref a2) ∧ (a1, tup [.int 2 x1, .int 1 x2]) ∈ news ∧ (a2, tup [.int 1 y1, .int 5 y2]) ∈ news := by
  obtain ⟨lo, ko, es, ep, x1, x2, y1, y2, z1, z2, m1, c, dt, e, m2, m3⟩ := K
  refine ⟨ko, es, ep, x1, x2, y1, y2, lo, m1, c, dt, by rw [← Array.length_toList, e]; rfl, ?_, ?_, m2, m3⟩
  · rw [← Array.getElem?_toList, e]; rfl
  · rw [← Array.getElem?_toList, e]; rfl
theorem kern_sorted {a1 a2 : Addr} {Q : Value → Shared → Prop} (hh : A.handled = none) (F : Fr h₀ L s.heap m) (N : News h₀ L s.heap news) (K : KernAt w d a1 a2 all) (hs : ∀ p ∈ all, p ∈ news)
    (h : ∀ D h' tk x1 x2 y1 y2, (a1, tup [.int 2 x1, .int 1 x2]) ∈ all → (a2, tup [.int 1 y1, .int 5 y2]) ∈ all → Fr h₀ L h' m → News h₀ L h' ((D, listOf #[.ref a1, .ref a2] 0) :: news) → (∀ q ∈ news, q.1 < D) →
      wpAny (model PySem.Challenge.rw_nu0220_01.row.prog w) A.in1 (call (.builtin "list.sort") [.ref D]) (fun _ s' => Q (.ref D) s') E { s with heap := h', toks := tk }) :
    wpAny (model PySem.Challenge.rw_nu0220_01.row.prog w) A (call (.builtin "sorted") [.ref d]) Q E s := by
  obtain ⟨ko, es, ep, x1, x2, y1, y2, lo, m1, c, dt, hz, e1, e2, m2, m3⟩ := kern_keys K
  have hat : EsAt s.heap d es ep := ⟨ko, N.get (hs _ m1), c, dt⟩
  refine kdu_sorted (es_src lo) hh F N hat (by rw [hz]; exact Nat.le_of_ble_eq_true rfl) fun D h' tk vs F' N' l1 hl hv => ?_
  have hvs : vs = [.ref a1, .ref a2] := by
    rw [hz] at hl
    match vs, hl, hv with
    | [u, v], _, hv =>
      have h0 := hv 0 u rfl
      have h1 := hv 1 v rfl
      rw [e1] at h0
      rw [e2] at h1
      injection h0 with h0
      injection h1 with h1
      rw [h0, h1]
  subst hvs
  exact h D h' tk x1 x2 y1 y2 m2 m3 F' N' l1
end
end
end
example : True ∧ True := by w_top off; first | (walk1; done) | exact ⟨trivial, trivial⟩
example : True := by
  k_with_none
  k_with "eval Name" => (k_here; (with_reducible show wpAny _ _ (eval (Expr.Name _ _) (compEnvC _ _ _ _)) _ _ _); k_dflt (first | (name_kind "local"; refine' LCgL.ld_own ?zN ?zm ?zC ?zx ?_ ?zk ?zl ?zd; (case zk => kernel_rfl); (case zl => kernel_rfl); (case zd => kernel_rfl); (case zN => k_asm); (case zm => k_mem); (case zC => assumption); (case zx => assumption); k_whole) | (name_kind "globalImplicit"; first | (refine' LCgL.ld_global ?zF ?zX ?zT ?ze ?_ ?zg ?zk ?zl ?zd; (case zg => kernel_rfl); (case zk => kernel_rfl); (case zl => kernel_rfl); (case zd => kernel_rfl); (case zF => k_asm); (case zX => k_asm); (case zT => k_asm); (case ze => k_is); k_whole) | (refine' LCgL.ld_built ?zF ?zX ?zT ?ze ?zv ?zn ?_ ?zg ?zb ?zk ?zl ?zd; (case zg => kernel_rfl); (case zb => kernel_rfl); (case zk => kernel_rfl); (case zl => kernel_rfl); (case zd => kernel_rfl); (case zF => k_asm); (case zX => k_asm); (case zT => k_asm); (case ze => k_is); (case zv => boot_fast); (case zn => decide); k_whole))))
  k_with "eval Name" => (k_here; (fail_if_success (with_reducible show wpAny _ _ (eval (Expr.Name _ _) (compEnvC _ _ _ _)) _ _ _)); k_dflt (first | (name_kind "local"; refine' nameX_L ?zF ?zv ?_ ?za ?zb ?zc; (case zF => k_asm); (case za => kernel_rfl); (case zb => kernel_rfl); (case zc => kernel_rfl); (case zv => rfl); k_whole) | (name_kind "cell"; refine' nameX_C ?zN ?zl ?zm ?zd ?_ ?za ?zb ?zc; (case za => kernel_rfl); (case zb => kernel_rfl); (case zc => kernel_rfl); (case zN => k_asm); (case zl => rfl); (case zm => k_mem); (case zd => k_asm); k_whole) | (name_kind "globalImplicit"; first | (refine' nameX_K ?zF ?zX ?zT ?ze ?_ ?za ?zb ?zc; (case za => kernel_rfl); (case zb => kernel_rfl); (case zc => kernel_rfl); (case zF => k_asm); (case zX => k_asm); (case zT => k_asm); (case ze => k_is); k_whole) | (refine' nameX_B ?zF ?zX ?zT ?ze ?zv ?zn ?_ ?za ?zb ?zc; (case za => kernel_rfl); (case zb => kernel_rfl); (case zc => kernel_rfl); (case zF => k_asm); (case zX => k_asm); (case zT => k_asm); (case ze => k_is); (case zv => boot_fast); (case zn => decide); k_whole))))
  k_with "ite" => (k_closed; first | (with_reducible refine ite_pos ?zi ?_; (case zi => decide +kernel)) | (with_reducible refine ite_neg ?zi ?_; (case zi => decide +kernel)))
  k_with "getAttr ref" => (k_here; k_dflt (refine' get_own ?zF ?zX ?zI ?zg ?zh ?za ?zn ?zl ?zv ?_; (case zF => k_asm); (case zX => k_asm); (case zI => k_inst); (case zl => k_get); (case zg => k_is); (case zh => k_is); (case za => k_is); (case zn => k_is); (case zv => k_handed); k_whole))
  k_with "spliced" => ((with_reducible show wpAny _ _ (spliced (backTo _ (starEach (_ :: _) _))) _ _ _); k_dflt (refine args_cons ?_))
  k_with "newList" => (k_here; k_dflt (refine' newList_K ?zF ?zN ?_ ?zs; (case zF => k_asm); (case zN => k_asm); (case zs => exact Nat.le_of_ble_eq_true rfl); k_whole); k_extra "M46a0")
  k_with "MY ltp" => ((with_reducible rename @LT.lt Nat _ _ _ ∧ _ => kL); first | (with_reducible first | exact kL.1 | exact kL.2 | exact kL.2.1 | exact kL.2.2 | exact kL.2.2.1 | exact kL.2.2.2 | exact kL.2.2.2.1 | exact kL.2.2.2.2 | exact kL.2.2.2.2.1 | exact kL.2.2.2.2.2 | exact kL.2.2.2.2.2.1 | exact kL.2.2.2.2.2.2 | exact kL.2.2.2.2.2.2.1 | exact kL.2.2.2.2.2.2.2 | exact kL.2.2.2.2.2.2.2.1 | exact kL.2.2.2.2.2.2.2.2 | exact kL.2.2.2.2.2.2.2.2.1 | exact kL.2.2.2.2.2.2.2.2.2 | exact kL.2.2.2.2.2.2.2.2.2.1 | exact kL.2.2.2.2.2.2.2.2.2.2 | exact kL.2.2.2.2.2.2.2.2.2.2.1 | exact kL.2.2.2.2.2.2.2.2.2.2.2 | exact kL.2.2.2.2.2.2.2.2.2.2.2.1 | exact kL.2.2.2.2.2.2.2.2.2.2.2.2 | exact kL.2.2.2.2.2.2.2.2.2.2.2.2.1 | exact kL.2.2.2.2.2.2.2.2.2.2.2.2.2 | exact kL.2.2.2.2.2.2.2.2.2.2.2.2.2.1 | exact kL.2.2.2.2.2.2.2.2.2.2.2.2.2.2 | exact kL.2.2.2.2.2.2.2.2.2.2.2.2.2.2.1 | exact kL.2.2.2.2.2.2.2.2.2.2.2.2.2.2.2 | exact kL.2.2.2.2.2.2.2.2.2.2.2.2.2.2.2.1 | exact kL.2.2.2.2.2.2.2.2.2.2.2.2.2.2.2.2 | exact kL.2.2.2.2.2.2.2.2.2.2.2.2.2.2.2.2.1 | exact kL.2.2.2.2.2.2.2.2.2.2.2.2.2.2.2.2.2 | exact kL.2.2.2.2.2.2.2.2.2.2.2.2.2.2.2.2.2.1 | exact kL.2.2.2.2.2.2.2.2.2.2.2.2.2.2.2.2.2.2 | exact kL.2.2.2.2.2.2.2.2.2.2.2.2.2.2.2.2.2.2.1 | exact kL.2.2.2.2.2.2.2.2.2.2.2.2.2.2.2.2.2.2.2 | exact kL.2.2.2.2.2.2.2.2.2.2.2.2.2.2.2.2.2.2.2.1 | exact kL.2.2.2.2.2.2.2.2.2.2.2.2.2.2.2.2.2.2.2.2 | exact kL.2.2.2.2.2.2.2.2.2.2.2.2.2.2.2.2.2.2.2.2.1 | exact kL.2.2.2.2.2.2.2.2.2.2.2.2.2.2.2.2.2.2.2.2.2 | exact kL.2.2.2.2.2.2.2.2.2.2.2.2.2.2.2.2.2.2.2.2.2.1 | exact kL.2.2.2.2.2.2.2.2.2.2.2.2.2.2.2.2.2.2.2.2.2.2 | exact kL.2.2.2.2.2.2.2.2.2.2.2.2.2.2.2.2.2.2.2.2.2.2.1 | exact kL.2.2.2.2.2.2.2.2.2.2.2.2.2.2.2.2.2.2.2.2.2.2.2) | (clear kL; k_extra "MY ltp"))
  k_with "MY ne" => first | (refine Nat.ne_of_gt ?_; k_extra "MY ltp") | (refine Nat.ne_of_lt ?_; k_extra "MY ltp")
  k_with "newTuple" => (k_here; k_dflt (refine' kup_newTuple ?zF ?zN ?_ ?zs; (case zF => k_asm); (case zN => k_asm); (case zs => kmk_size)); k_extra "M46a0")
  k_with "MY ltq" => first | with_reducible assumption | k_extra "MY ltp" | ((with_reducible refine' Nat.lt_trans ?_ ?klb); (case klb => with_reducible assumption); k_extra "MY ltq") | ((with_reducible refine' Nat.lt_trans ?kla ?_); (case kla => with_reducible assumption); k_extra "MY ltp") | ((with_reducible refine' Nat.lt_succ_of_lt ?_); first | with_reducible assumption | k_extra "MY ltp" | ((with_reducible refine' Nat.lt_succ_of_lt ?_); first | with_reducible assumption | k_extra "MY ltp")) | ((with_reducible refine' Mine.mem_allLt ?_ _ ?klm); (case klm => with_reducible assumption); first | with_reducible assumption | k_extra "MY ltp")
  k_with "MY lo" => first | ((with_reducible show @LT.lt Nat _ _ _); (try dsimp only); k_extra "MY ltq") | ((with_reducible show @Ne Nat _ _); (try dsimp only); first | with_reducible assumption | (refine Ne.symm ?_; with_reducible assumption) | (refine Nat.ne_of_gt ?_; k_extra "MY ltq") | (refine Nat.ne_of_lt ?_; k_extra "MY ltq")) | decide
  k_with "H mem" => first | exact List.Mem.head _ | (refine' List.Mem.tail _ ?_; k_extra "H mem") | ((fail_if_success refine' List.Mem.tail _ ?_); change (_ : Addr × Obj) ∈ (_ : List (Addr × Obj)); first | with_reducible assumption | (with_reducible refine' List.mem_append_left _ ?_; k_extra "H mem") | (with_reducible refine' List.mem_append_right _ ?_; k_extra "H mem"))
  k_with "H room" => ((try simp only [depth_under_make, depth_under_kw, depth_in1, depth_deeper, depth_caller]); (try dsimp only [ktrTop]); first | decide | ((try simp only [Nat.add_assoc, Nat.reduceAdd]); (with_reducible rename _ + _ < recursionLimit => kH); first | exact Mine.room_of kH rfl | exact Mine.room_at kH) | omega)
  k_with "H units" => ((try simp only [units_in1, units_deeper, Around.mark_units, units_caller]); (try dsimp only [ktrTop]); first | decide | ((try simp only [Nat.add_assoc, Nat.reduceAdd]); (with_reducible rename _ + _ < cLine => kH); first | exact Mine.room_of kH rfl | exact Mine.room_at kH) | omega)
  k_with "H ne" => (refine neN ?_; (try dsimp only); first | with_reducible assumption | (refine Ne.symm ?_; with_reducible assumption) | (with_reducible first | exact Nat.ne_of_lt (by assumption) | exact Nat.ne_of_gt (by assumption)) | k_extra "MY ne" | ((with_reducible rename (_ ≠ _ ∧ _ ≠ _ ∧ _ ≠ _) ∧ _ => kOff); first | (simp only [kOff, ne_eq, not_false_eq_true]; done) | (refine Ne.symm ?_; simp only [kOff, ne_eq, not_false_eq_true]; done)) | k_extra "MY lo" | omega)
  trivial
example : True := by
  k_with "MY enter" => (refine' code_def ?zk1 ?zk2 ?zk3 ?zk4 ?zk5 ?zkA ?zkF ?zkK ?zk6 ?zk7 ?zk8 ?zk9 ?zkB ?_ ?zc2 ?zc3 ?zc4 ?zc5; (case zkA => exact rfl); (case zkF => exact rfl); (case zkK => k_asm); (case zk1 => k_asm); (case zk2 => k_asm); (case zk3 => k_asm); (case zk4 => k_asm); (case zk5 => k_asm); (case zk6 => k_is); (case zk7 => k_is); (case zk8 => ktr_room); (case zk9 => first | exact BindsTo.of_eq rfl | exact binds_K (by k_in) rfl (by k_is) rfl rfl rfl); (case zc5 => decide); (case zkB => exact locs rfl); (case zc2 => exact rfl); (case zc3 => exact rfl); (case zc4 => exact rfl); k_extra "M91c7")
  k_with "MY enterC" => (refine' code_defC ?zk1 ?zk2 ?zk3 ?zk4 ?zk5 ?zkA ?zkF ?zkK ?zk6 ?zk7 ?zk8 ?zk9 ?zkB ?zkD ?_ ?zc2 ?zc3 ?zc4; (case zkA => exact rfl); (case zkF => exact rfl); (case zkK => k_asm); (case zk1 => k_asm); (case zk2 => k_asm); (case zk3 => k_asm); (case zk4 => k_asm); (case zk5 => k_asm); (case zk6 => k_is); (case zk7 => k_is); (case zk8 => ktr_room); (case zk9 => first | exact BindsTo.of_eq rfl | exact binds_K (by k_in) rfl (by k_is) rfl rfl rfl); (case zkB => exact rfl); (case zkD => decide +kernel); (case zc2 => exact rfl); (case zc3 => exact rfl); (case zc4 => exact rfl); k_extra "M289d")
  k_with "MY fn" => (refine wpAny_call ?_; k_dflt (first | k_extra "MY enter" | k_extra "MY enterC"))
  k_with "MY cls" => (k_dflt (refine' call_cls ?zq1 ?zq2 ?zq3 ?zq4 ?zq5 ?zq6 ?_; (case zq1 => k_asm); (case zq2 => k_asm); (case zq3 => k_asm); (case zq4 => k_is); (case zq5 => k_is); (case zq6 => k_is); k_extra "M274b"))
  k_with "MY sub" => repeat' (first | exact List.forall_mem_nil _ | exact Mine.sub_refl | (refine Mine.sub_cons (by k_mem) ?_) | refine Mine.sub_tail ?_)
  k_with "callWith ref" => (k_here; k_dflt (first | refine' callWith_K ?zq1 ?zq2 ?_; (case zq1 => k_asm); (case zq2 => k_is); k_whole | (refine' callWith_K0 (Frag.In.keeps ?zq1 (Fr.keep ?zqF)) ?zq2 ?_; (case zqF => k_asm); (case zq1 => k_asm); (case zq2 => k_is); k_whole) | refine' callWith_K0 ?zq1 ?zq2 ?_; (case zq1 => k_in); (case zq2 => k_is); k_whole))
  k_with "MY lt" => first | assumption | exact Mine.mem_allLt (by assumption) | (refine Mine.mem_allLt ?_; simp only [*]; done)
  k_with "MY tl" => repeat' (with_reducible first | exact Mine.sub_refl | exact Mine.sub_appR | refine Mine.sub_tail ?_ | refine Mine.sub_left ?_)
  k_with "MY sl" => ((try (with_reducible exact Mine.sub_refl)); (repeat' (refine Mine.sub_cons (by k_mem) ?_)); (k_extra "MY tl"))
  k_with "MY mem" => first | (with_reducible (repeat (first | assumption | exact List.Mem.head _ | (refine List.Mem.tail _ ?_) | (refine List.mem_append_right _ ?_; assumption) | (refine List.mem_append_left _ ?_))); done) | repeat (first | assumption | exact List.Mem.head _ | (refine List.Mem.tail _ ?_) | (refine List.mem_append_right _ ?_; assumption) | (refine List.mem_append_left _ ?_))
  k_with "call ref" => k_extra "MY ng0"
  k_with "MY ng0" => (k_here; (with_reducible show wpAny _ _ (call (Value.ref 214) _) _ _ _); k_dflt (refine' Mine.ng0  _ _ _ _ _ _ _ _ _ _ _ _ _ _ _ _ _ ?zqB ?zqF ?zqX ?zqN ?zqT ?zqk ?zqd ?zqu ?_; (case zqB => k_asm); (case zqF => k_asm); (case zqX => k_asm); (case zqN => k_asm); (case zqT => k_asm); (case zqk => first | exact rfl | assumption); (case zqd => ktr_room); (case zqu => ktr_units)); k_extra "M67b0")
  trivial
theorem fo0 {w : World} {p : Program} {loose : List Str} {mean : ExcName → Option Value} {mg mb : Str → Option Value} {cm mt : Addr} {rest : List (Addr × Obj)}
  
  : ∀ (dp un : Nat) (gd : Option (List Code)) (cn : Str) (cs : Scope) (a : Addr) (ccd : Value) (cl : List (Str × Addr)) (outer : List Env) (A₀ : Around) (base h₀ : Heap) (L : Addr) (m : Str → Option Value) (s : Shared) (Q E : Value → Shared → Prop)
  (_B : Below A₀ base outer h₀) (_F : Fr h₀ L s.heap m) (_X : (hd.heap_39 w.params).In h₀) (_N : News h₀ L s.heap (rest)) (_T : Top p loose mean mg mb h₀) (_hk : cs.kind = .function)
  (_hd : dp + 14 < recursionLimit) (_hu : un + 120 < cLine)
  (_hret : ∀ f df g0 kd0 gw ko k1 k2 k3 k4 k5 k6 h' tk', Fr h₀ L h' m → News h₀ L h' ((f, instObj 244 df) :: (df, dictOf [{ hash := PyData.keyHash w.params (Str.ofString "charmap"), key := .str (Str.ofString "charmap") k1, val := .ref cm }, { hash := PyData.keyHash w.params (Str.ofString "metrics"), key := .str (Str.ofString "metrics") k2, val := .ref mt }, { hash := PyData.keyHash w.params (Str.ofString "gdef"), key := .str (Str.ofString "gdef") k3, val := .ref g0 }, { hash := PyData.keyHash w.params (Str.ofString "gsub"), key := .str (Str.ofString "gsub") k4, val := .none }, { hash := PyData.keyHash w.params (Str.ofString "gpos"), key := .str (Str.ofString "gpos") k5, val := .none }, { hash := PyData.keyHash w.params (Str.ofString "kern"), key := .str (Str.ofString "kern") k6, val := .ref kd0 }] 6) :: (kd0, ko) :: (rest ++ gw)) → GdefIn w [] g0 gw → EmptyD w ko → (kd0 == sysModules) = false → (∀ p ∈ gw, ∀ q ∈ rest, q.1 < p.1) → (∀ q ∈ rest, q.1 < kd0) → @LT.lt Nat _ kd0 df → @LT.lt Nat _ df f → Q (.ref f) { s with heap := h', toks := tk' }) ,
  wpAny (model PySem.Challenge.rw_nu0220_01.row.prog w) (ktrTop dp un gd cn cs L a ccd cl outer) (call (.ref 262) [.ref cm, .ref mt]) Q E s := by
  k_fill
  intro dp un gd cn cs a ccd cl outer A₀ base h₀ L m s Q E B F X N T hk hd hu hret
  have hb0 : ∀ q ∈ rest, @LT.lt Nat _ q.1 s.heap.objs.size := fun q hq => Heap.lt_size (N q hq).1
  k_extra "MY fn"
  k_steps
  rename_i gi lg _ _ _ lk lo hs _ hi _ _ _ _ _ _ ld lx _ _ _ _ _ _ _ _ _ _ _ _ _ _ _ _ _ _ _ kF kN _ _
  exact hret _ _ _ _ _ _ _ _ _ _ _ _ _ _ kF kN gi ⟨hs, hi⟩ lo lg (fun q hq => lk q (List.mem_append_left _ hq)) ld.1 lx
example : True ∧ True := by w_top off; first | (walk1; done) | exact ⟨trivial, trivial⟩
example : True := by
  k_with_none
  k_with "eval Name" => (k_here; (with_reducible show wpAny _ _ (eval (Expr.Name _ _) (compEnvC _ _ _ _)) _ _ _); k_dflt (first | (name_kind "local"; refine' LCgL.ld_own ?zN ?zm ?zC ?zx ?_ ?zk ?zl ?zd; (case zk => kernel_rfl); (case zl => kernel_rfl); (case zd => kernel_rfl); (case zN => k_asm); (case zm => k_mem); (case zC => assumption); (case zx => assumption); k_whole) | (name_kind "globalImplicit"; first | (refine' LCgL.ld_global ?zF ?zX ?zT ?ze ?_ ?zg ?zk ?zl ?zd; (case zg => kernel_rfl); (case zk => kernel_rfl); (case zl => kernel_rfl); (case zd => kernel_rfl); (case zF => k_asm); (case zX => k_asm); (case zT => k_asm); (case ze => k_is); k_whole) | (refine' LCgL.ld_built ?zF ?zX ?zT ?ze ?zv ?zn ?_ ?zg ?zb ?zk ?zl ?zd; (case zg => kernel_rfl); (case zb => kernel_rfl); (case zk => kernel_rfl); (case zl => kernel_rfl); (case zd => kernel_rfl); (case zF => k_asm); (case zX => k_asm); (case zT => k_asm); (case ze => k_is); (case zv => boot_fast); (case zn => decide); k_whole))))
  k_with "eval Name" => (k_here; (fail_if_success (with_reducible show wpAny _ _ (eval (Expr.Name _ _) (compEnvC _ _ _ _)) _ _ _)); k_dflt (first | (name_kind "local"; refine' nameX_L ?zF ?zv ?_ ?za ?zb ?zc; (case zF => k_asm); (case za => kernel_rfl); (case zb => kernel_rfl); (case zc => kernel_rfl); (case zv => rfl); k_whole) | (name_kind "cell"; refine' nameX_C ?zN ?zl ?zm ?zd ?_ ?za ?zb ?zc; (case za => kernel_rfl); (case zb => kernel_rfl); (case zc => kernel_rfl); (case zN => k_asm); (case zl => rfl); (case zm => k_mem); (case zd => k_asm); k_whole) | (name_kind "globalImplicit"; first | (refine' nameX_K ?zF ?zX ?zT ?ze ?_ ?za ?zb ?zc; (case za => kernel_rfl); (case zb => kernel_rfl); (case zc => kernel_rfl); (case zF => k_asm); (case zX => k_asm); (case zT => k_asm); (case ze => k_is); k_whole) | (refine' nameX_B ?zF ?zX ?zT ?ze ?zv ?zn ?_ ?za ?zb ?zc; (case za => kernel_rfl); (case zb => kernel_rfl); (case zc => kernel_rfl); (case zF => k_asm); (case zX => k_asm); (case zT => k_asm); (case ze => k_is); (case zv => boot_fast); (case zn => decide); k_whole))))
  k_with "ite" => (k_closed; first | (with_reducible refine ite_pos ?zi ?_; (case zi => decide +kernel)) | (with_reducible refine ite_neg ?zi ?_; (case zi => decide +kernel)))
  k_with "getAttr ref" => (k_here; k_dflt (refine' get_own ?zF ?zX ?zI ?zg ?zh ?za ?zn ?zl ?zv ?_; (case zF => k_asm); (case zX => k_asm); (case zI => k_inst); (case zl => k_get); (case zg => k_is); (case zh => k_is); (case za => k_is); (case zn => k_is); (case zv => k_handed); k_whole))
  k_with "spliced" => ((with_reducible show wpAny _ _ (spliced (backTo _ (starEach (_ :: _) _))) _ _ _); k_dflt (refine args_cons ?_))
  k_with "newList" => (k_here; k_dflt (refine' newList_K ?zF ?zN ?_ ?zs; (case zF => k_asm); (case zN => k_asm); (case zs => exact Nat.le_of_ble_eq_true rfl); k_whole); k_extra "M46a0")
  k_with "MY ltp" => ((with_reducible rename @LT.lt Nat _ _ _ ∧ _ => kL); first | (with_reducible first | exact kL.1 | exact kL.2 | exact kL.2.1 | exact kL.2.2 | exact kL.2.2.1 | exact kL.2.2.2 | exact kL.2.2.2.1 | exact kL.2.2.2.2 | exact kL.2.2.2.2.1 | exact kL.2.2.2.2.2 | exact kL.2.2.2.2.2.1 | exact kL.2.2.2.2.2.2 | exact kL.2.2.2.2.2.2.1 | exact kL.2.2.2.2.2.2.2 | exact kL.2.2.2.2.2.2.2.1 | exact kL.2.2.2.2.2.2.2.2 | exact kL.2.2.2.2.2.2.2.2.1 | exact kL.2.2.2.2.2.2.2.2.2 | exact kL.2.2.2.2.2.2.2.2.2.1 | exact kL.2.2.2.2.2.2.2.2.2.2 | exact kL.2.2.2.2.2.2.2.2.2.2.1 | exact kL.2.2.2.2.2.2.2.2.2.2.2 | exact kL.2.2.2.2.2.2.2.2.2.2.2.1 | exact kL.2.2.2.2.2.2.2.2.2.2.2.2 | exact kL.2.2.2.2.2.2.2.2.2.2.2.2.1 | exact kL.2.2.2.2.2.2.2.2.2.2.2.2.2 | exact kL.2.2.2.2.2.2.2.2.2.2.2.2.2.1 | exact kL.2.2.2.2.2.2.2.2.2.2.2.2.2.2 | exact kL.2.2.2.2.2.2.2.2.2.2.2.2.2.2.1 | exact kL.2.2.2.2.2.2.2.2.2.2.2.2.2.2.2 | exact kL.2.2.2.2.2.2.2.2.2.2.2.2.2.2.2.1 | exact kL.2.2.2.2.2.2.2.2.2.2.2.2.2.2.2.2 | exact kL.2.2.2.2.2.2.2.2.2.2.2.2.2.2.2.2.1 | exact kL.2.2.2.2.2.2.2.2.2.2.2.2.2.2.2.2.2 | exact kL.2.2.2.2.2.2.2.2.2.2.2.2.2.2.2.2.2.1 | exact kL.2.2.2.2.2.2.2.2.2.2.2.2.2.2.2.2.2.2 | exact kL.2.2.2.2.2.2.2.2.2.2.2.2.2.2.2.2.2.2.1 | exact kL.2.2.2.2.2.2.2.2.2.2.2.2.2.2.2.2.2.2.2 | exact kL.2.2.2.2.2.2.2.2.2.2.2.2.2.2.2.2.2.2.2.1 | exact kL.2.2.2.2.2.2.2.2.2.2.2.2.2.2.2.2.2.2.2.2 | exact kL.2.2.2.2.2.2.2.2.2.2.2.2.2.2.2.2.2.2.2.2.1 | exact kL.2.2.2.2.2.2.2.2.2.2.2.2.2.2.2.2.2.2.2.2.2 | exact kL.2.2.2.2.2.2.2.2.2.2.2.2.2.2.2.2.2.2.2.2.2.1 | exact kL.2.2.2.2.2.2.2.2.2.2.2.2.2.2.2.2.2.2.2.2.2.2 | exact kL.2.2.2.2.2.2.2.2.2.2.2.2.2.2.2.2.2.2.2.2.2.2.1 | exact kL.2.2.2.2.2.2.2.2.2.2.2.2.2.2.2.2.2.2.2.2.2.2.2) | (clear kL; k_extra "MY ltp"))
  k_with "MY ne" => first | (refine Nat.ne_of_gt ?_; k_extra "MY ltp") | (refine Nat.ne_of_lt ?_; k_extra "MY ltp")
  k_with "newTuple" => (k_here; k_dflt (refine' kup_newTuple ?zF ?zN ?_ ?zs; (case zF => k_asm); (case zN => k_asm); (case zs => kmk_size)); k_extra "M46a0")
  k_with "MY ltq" => first | with_reducible assumption | k_extra "MY ltp" | ((with_reducible refine' Nat.lt_trans ?_ ?klb); (case klb => with_reducible assumption); k_extra "MY ltq") | ((with_reducible refine' Nat.lt_trans ?kla ?_); (case kla => with_reducible assumption); k_extra "MY ltp") | ((with_reducible refine' Nat.lt_succ_of_lt ?_); first | with_reducible assumption | k_extra "MY ltp" | ((with_reducible refine' Nat.lt_succ_of_lt ?_); first | with_reducible assumption | k_extra "MY ltp")) | ((with_reducible refine' Mine.mem_allLt ?_ _ ?klm); (case klm => with_reducible assumption); first | with_reducible assumption | k_extra "MY ltp")
  k_with "MY lo" => first | ((with_reducible show @LT.lt Nat _ _ _); (try dsimp only); k_extra "MY ltq") | ((with_reducible show @Ne Nat _ _); (try dsimp only); first | with_reducible assumption | (refine Ne.symm ?_; with_reducible assumption) | (refine Nat.ne_of_gt ?_; k_extra "MY ltq") | (refine Nat.ne_of_lt ?_; k_extra "MY ltq")) | decide
  k_with "H mem" => first | exact List.Mem.head _ | (refine' List.Mem.tail _ ?_; k_extra "H mem") | ((fail_if_success refine' List.Mem.tail _ ?_); change (_ : Addr × Obj) ∈ (_ : List (Addr × Obj)); first | with_reducible assumption | (with_reducible refine' List.mem_append_left _ ?_; k_extra "H mem") | (with_reducible refine' List.mem_append_right _ ?_; k_extra "H mem"))
  k_with "H room" => ((try simp only [depth_under_make, depth_under_kw, depth_in1, depth_deeper, depth_caller]); (try dsimp only [ktrTop]); first | decide | ((try simp only [Nat.add_assoc, Nat.reduceAdd]); (with_reducible rename _ + _ < recursionLimit => kH); first | exact Mine.room_of kH rfl | exact Mine.room_at kH) | omega)
  k_with "H units" => ((try simp only [units_in1, units_deeper, Around.mark_units, units_caller]); (try dsimp only [ktrTop]); first | decide | ((try simp only [Nat.add_assoc, Nat.reduceAdd]); (with_reducible rename _ + _ < cLine => kH); first | exact Mine.room_of kH rfl | exact Mine.room_at kH) | omega)
  k_with "H ne" => (refine neN ?_; (try dsimp only); first | with_reducible assumption | (refine Ne.symm ?_; with_reducible assumption) | (with_reducible first | exact Nat.ne_of_lt (by assumption) | exact Nat.ne_of_gt (by assumption)) | k_extra "MY ne" | ((with_reducible rename (_ ≠ _ ∧ _ ≠ _ ∧ _ ≠ _) ∧ _ => kOff); first | (simp only [kOff, ne_eq, not_false_eq_true]; done) | (refine Ne.symm ?_; simp only [kOff, ne_eq, not_false_eq_true]; done)) | k_extra "MY lo" | omega)
  trivial
example : True := by
  k_with "MY enter" => (refine' code_def ?zk1 ?zk2 ?zk3 ?zk4 ?zk5 ?zkA ?zkF ?zkK ?zk6 ?zk7 ?zk8 ?zk9 ?zkB ?_ ?zc2 ?zc3 ?zc4 ?zc5; (case zkA => exact rfl); (case zkF => exact rfl); (case zkK => k_asm); (case zk1 => k_asm); (case zk2 => k_asm); (case zk3 => k_asm); (case zk4 => k_asm); (case zk5 => k_asm); (case zk6 => k_is); (case zk7 => k_is); (case zk8 => ktr_room); (case zk9 => first | exact BindsTo.of_eq rfl | exact binds_K (by k_in) rfl (by k_is) rfl rfl rfl); (case zc5 => decide); (case zkB => exact locs rfl); (case zc2 => exact rfl); (case zc3 => exact rfl); (case zc4 => exact rfl); k_extra "M91c7")
  k_with "MY enterC" => (refine' code_defC ?zk1 ?zk2 ?zk3 ?zk4 ?zk5 ?zkA ?zkF ?zkK ?zk6 ?zk7 ?zk8 ?zk9 ?zkB ?zkD ?_ ?zc2 ?zc3 ?zc4; (case zkA => exact rfl); (case zkF => exact rfl); (case zkK => k_asm); (case zk1 => k_asm); (case zk2 => k_asm); (case zk3 => k_asm); (case zk4 => k_asm); (case zk5 => k_asm); (case zk6 => k_is); (case zk7 => k_is); (case zk8 => ktr_room); (case zk9 => first | exact BindsTo.of_eq rfl | exact binds_K (by k_in) rfl (by k_is) rfl rfl rfl); (case zkB => exact rfl); (case zkD => decide +kernel); (case zc2 => exact rfl); (case zc3 => exact rfl); (case zc4 => exact rfl); k_extra "M289d")
  k_with "MY fn" => (refine wpAny_call ?_; k_dflt (first | k_extra "MY enter" | k_extra "MY enterC"))
  k_with "MY cls" => (k_dflt (refine' call_cls ?zq1 ?zq2 ?zq3 ?zq4 ?zq5 ?zq6 ?_; (case zq1 => k_asm); (case zq2 => k_asm); (case zq3 => k_asm); (case zq4 => k_is); (case zq5 => k_is); (case zq6 => k_is); k_extra "M274b"))
  k_with "MY sub" => repeat' (first | exact List.forall_mem_nil _ | exact Mine.sub_refl | (refine Mine.sub_cons (by k_mem) ?_) | refine Mine.sub_tail ?_)
  k_with "callWith ref" => (k_here; k_dflt (first | refine' callWith_K ?zq1 ?zq2 ?_; (case zq1 => k_asm); (case zq2 => k_is); k_whole | (refine' callWith_K0 (Frag.In.keeps ?zq1 (Fr.keep ?zqF)) ?zq2 ?_; (case zqF => k_asm); (case zq1 => k_asm); (case zq2 => k_is); k_whole) | refine' callWith_K0 ?zq1 ?zq2 ?_; (case zq1 => k_in); (case zq2 => k_is); k_whole))
  k_with "MY lt" => first | assumption | exact Mine.mem_allLt (by assumption) | (refine Mine.mem_allLt ?_; simp only [*]; done)
  k_with "MY tl" => repeat' (with_reducible first | exact Mine.sub_refl | exact Mine.sub_appR | refine Mine.sub_tail ?_ | refine Mine.sub_left ?_)
  k_with "MY sl" => ((try (with_reducible exact Mine.sub_refl)); (repeat' (refine Mine.sub_cons (by k_mem) ?_)); (k_extra "MY tl"))
  k_with "MY mem" => first | (with_reducible (repeat (first | assumption | exact List.Mem.head _ | (refine List.Mem.tail _ ?_) | (refine List.mem_append_right _ ?_; assumption) | (refine List.mem_append_left _ ?_))); done) | repeat (first | assumption | exact List.Mem.head _ | (refine List.Mem.tail _ ?_) | (refine List.mem_append_right _ ?_; assumption) | (refine List.mem_append_left _ ?_))
  trivial
theorem na0 {w : World} {p : Program} {loose : List Str} {mean : ExcName → Option Value} {mg mb : Str → Option Value} {f df cm mt g0 kd0 : Addr} {k1 k2 k3 k4 k5 k6 : Tok} {d e : Addr} {o : Obj} {j1 j2 : Tok} {kvs : List (Int × Value)} {c : List (Int × Int)} {code : Int} {tc : Tok} {rest : List (Addr × Obj)}
  (mf : (f, instObj 244 df) ∈ rest) (mdf : (df, dictOf [{ hash := PyData.keyHash w.params (Str.ofString "charmap"), key := .str (Str.ofString "charmap") k1, val := .ref cm }, { hash := PyData.keyHash w.params (Str.ofString "metrics"), key := .str (Str.ofString "metrics") k2, val := .ref mt }, { hash := PyData.keyHash w.params (Str.ofString "gdef"), key := .str (Str.ofString "gdef") k3, val := .ref g0 }, { hash := PyData.keyHash w.params (Str.ofString "gsub"), key := .str (Str.ofString "gsub") k4, val := .none }, { hash := PyData.keyHash w.params (Str.ofString "gpos"), key := .str (Str.ofString "gpos") k5, val := .none }, { hash := PyData.keyHash w.params (Str.ofString "kern"), key := .str (Str.ofString "kern") k6, val := .ref kd0 }] 6) ∈ rest) (mc : (cm, instObj 346 d) ∈ rest) (mcd : (d, dictOf [{ hash := PyData.keyHash w.params (Str.ofString "codes"), key := .str (Str.ofString "codes") j1, val := .ref e }, { hash := PyData.keyHash w.params (Str.ofString "variations"), key := .str (Str.ofString "variations") j2, val := .none }] 2) ∈ rest) (me : (e, o) ∈ rest) (i1 : o.IsDictOf (PySem.intKind PySem.Challenge.rw_nu0220_01.row.prog w) kvs) (fl : FlatPairs PyData.int kvs (kdfD c)) (hc : c.length ≤ 3) (lo : (e == sysModules) = false)
  : ∀ (dp un : Nat) (gd : Option (List Code)) (cn : Str) (cs : Scope) (a : Addr) (ccd : Value) (cl : List (Str × Addr)) (outer : List Env) (A₀ : Around) (base h₀ : Heap) (L : Addr) (m : Str → Option Value) (s : Shared) (Q E : Value → Shared → Prop)
  (_B : Below A₀ base outer h₀) (_F : Fr h₀ L s.heap m) (_X : (hd.heap_39 w.params).In h₀) (_N : News h₀ L s.heap (rest)) (_T : Top p loose mean mg mb h₀) (_hk : cs.kind = .function)
  (_hd : dp + 8 < recursionLimit) (_hu : un + 70 < cLine)
  (_hret : ∀ t h' tk', Fr h₀ L h' m → News h₀ L h' rest → Q (.int (kdfLook c code 0) t) { s with heap := h', toks := tk' }) ,
  wpAny (model PySem.Challenge.rw_nu0220_01.row.prog w) (ktrTop dp un gd cn cs L a ccd cl outer) (call (.ref 269) [.ref f, .int code tc]) Q E s := by
  k_fill
  intro dp un gd cn cs a ccd cl outer A₀ base h₀ L m s Q E B F X N T hk hd hu hret
  have NN := news_sub N (sub_cons mf (sub_cons mdf (sub_cons mc (sub_cons mcd (sub_cons me sub_refl)))))
  clear N
  k_extra "MY fn"
  k_steps
  rename_i kF kN Tc kX
  exact hret _ _ _ kF (news_sub kN (sub_tail (sub_tail (sub_tail (sub_tail (sub_tail sub_refl))))))

theorem sg0 {w : World} {p : Program} {loose : List Str} {mean : ExcName → Option Value} {mg mb : Str → Option Value} {f df cm mt g0 kd0 : Addr} {k1 k2 k3 k4 k5 k6 : Tok} {d e : Addr} {o : Obj} {j1 j2 : Tok} {kvs : List (Int × Value)} {c : List (Int × Int)}  {rest : List (Addr × Obj)}
  (mf : (f, instObj 244 df) ∈ rest) (mdf : (df, dictOf [{ hash := PyData.keyHash w.params (Str.ofString "charmap"), key := .str (Str.ofString "charmap") k1, val := .ref cm }, { hash := PyData.keyHash w.params (Str.ofString "metrics"), key := .str (Str.ofString "metrics") k2, val := .ref mt }, { hash := PyData.keyHash w.params (Str.ofString "gdef"), key := .str (Str.ofString "gdef") k3, val := .ref g0 }, { hash := PyData.keyHash w.params (Str.ofString "gsub"), key := .str (Str.ofString "gsub") k4, val := .none }, { hash := PyData.keyHash w.params (Str.ofString "gpos"), key := .str (Str.ofString "gpos") k5, val := .none }, { hash := PyData.keyHash w.params (Str.ofString "kern"), key := .str (Str.ofString "kern") k6, val := .ref kd0 }] 6) ∈ rest) (mc : (cm, instObj 346 d) ∈ rest) (mcd : (d, dictOf [{ hash := PyData.keyHash w.params (Str.ofString "codes"), key := .str (Str.ofString "codes") j1, val := .ref e }, { hash := PyData.keyHash w.params (Str.ofString "variations"), key := .str (Str.ofString "variations") j2, val := .none }] 2) ∈ rest) (me : (e, o) ∈ rest) (i1 : o.IsDictOf (PySem.intKind PySem.Challenge.rw_nu0220_01.row.prog w) kvs) (fl : FlatPairs PyData.int kvs (kdfD c)) (hc : c.length ≤ 3) (lo : (e == sysModules) = false)
  : ∀ (dp un : Nat) (gd : Option (List Code)) (cn : Str) (cs : Scope) (a : Addr) (ccd : Value) (cl : List (Str × Addr)) (outer : List Env) (A₀ : Around) (base h₀ : Heap) (L : Addr) (m : Str → Option Value) (s : Shared) (Q E : Value → Shared → Prop)
  (_B : Below A₀ base outer h₀) (_F : Fr h₀ L s.heap m) (_X : (hd.heap_39 w.params).In h₀) (_N : News h₀ L s.heap (rest)) (_T : Top p loose mean mg mb h₀) (_hk : cs.kind = .function)
  (_hd : dp + 8 < recursionLimit) (_hu : un + 70 < cLine)
  (_hret : ∀ t h' tk', Fr h₀ L h' m → News h₀ L h' rest → Q (.int (kdfLook c 32 0) t) { s with heap := h', toks := tk' }) ,
  wpAny (model PySem.Challenge.rw_nu0220_01.row.prog w) (ktrTop dp un gd cn cs L a ccd cl outer) (call (.ref 283) [.ref f]) Q E s := by
  k_fill
  intro dp un gd cn cs a ccd cl outer A₀ base h₀ L m s Q E B F X N T hk hd hu hret
  have NN := news_sub N (sub_cons mf (sub_cons mdf (sub_cons mc (sub_cons mcd (sub_cons me sub_refl)))))
  clear N
  k_extra "MY fn"
  k_steps
  rename_i kF kN Tc kX
  exact hret _ _ _ kF (news_sub kN (sub_tail (sub_tail (sub_tail (sub_tail (sub_tail sub_refl))))))
example : True ∧ True := by w_top off; first | (walk1; done) | exact ⟨trivial, trivial⟩
example : True := by
  k_with_none
  k_with "eval Name" => (k_here; (with_reducible show wpAny _ _ (eval (Expr.Name _ _) (compEnvC _ _ _ _)) _ _ _); k_dflt (first | (name_kind "local"; refine' LCgL.ld_own ?zN ?zm ?zC ?zx ?_ ?zk ?zl ?zd; (case zk => kernel_rfl); (case zl => kernel_rfl); (case zd => kernel_rfl); (case zN => k_asm); (case zm => k_mem); (case zC => assumption); (case zx => assumption); k_whole) | (name_kind "globalImplicit"; first | (refine' LCgL.ld_global ?zF ?zX ?zT ?ze ?_ ?zg ?zk ?zl ?zd; (case zg => kernel_rfl); (case zk => kernel_rfl); (case zl => kernel_rfl); (case zd => kernel_rfl); (case zF => k_asm); (case zX => k_asm); (case zT => k_asm); (case ze => k_is); k_whole) | (refine' LCgL.ld_built ?zF ?zX ?zT ?ze ?zv ?zn ?_ ?zg ?zb ?zk ?zl ?zd; (case zg => kernel_rfl); (case zb => kernel_rfl); (case zk => kernel_rfl); (case zl => kernel_rfl); (case zd => kernel_rfl); (case zF => k_asm); (case zX => k_asm); (case zT => k_asm); (case ze => k_is); (case zv => boot_fast); (case zn => decide); k_whole))))
  k_with "eval Name" => (k_here; (fail_if_success (with_reducible show wpAny _ _ (eval (Expr.Name _ _) (compEnvC _ _ _ _)) _ _ _)); k_dflt (first | (name_kind "local"; refine' nameX_L ?zF ?zv ?_ ?za ?zb ?zc; (case zF => k_asm); (case za => kernel_rfl); (case zb => kernel_rfl); (case zc => kernel_rfl); (case zv => rfl); k_whole) | (name_kind "cell"; refine' nameX_C ?zN ?zl ?zm ?zd ?_ ?za ?zb ?zc; (case za => kernel_rfl); (case zb => kernel_rfl); (case zc => kernel_rfl); (case zN => k_asm); (case zl => rfl); (case zm => k_mem); (case zd => k_asm); k_whole) | (name_kind "globalImplicit"; first | (refine' nameX_K ?zF ?zX ?zT ?ze ?_ ?za ?zb ?zc; (case za => kernel_rfl); (case zb => kernel_rfl); (case zc => kernel_rfl); (case zF => k_asm); (case zX => k_asm); (case zT => k_asm); (case ze => k_is); k_whole) | (refine' nameX_B ?zF ?zX ?zT ?ze ?zv ?zn ?_ ?za ?zb ?zc; (case za => kernel_rfl); (case zb => kernel_rfl); (case zc => kernel_rfl); (case zF => k_asm); (case zX => k_asm); (case zT => k_asm); (case ze => k_is); (case zv => boot_fast); (case zn => decide); k_whole))))
  k_with "ite" => (k_closed; first | (with_reducible refine ite_pos ?zi ?_; (case zi => decide +kernel)) | (with_reducible refine ite_neg ?zi ?_; (case zi => decide +kernel)))
  k_with "getAttr ref" => (k_here; k_dflt (refine' get_own ?zF ?zX ?zI ?zg ?zh ?za ?zn ?zl ?zv ?_; (case zF => k_asm); (case zX => k_asm); (case zI => k_inst); (case zl => k_get); (case zg => k_is); (case zh => k_is); (case za => k_is); (case zn => k_is); (case zv => k_handed); k_whole))
  k_with "spliced" => ((with_reducible show wpAny _ _ (spliced (backTo _ (starEach (_ :: _) _))) _ _ _); k_dflt (refine args_cons ?_))
  k_with "newList" => (k_here; k_dflt (refine' newList_K ?zF ?zN ?_ ?zs; (case zF => k_asm); (case zN => k_asm); (case zs => exact Nat.le_of_ble_eq_true rfl); k_whole); k_extra "M46a0")
  k_with "MY ltp" => ((with_reducible rename @LT.lt Nat _ _ _ ∧ _ => kL); first | (with_reducible first | exact kL.1 | exact kL.2 | exact kL.2.1 | exact kL.2.2 | exact kL.2.2.1 | exact kL.2.2.2 | exact kL.2.2.2.1 | exact kL.2.2.2.2 | exact kL.2.2.2.2.1 | exact kL.2.2.2.2.2 | exact kL.2.2.2.2.2.1 | exact kL.2.2.2.2.2.2 | exact kL.2.2.2.2.2.2.1 | exact kL.2.2.2.2.2.2.2 | exact kL.2.2.2.2.2.2.2.1 | exact kL.2.2.2.2.2.2.2.2 | exact kL.2.2.2.2.2.2.2.2.1 | exact kL.2.2.2.2.2.2.2.2.2 | exact kL.2.2.2.2.2.2.2.2.2.1 | exact kL.2.2.2.2.2.2.2.2.2.2 | exact kL.2.2.2.2.2.2.2.2.2.2.1 | exact kL.2.2.2.2.2.2.2.2.2.2.2 | exact kL.2.2.2.2.2.2.2.2.2.2.2.1 | exact kL.2.2.2.2.2.2.2.2.2.2.2.2 | exact kL.2.2.2.2.2.2.2.2.2.2.2.2.1 | exact kL.2.2.2.2.2.2.2.2.2.2.2.2.2 | exact kL.2.2.2.2.2.2.2.2.2.2.2.2.2.1 | exact kL.2.2.2.2.2.2.2.2.2.2.2.2.2.2 | exact kL.2.2.2.2.2.2.2.2.2.2.2.2.2.2.1 | exact kL.2.2.2.2.2.2.2.2.2.2.2.2.2.2.2 | exact kL.2.2.2.2.2.2.2.2.2.2.2.2.2.2.2.1 | exact kL.2.2.2.2.2.2.2.2.2.2.2.2.2.2.2.2 | exact kL.2.2.2.2.2.2.2.2.2.2.2.2.2.2.2.2.1 | exact kL.2.2.2.2.2.2.2.2.2.2.2.2.2.2.2.2.2 | exact kL.2.2.2.2.2.2.2.2.2.2.2.2.2.2.2.2.2.1 | exact kL.2.2.2.2.2.2.2.2.2.2.2.2.2.2.2.2.2.2 | exact kL.2.2.2.2.2.2.2.2.2.2.2.2.2.2.2.2.2.2.1 | exact kL.2.2.2.2.2.2.2.2.2.2.2.2.2.2.2.2.2.2.2 | exact kL.2.2.2.2.2.2.2.2.2.2.2.2.2.2.2.2.2.2.2.1 | exact kL.2.2.2.2.2.2.2.2.2.2.2.2.2.2.2.2.2.2.2.2 | exact kL.2.2.2.2.2.2.2.2.2.2.2.2.2.2.2.2.2.2.2.2.1 | exact kL.2.2.2.2.2.2.2.2.2.2.2.2.2.2.2.2.2.2.2.2.2 | exact kL.2.2.2.2.2.2.2.2.2.2.2.2.2.2.2.2.2.2.2.2.2.1 | exact kL.2.2.2.2.2.2.2.2.2.2.2.2.2.2.2.2.2.2.2.2.2.2 | exact kL.2.2.2.2.2.2.2.2.2.2.2.2.2.2.2.2.2.2.2.2.2.2.1 | exact kL.2.2.2.2.2.2.2.2.2.2.2.2.2.2.2.2.2.2.2.2.2.2.2) | (clear kL; k_extra "MY ltp"))
  k_with "MY ne" => first | (refine Nat.ne_of_gt ?_; k_extra "MY ltp") | (refine Nat.ne_of_lt ?_; k_extra "MY ltp")
  k_with "newTuple" => (k_here; k_dflt (refine' kup_newTuple ?zF ?zN ?_ ?zs; (case zF => k_asm); (case zN => k_asm); (case zs => kmk_size)); k_extra "M46a0")
  k_with "MY ltq" => first | with_reducible assumption | k_extra "MY ltp" | ((with_reducible refine' Nat.lt_trans ?_ ?klb); (case klb => with_reducible assumption); k_extra "MY ltq") | ((with_reducible refine' Nat.lt_trans ?kla ?_); (case kla => with_reducible assumption); k_extra "MY ltp") | ((with_reducible refine' Nat.lt_succ_of_lt ?_); first | with_reducible assumption | k_extra "MY ltp" | ((with_reducible refine' Nat.lt_succ_of_lt ?_); first | with_reducible assumption | k_extra "MY ltp")) | ((with_reducible refine' Mine.mem_allLt ?_ _ ?klm); (case klm => with_reducible assumption); first | with_reducible assumption | k_extra "MY ltp")
  k_with "MY lo" => first | ((with_reducible show @LT.lt Nat _ _ _); (try dsimp only); k_extra "MY ltq") | ((with_reducible show @Ne Nat _ _); (try dsimp only); first | with_reducible assumption | (refine Ne.symm ?_; with_reducible assumption) | (refine Nat.ne_of_gt ?_; k_extra "MY ltq") | (refine Nat.ne_of_lt ?_; k_extra "MY ltq")) | decide
  k_with "H mem" => first | exact List.Mem.head _ | (refine' List.Mem.tail _ ?_; k_extra "H mem") | ((fail_if_success refine' List.Mem.tail _ ?_); change (_ : Addr × Obj) ∈ (_ : List (Addr × Obj)); first | with_reducible assumption | (with_reducible refine' List.mem_append_left _ ?_; k_extra "H mem") | (with_reducible refine' List.mem_append_right _ ?_; k_extra "H mem"))
  k_with "H room" => ((try simp only [depth_under_make, depth_under_kw, depth_in1, depth_deeper, depth_caller]); (try dsimp only [ktrTop]); first | decide | ((try simp only [Nat.add_assoc, Nat.reduceAdd]); (with_reducible rename _ + _ < recursionLimit => kH); first | exact Mine.room_of kH rfl | exact Mine.room_at kH) | omega)
  k_with "H units" => ((try simp only [units_in1, units_deeper, Around.mark_units, units_caller]); (try dsimp only [ktrTop]); first | decide | ((try simp only [Nat.add_assoc, Nat.reduceAdd]); (with_reducible rename _ + _ < cLine => kH); first | exact Mine.room_of kH rfl | exact Mine.room_at kH) | omega)
  k_with "H ne" => (refine neN ?_; (try dsimp only); first | with_reducible assumption | (refine Ne.symm ?_; with_reducible assumption) | (with_reducible first | exact Nat.ne_of_lt (by assumption) | exact Nat.ne_of_gt (by assumption)) | k_extra "MY ne" | ((with_reducible rename (_ ≠ _ ∧ _ ≠ _ ∧ _ ≠ _) ∧ _ => kOff); first | (simp only [kOff, ne_eq, not_false_eq_true]; done) | (refine Ne.symm ?_; simp only [kOff, ne_eq, not_false_eq_true]; done)) | k_extra "MY lo" | omega)
  trivial
example : True := by
  k_with "MY enter" => (refine' code_def ?zk1 ?zk2 ?zk3 ?zk4 ?zk5 ?zkA ?zkF ?zkK ?zk6 ?zk7 ?zk8 ?zk9 ?zkB ?_ ?zc2 ?zc3 ?zc4 ?zc5; (case zkA => exact rfl); (case zkF => exact rfl); (case zkK => k_asm); (case zk1 => k_asm); (case zk2 => k_asm); (case zk3 => k_asm); (case zk4 => k_asm); (case zk5 => k_asm); (case zk6 => k_is); (case zk7 => k_is); (case zk8 => ktr_room); (case zk9 => first | exact BindsTo.of_eq rfl | exact binds_K (by k_in) rfl (by k_is) rfl rfl rfl); (case zc5 => decide); (case zkB => exact locs rfl); (case zc2 => exact rfl); (case zc3 => exact rfl); (case zc4 => exact rfl); k_extra "M91c7")
  k_with "MY enterC" => (refine' code_defC ?zk1 ?zk2 ?zk3 ?zk4 ?zk5 ?zkA ?zkF ?zkK ?zk6 ?zk7 ?zk8 ?zk9 ?zkB ?zkD ?_ ?zc2 ?zc3 ?zc4; (case zkA => exact rfl); (case zkF => exact rfl); (case zkK => k_asm); (case zk1 => k_asm); (case zk2 => k_asm); (case zk3 => k_asm); (case zk4 => k_asm); (case zk5 => k_asm); (case zk6 => k_is); (case zk7 => k_is); (case zk8 => ktr_room); (case zk9 => first | exact BindsTo.of_eq rfl | exact binds_K (by k_in) rfl (by k_is) rfl rfl rfl); (case zkB => exact rfl); (case zkD => decide +kernel); (case zc2 => exact rfl); (case zc3 => exact rfl); (case zc4 => exact rfl); k_extra "M289d")
  k_with "MY fn" => (refine wpAny_call ?_; k_dflt (first | k_extra "MY enter" | k_extra "MY enterC"))
  k_with "MY cls" => (k_dflt (refine' call_cls ?zq1 ?zq2 ?zq3 ?zq4 ?zq5 ?zq6 ?_; (case zq1 => k_asm); (case zq2 => k_asm); (case zq3 => k_asm); (case zq4 => k_is); (case zq5 => k_is); (case zq6 => k_is); k_extra "M274b"))
  k_with "MY sub" => repeat' (first | exact List.forall_mem_nil _ | exact Mine.sub_refl | (refine Mine.sub_cons (by k_mem) ?_) | refine Mine.sub_tail ?_)
  k_with "callWith ref" => (k_here; k_dflt (first | refine' callWith_K ?zq1 ?zq2 ?_; (case zq1 => k_asm); (case zq2 => k_is); k_whole | (refine' callWith_K0 (Frag.In.keeps ?zq1 (Fr.keep ?zqF)) ?zq2 ?_; (case zqF => k_asm); (case zq1 => k_asm); (case zq2 => k_is); k_whole) | refine' callWith_K0 ?zq1 ?zq2 ?_; (case zq1 => k_in); (case zq2 => k_is); k_whole))
  k_with "MY lt" => first | assumption | exact Mine.mem_allLt (by assumption) | (refine Mine.mem_allLt ?_; simp only [*]; done)
  k_with "call builtin:len" => (k_here; (with_reducible show wpAny _ _ (call (Value.builtin "len") [Value.ref _]) _ _ _); k_dflt (refine' len_tuple (isTup_news ?zqN ?zqm) ?zqf ?_; (case zqN => k_asm); (case zqm => k_mem); (case zqf => (simp only [List.size_toArray]; (first | k_extra "MY lo" | omega)))))
  k_with "MY tl" => repeat' (with_reducible first | exact Mine.sub_refl | exact Mine.sub_appR | refine Mine.sub_tail ?_ | refine Mine.sub_left ?_)
  k_with "MY sl" => ((try (with_reducible exact Mine.sub_refl)); (repeat' (refine Mine.sub_cons (by k_mem) ?_)); (k_extra "MY tl"))
  k_with "MY mem" => first | (with_reducible (repeat (first | assumption | exact List.Mem.head _ | (refine List.Mem.tail _ ?_) | (refine List.mem_append_right _ ?_; assumption) | (refine List.mem_append_left _ ?_))); done) | repeat (first | assumption | exact List.Mem.head _ | (refine List.Mem.tail _ ?_) | (refine List.mem_append_right _ ?_; assumption) | (refine List.mem_append_left _ ?_))
  trivial
theorem if0 {w : World} {p : Program} {loose : List Str} {mean : ExcName → Option Value} {mg mb : Str → Option Value} {f df cm mt g0 kd0 : Addr} {k1 k2 k3 k4 k5 k6 : Tok} {md wt bt : Addr} {q1 q2 q3 q4 q5 e1 e2 e3 : Tok} {ws : List Value} {wn : List Int} {g : Int} {tg : Tok} {rest : List (Addr × Obj)}
  (mf : (f, instObj 244 df) ∈ rest) (mdf : (df, dictOf [{ hash := PyData.keyHash w.params (Str.ofString "charmap"), key := .str (Str.ofString "charmap") k1, val := .ref cm }, { hash := PyData.keyHash w.params (Str.ofString "metrics"), key := .str (Str.ofString "metrics") k2, val := .ref mt }, { hash := PyData.keyHash w.params (Str.ofString "gdef"), key := .str (Str.ofString "gdef") k3, val := .ref g0 }, { hash := PyData.keyHash w.params (Str.ofString "gsub"), key := .str (Str.ofString "gsub") k4, val := .none }, { hash := PyData.keyHash w.params (Str.ofString "gpos"), key := .str (Str.ofString "gpos") k5, val := .none }, { hash := PyData.keyHash w.params (Str.ofString "kern"), key := .str (Str.ofString "kern") k6, val := .ref kd0 }] 6) ∈ rest) (mm : (mt, instObj 94 md) ∈ rest) (mmd : (md, dictOf [{ hash := PyData.keyHash w.params (Str.ofString "units"), key := .str (Str.ofString "units") q1, val := .int 16 e1 }, { hash := PyData.keyHash w.params (Str.ofString "ascent"), key := .str (Str.ofString "ascent") q2, val := .int 1 e2 }, { hash := PyData.keyHash w.params (Str.ofString "descent"), key := .str (Str.ofString "descent") q3, val := .int (-1) e3 }, { hash := PyData.keyHash w.params (Str.ofString "advances"), key := .str (Str.ofString "advances") q4, val := .ref wt }, { hash := PyData.keyHash w.params (Str.ofString "bearings"), key := .str (Str.ofString "bearings") q5, val := .ref bt }] 5) ∈ rest) (mw : (wt, tup ws) ∈ rest) (wi : IntsAre ws wn) (w0 : 0 < wn.length) (w4 : wn.length ≤ 4)
  : ∀ (dp un : Nat) (gd : Option (List Code)) (cn : Str) (cs : Scope) (a : Addr) (ccd : Value) (cl : List (Str × Addr)) (outer : List Env) (A₀ : Around) (base h₀ : Heap) (L : Addr) (m : Str → Option Value) (s : Shared) (Q E : Value → Shared → Prop)
  (_B : Below A₀ base outer h₀) (_F : Fr h₀ L s.heap m) (_X : (hd.heap_39 w.params).In h₀) (_N : News h₀ L s.heap (rest)) (_T : Top p loose mean mg mb h₀) (_hk : cs.kind = .function)
  (_hd : dp + 12 < recursionLimit) (_hu : un + 100 < cLine)
  (_hret : ∀ h' tk', Fr h₀ L h' m → News h₀ L h' rest → Q (.bool (decide (0 ≤ g ∧ g < (wn.length : Int)))) { s with heap := h', toks := tk' }) ,
  wpAny (model PySem.Challenge.rw_nu0220_01.row.prog w) (ktrTop dp un gd cn cs L a ccd cl outer) (call (.ref 290) [.ref f, .int g tg]) Q E s := by
  k_fill
  intro dp un gd cn cs a ccd cl outer A₀ base h₀ L m s Q E B F X N T hk hd hu hret
  have NN := news_sub N (sub_cons mw sub_refl)
  have hwl := wi.length
  have hws : ws.toArray.size = wn.length := by rw [List.size_toArray, hwl]
  clear N
  have key : ∀ (b : Bool) h' tk', b = decide (0 ≤ g ∧ g < (wn.length : Int)) → Fr h₀ L h' m → News h₀ L h' rest → Q (.bool b) { s with heap := h', toks := tk' } := fun b h' tk' e F N => by rw [e]; exact hret h' tk' F N
  clear hret
  k_extra "MY fn"
  k_steps
  all_goals refine key _ _ _ ?_ (by k_asm) (news_sub (by k_asm) (sub_tail sub_refl))
  all_goals (rw [Bool.eq_iff_iff, decide_eq_true_iff, decide_eq_true_iff])
  · rw [List.size_toArray, hwl]
    (first | k_extra "MY lo" | omega)
  · (first | k_extra "MY lo" | omega)

theorem ga0 {w : World} {p : Program} {loose : List Str} {mean : ExcName → Option Value} {mg mb : Str → Option Value} {f df cm mt g0 kd0 : Addr} {k1 k2 k3 k4 k5 k6 : Tok} {md wt bt : Addr} {q1 q2 q3 q4 q5 e1 e2 e3 : Tok} {ws : List Value} {wn : List Int} {g : Int} {tg : Tok} {rest : List (Addr × Obj)}
  (mf : (f, instObj 244 df) ∈ rest) (mdf : (df, dictOf [{ hash := PyData.keyHash w.params (Str.ofString "charmap"), key := .str (Str.ofString "charmap") k1, val := .ref cm }, { hash := PyData.keyHash w.params (Str.ofString "metrics"), key := .str (Str.ofString "metrics") k2, val := .ref mt }, { hash := PyData.keyHash w.params (Str.ofString "gdef"), key := .str (Str.ofString "gdef") k3, val := .ref g0 }, { hash := PyData.keyHash w.params (Str.ofString "gsub"), key := .str (Str.ofString "gsub") k4, val := .none }, { hash := PyData.keyHash w.params (Str.ofString "gpos"), key := .str (Str.ofString "gpos") k5, val := .none }, { hash := PyData.keyHash w.params (Str.ofString "kern"), key := .str (Str.ofString "kern") k6, val := .ref kd0 }] 6) ∈ rest) (mm : (mt, instObj 94 md) ∈ rest) (mmd : (md, dictOf [{ hash := PyData.keyHash w.params (Str.ofString "units"), key := .str (Str.ofString "units") q1, val := .int 16 e1 }, { hash := PyData.keyHash w.params (Str.ofString "ascent"), key := .str (Str.ofString "ascent") q2, val := .int 1 e2 }, { hash := PyData.keyHash w.params (Str.ofString "descent"), key := .str (Str.ofString "descent") q3, val := .int (-1) e3 }, { hash := PyData.keyHash w.params (Str.ofString "advances"), key := .str (Str.ofString "advances") q4, val := .ref wt }, { hash := PyData.keyHash w.params (Str.ofString "bearings"), key := .str (Str.ofString "bearings") q5, val := .ref bt }] 5) ∈ rest) (mw : (wt, tup ws) ∈ rest) (wi : IntsAre ws wn) (w0 : 0 < wn.length) (w4 : wn.length ≤ 4)
  : ∀ (dp un : Nat) (gd : Option (List Code)) (cn : Str) (cs : Scope) (a : Addr) (ccd : Value) (cl : List (Str × Addr)) (outer : List Env) (A₀ : Around) (base h₀ : Heap) (L : Addr) (m : Str → Option Value) (s : Shared) (Q E : Value → Shared → Prop)
  (_B : Below A₀ base outer h₀) (_F : Fr h₀ L s.heap m) (_X : (hd.heap_39 w.params).In h₀) (_N : News h₀ L s.heap (rest)) (_T : Top p loose mean mg mb h₀) (_hk : cs.kind = .function)
  (_hd : dp + 12 < recursionLimit) (_hu : un + 100 < cLine)
  (_hret : ∀ x t h' tk', (0 ≤ g → g < (wn.length : Int) → wn[g.toNat]? = some x) → (¬ (0 ≤ g ∧ g < (wn.length : Int)) → x = 0) → Fr h₀ L h' m → News h₀ L h' rest → Q (.int x t) { s with heap := h', toks := tk' }) ,
  wpAny (model PySem.Challenge.rw_nu0220_01.row.prog w) (ktrTop dp un gd cn cs L a ccd cl outer) (call (.ref 276) [.ref f, .int g tg]) Q E s := by
  k_fill
  intro dp un gd cn cs a ccd cl outer A₀ base h₀ L m s Q E B F X N T hk hd hu hret
  have NN := news_sub N (sub_cons mw sub_refl)
  have hwl := wi.length
  have hws : ws.toArray.size = wn.length := by rw [List.size_toArray, hwl]
  clear N
  k_extra "MY fn"
  k_steps
  all_goals refine hret _ _ _ _ ?_ ?_ (by k_asm) (news_sub (by k_asm) (sub_tail sub_refl))
  · intro a b
    rw [List.getD_eq_getElem?_getD, List.getElem?_eq_getElem (by (first | k_extra "MY lo" | omega))]; rfl
  · intro h; exfalso; (first | k_extra "MY lo" | omega)
  · intro a b; exfalso; (first | k_extra "MY lo" | omega)
  · intro h; rfl
  · intro a b; exfalso; (first | k_extra "MY lo" | omega)
  · intro h; rfl

theorem if1 {w : World} {p : Program} {loose : List Str} {mean : ExcName → Option Value} {mg mb : Str → Option Value} {f df cm mt g0 kd0 : Addr} {k1 k2 k3 k4 k5 k6 : Tok} {md wt bt : Addr} {q1 q2 q3 q4 q5 e1 e2 e3 : Tok} {ws : List Value} {wn : List Int} {g : Int} {tg : Tok} {rest : List (Addr × Obj)}
  (mf : (f, instObj 244 df) ∈ rest) (mdf : (df, dictOf [{ hash := PyData.keyHash w.params (Str.ofString "charmap"), key := .str (Str.ofString "charmap") k1, val := .ref cm }, { hash := PyData.keyHash w.params (Str.ofString "metrics"), key := .str (Str.ofString "metrics") k2, val := .ref mt }, { hash := PyData.keyHash w.params (Str.ofString "gdef"), key := .str (Str.ofString "gdef") k3, val := .ref g0 }, { hash := PyData.keyHash w.params (Str.ofString "gsub"), key := .str (Str.ofString "gsub") k4, val := .none }, { hash := PyData.keyHash w.params (Str.ofString "gpos"), key := .str (Str.ofString "gpos") k5, val := .none }, { hash := PyData.keyHash w.params (Str.ofString "kern"), key := .str (Str.ofString "kern") k6, val := .ref kd0 }] 6) ∈ rest) (mm : (mt, instObj 94 md) ∈ rest) (mmd : (md, dictOf [{ hash := PyData.keyHash w.params (Str.ofString "units"), key := .str (Str.ofString "units") q1, val := .int 16 e1 }, { hash := PyData.keyHash w.params (Str.ofString "ascent"), key := .str (Str.ofString "ascent") q2, val := .int 1 e2 }, { hash := PyData.keyHash w.params (Str.ofString "descent"), key := .str (Str.ofString "descent") q3, val := .int (-1) e3 }, { hash := PyData.keyHash w.params (Str.ofString "advances"), key := .str (Str.ofString "advances") q4, val := .ref wt }, { hash := PyData.keyHash w.params (Str.ofString "bearings"), key := .str (Str.ofString "bearings") q5, val := .ref bt }] 5) ∈ rest) (mw : (wt, tup ws) ∈ rest) (wi : IntsAre ws wn) (w0 : 0 < wn.length) (w4 : wn.length ≤ 4) (hb : 0 ≤ g ∧ g < (wn.length : Int))
  : ∀ (dp un : Nat) (gd : Option (List Code)) (cn : Str) (cs : Scope) (a : Addr) (ccd : Value) (cl : List (Str × Addr)) (outer : List Env) (A₀ : Around) (base h₀ : Heap) (L : Addr) (m : Str → Option Value) (s : Shared) (Q E : Value → Shared → Prop)
  (_B : Below A₀ base outer h₀) (_F : Fr h₀ L s.heap m) (_X : (hd.heap_39 w.params).In h₀) (_N : News h₀ L s.heap (rest)) (_T : Top p loose mean mg mb h₀) (_hk : cs.kind = .function)
  (_hd : dp + 12 < recursionLimit) (_hu : un + 100 < cLine)
  (_hret : ∀ h' tk', Fr h₀ L h' m → News h₀ L h' rest → Q (.bool true) { s with heap := h', toks := tk' }) ,
  wpAny (model PySem.Challenge.rw_nu0220_01.row.prog w) (ktrTop dp un gd cn cs L a ccd cl outer) (call (.ref 290) [.ref f, .int g tg]) Q E s := by
  k_fill
  intro dp un gd cn cs a ccd cl outer A₀ base h₀ L m s Q E B F X N T hk hd hu hret
  refine if0 mf mdf mm mmd mw wi w0 w4 _ _ _ _ _ _ _ _ _ _ _ _ _ _ _ _ _ B F X N T hk hd hu ?_
  intro h' tk' F' N'
  rw [decide_eq_true hb]
  exact hret h' tk' F' N'

theorem if2 {w : World} {p : Program} {loose : List Str} {mean : ExcName → Option Value} {mg mb : Str → Option Value} {f df cm mt g0 kd0 : Addr} {k1 k2 k3 k4 k5 k6 : Tok} {md wt bt : Addr} {q1 q2 q3 q4 q5 e1 e2 e3 : Tok} {ws : List Value} {wn : List Int} {g : Int} {tg : Tok} {rest : List (Addr × Obj)}
  (mf : (f, instObj 244 df) ∈ rest) (mdf : (df, dictOf [{ hash := PyData.keyHash w.params (Str.ofString "charmap"), key := .str (Str.ofString "charmap") k1, val := .ref cm }, { hash := PyData.keyHash w.params (Str.ofString "metrics"), key := .str (Str.ofString "metrics") k2, val := .ref mt }, { hash := PyData.keyHash w.params (Str.ofString "gdef"), key := .str (Str.ofString "gdef") k3, val := .ref g0 }, { hash := PyData.keyHash w.params (Str.ofString "gsub"), key := .str (Str.ofString "gsub") k4, val := .none }, { hash := PyData.keyHash w.params (Str.ofString "gpos"), key := .str (Str.ofString "gpos") k5, val := .none }, { hash := PyData.keyHash w.params (Str.ofString "kern"), key := .str (Str.ofString "kern") k6, val := .ref kd0 }] 6) ∈ rest) (mm : (mt, instObj 94 md) ∈ rest) (mmd : (md, dictOf [{ hash := PyData.keyHash w.params (Str.ofString "units"), key := .str (Str.ofString "units") q1, val := .int 16 e1 }, { hash := PyData.keyHash w.params (Str.ofString "ascent"), key := .str (Str.ofString "ascent") q2, val := .int 1 e2 }, { hash := PyData.keyHash w.params (Str.ofString "descent"), key := .str (Str.ofString "descent") q3, val := .int (-1) e3 }, { hash := PyData.keyHash w.params (Str.ofString "advances"), key := .str (Str.ofString "advances") q4, val := .ref wt }, { hash := PyData.keyHash w.params (Str.ofString "bearings"), key := .str (Str.ofString "bearings") q5, val := .ref bt }] 5) ∈ rest) (mw : (wt, tup ws) ∈ rest) (wi : IntsAre ws wn) (w0 : 0 < wn.length) (w4 : wn.length ≤ 4) (hb : ¬ (0 ≤ g ∧ g < (wn.length : Int)))
  : ∀ (dp un : Nat) (gd : Option (List Code)) (cn : Str) (cs : Scope) (a : Addr) (ccd : Value) (cl : List (Str × Addr)) (outer : List Env) (A₀ : Around) (base h₀ : Heap) (L : Addr) (m : Str → Option Value) (s : Shared) (Q E : Value → Shared → Prop)
  (_B : Below A₀ base outer h₀) (_F : Fr h₀ L s.heap m) (_X : (hd.heap_39 w.params).In h₀) (_N : News h₀ L s.heap (rest)) (_T : Top p loose mean mg mb h₀) (_hk : cs.kind = .function)
  (_hd : dp + 12 < recursionLimit) (_hu : un + 100 < cLine)
  (_hret : ∀ h' tk', Fr h₀ L h' m → News h₀ L h' rest → Q (.bool false) { s with heap := h', toks := tk' }) ,
  wpAny (model PySem.Challenge.rw_nu0220_01.row.prog w) (ktrTop dp un gd cn cs L a ccd cl outer) (call (.ref 290) [.ref f, .int g tg]) Q E s := by
  k_fill
  intro dp un gd cn cs a ccd cl outer A₀ base h₀ L m s Q E B F X N T hk hd hu hret
  refine if0 mf mdf mm mmd mw wi w0 w4 _ _ _ _ _ _ _ _ _ _ _ _ _ _ _ _ _ B F X N T hk hd hu ?_
  intro h' tk' F' N'
  rw [decide_eq_false hb]
  exact hret h' tk' F' N'

theorem ga1 {w : World} {p : Program} {loose : List Str} {mean : ExcName → Option Value} {mg mb : Str → Option Value} {f df cm mt g0 kd0 : Addr} {k1 k2 k3 k4 k5 k6 : Tok} {md wt bt : Addr} {q1 q2 q3 q4 q5 e1 e2 e3 : Tok} {ws : List Value} {wn : List Int} {g : Int} {tg : Tok} {rest : List (Addr × Obj)}
  (mf : (f, instObj 244 df) ∈ rest) (mdf : (df, dictOf [{ hash := PyData.keyHash w.params (Str.ofString "charmap"), key := .str (Str.ofString "charmap") k1, val := .ref cm }, { hash := PyData.keyHash w.params (Str.ofString "metrics"), key := .str (Str.ofString "metrics") k2, val := .ref mt }, { hash := PyData.keyHash w.params (Str.ofString "gdef"), key := .str (Str.ofString "gdef") k3, val := .ref g0 }, { hash := PyData.keyHash w.params (Str.ofString "gsub"), key := .str (Str.ofString "gsub") k4, val := .none }, { hash := PyData.keyHash w.params (Str.ofString "gpos"), key := .str (Str.ofString "gpos") k5, val := .none }, { hash := PyData.keyHash w.params (Str.ofString "kern"), key := .str (Str.ofString "kern") k6, val := .ref kd0 }] 6) ∈ rest) (mm : (mt, instObj 94 md) ∈ rest) (mmd : (md, dictOf [{ hash := PyData.keyHash w.params (Str.ofString "units"), key := .str (Str.ofString "units") q1, val := .int 16 e1 }, { hash := PyData.keyHash w.params (Str.ofString "ascent"), key := .str (Str.ofString "ascent") q2, val := .int 1 e2 }, { hash := PyData.keyHash w.params (Str.ofString "descent"), key := .str (Str.ofString "descent") q3, val := .int (-1) e3 }, { hash := PyData.keyHash w.params (Str.ofString "advances"), key := .str (Str.ofString "advances") q4, val := .ref wt }, { hash := PyData.keyHash w.params (Str.ofString "bearings"), key := .str (Str.ofString "bearings") q5, val := .ref bt }] 5) ∈ rest) (mw : (wt, tup ws) ∈ rest) (wi : IntsAre ws wn) (w0 : 0 < wn.length) (w4 : wn.length ≤ 4) (hb : 0 ≤ g ∧ g < (wn.length : Int))
  : ∀ (dp un : Nat) (gd : Option (List Code)) (cn : Str) (cs : Scope) (a : Addr) (ccd : Value) (cl : List (Str × Addr)) (outer : List Env) (A₀ : Around) (base h₀ : Heap) (L : Addr) (m : Str → Option Value) (s : Shared) (Q E : Value → Shared → Prop)
  (_B : Below A₀ base outer h₀) (_F : Fr h₀ L s.heap m) (_X : (hd.heap_39 w.params).In h₀) (_N : News h₀ L s.heap (rest)) (_T : Top p loose mean mg mb h₀) (_hk : cs.kind = .function)
  (_hd : dp + 12 < recursionLimit) (_hu : un + 100 < cLine)
  (_hret : ∀ t h' tk', Fr h₀ L h' m → News h₀ L h' rest → Q (.int (wn.getD g.toNat 0) t) { s with heap := h', toks := tk' }) ,
  wpAny (model PySem.Challenge.rw_nu0220_01.row.prog w) (ktrTop dp un gd cn cs L a ccd cl outer) (call (.ref 276) [.ref f, .int g tg]) Q E s := by
  k_fill
  intro dp un gd cn cs a ccd cl outer A₀ base h₀ L m s Q E B F X N T hk hd hu hret
  refine ga0 mf mdf mm mmd mw wi w0 w4 _ _ _ _ _ _ _ _ _ _ _ _ _ _ _ _ _ B F X N T hk hd hu ?_
  intro x t h' tk' xa xb F' N'
  have e := xa hb.1 hb.2
  rw [show x = wn.getD g.toNat 0 from by rw [List.getD_eq_getElem?_getD, e]; rfl]
  exact hret t h' tk' F' N'

theorem ga2 {w : World} {p : Program} {loose : List Str} {mean : ExcName → Option Value} {mg mb : Str → Option Value} {f df cm mt g0 kd0 : Addr} {k1 k2 k3 k4 k5 k6 : Tok} {md wt bt : Addr} {q1 q2 q3 q4 q5 e1 e2 e3 : Tok} {ws : List Value} {wn : List Int} {g : Int} {tg : Tok} {rest : List (Addr × Obj)}
  (mf : (f, instObj 244 df) ∈ rest) (mdf : (df, dictOf [{ hash := PyData.keyHash w.params (Str.ofString "charmap"), key := .str (Str.ofString "charmap") k1, val := .ref cm }, { hash := PyData.keyHash w.params (Str.ofString "metrics"), key := .str (Str.ofString "metrics") k2, val := .ref mt }, { hash := PyData.keyHash w.params (Str.ofString "gdef"), key := .str (Str.ofString "gdef") k3, val := .ref g0 }, { hash := PyData.keyHash w.params (Str.ofString "gsub"), key := .str (Str.ofString "gsub") k4, val := .none }, { hash := PyData.keyHash w.params (Str.ofString "gpos"), key := .str (Str.ofString "gpos") k5, val := .none }, { hash := PyData.keyHash w.params (Str.ofString "kern"), key := .str (Str.ofString "kern") k6, val := .ref kd0 }] 6) ∈ rest) (mm : (mt, instObj 94 md) ∈ rest) (mmd : (md, dictOf [{ hash := PyData.keyHash w.params (Str.ofString "units"), key := .str (Str.ofString "units") q1, val := .int 16 e1 }, { hash := PyData.keyHash w.params (Str.ofString "ascent"), key := .str (Str.ofString "ascent") q2, val := .int 1 e2 }, { hash := PyData.keyHash w.params (Str.ofString "descent"), key := .str (Str.ofString "descent") q3, val := .int (-1) e3 }, { hash := PyData.keyHash w.params (Str.ofString "advances"), key := .str (Str.ofString "advances") q4, val := .ref wt }, { hash := PyData.keyHash w.params (Str.ofString "bearings"), key := .str (Str.ofString "bearings") q5, val := .ref bt }] 5) ∈ rest) (mw : (wt, tup ws) ∈ rest) (wi : IntsAre ws wn) (w0 : 0 < wn.length) (w4 : wn.length ≤ 4) (hb : ¬ (0 ≤ g ∧ g < (wn.length : Int)))
  : ∀ (dp un : Nat) (gd : Option (List Code)) (cn : Str) (cs : Scope) (a : Addr) (ccd : Value) (cl : List (Str × Addr)) (outer : List Env) (A₀ : Around) (base h₀ : Heap) (L : Addr) (m : Str → Option Value) (s : Shared) (Q E : Value → Shared → Prop)
  (_B : Below A₀ base outer h₀) (_F : Fr h₀ L s.heap m) (_X : (hd.heap_39 w.params).In h₀) (_N : News h₀ L s.heap (rest)) (_T : Top p loose mean mg mb h₀) (_hk : cs.kind = .function)
  (_hd : dp + 12 < recursionLimit) (_hu : un + 100 < cLine)
  (_hret : ∀ t h' tk', Fr h₀ L h' m → News h₀ L h' rest → Q (.int 0 t) { s with heap := h', toks := tk' }) ,
  wpAny (model PySem.Challenge.rw_nu0220_01.row.prog w) (ktrTop dp un gd cn cs L a ccd cl outer) (call (.ref 276) [.ref f, .int g tg]) Q E s := by
  k_fill
  intro dp un gd cn cs a ccd cl outer A₀ base h₀ L m s Q E B F X N T hk hd hu hret
  refine ga0 mf mdf mm mmd mw wi w0 w4 _ _ _ _ _ _ _ _ _ _ _ _ _ _ _ _ _ B F X N T hk hd hu ?_
  intro x t h' tk' xa xb F' N'
  rw [show x = 0 from xb hb]
  exact hret t h' tk' F' N'
example : True ∧ True := by w_top off; first | (walk1; done) | exact ⟨trivial, trivial⟩
example : True := by
  k_with_none
  k_with "eval Name" => (k_here; (with_reducible show wpAny _ _ (eval (Expr.Name _ _) (compEnvC _ _ _ _)) _ _ _); k_dflt (first | (name_kind "local"; refine' LCgL.ld_own ?zN ?zm ?zC ?zx ?_ ?zk ?zl ?zd; (case zk => kernel_rfl); (case zl => kernel_rfl); (case zd => kernel_rfl); (case zN => k_asm); (case zm => k_mem); (case zC => assumption); (case zx => assumption); k_whole) | (name_kind "globalImplicit"; first | (refine' LCgL.ld_global ?zF ?zX ?zT ?ze ?_ ?zg ?zk ?zl ?zd; (case zg => kernel_rfl); (case zk => kernel_rfl); (case zl => kernel_rfl); (case zd => kernel_rfl); (case zF => k_asm); (case zX => k_asm); (case zT => k_asm); (case ze => k_is); k_whole) | (refine' LCgL.ld_built ?zF ?zX ?zT ?ze ?zv ?zn ?_ ?zg ?zb ?zk ?zl ?zd; (case zg => kernel_rfl); (case zb => kernel_rfl); (case zk => kernel_rfl); (case zl => kernel_rfl); (case zd => kernel_rfl); (case zF => k_asm); (case zX => k_asm); (case zT => k_asm); (case ze => k_is); (case zv => boot_fast); (case zn => decide); k_whole))))
  k_with "eval Name" => (k_here; (fail_if_success (with_reducible show wpAny _ _ (eval (Expr.Name _ _) (compEnvC _ _ _ _)) _ _ _)); k_dflt (first | (name_kind "local"; refine' nameX_L ?zF ?zv ?_ ?za ?zb ?zc; (case zF => k_asm); (case za => kernel_rfl); (case zb => kernel_rfl); (case zc => kernel_rfl); (case zv => rfl); k_whole) | (name_kind "cell"; refine' nameX_C ?zN ?zl ?zm ?zd ?_ ?za ?zb ?zc; (case za => kernel_rfl); (case zb => kernel_rfl); (case zc => kernel_rfl); (case zN => k_asm); (case zl => rfl); (case zm => k_mem); (case zd => k_asm); k_whole) | (name_kind "globalImplicit"; first | (refine' nameX_K ?zF ?zX ?zT ?ze ?_ ?za ?zb ?zc; (case za => kernel_rfl); (case zb => kernel_rfl); (case zc => kernel_rfl); (case zF => k_asm); (case zX => k_asm); (case zT => k_asm); (case ze => k_is); k_whole) | (refine' nameX_B ?zF ?zX ?zT ?ze ?zv ?zn ?_ ?za ?zb ?zc; (case za => kernel_rfl); (case zb => kernel_rfl); (case zc => kernel_rfl); (case zF => k_asm); (case zX => k_asm); (case zT => k_asm); (case ze => k_is); (case zv => boot_fast); (case zn => decide); k_whole))))
  k_with "ite" => (k_closed; first | (with_reducible refine ite_pos ?zi ?_; (case zi => decide +kernel)) | (with_reducible refine ite_neg ?zi ?_; (case zi => decide +kernel)))
  k_with "getAttr ref" => (k_here; k_dflt (refine' get_own ?zF ?zX ?zI ?zg ?zh ?za ?zn ?zl ?zv ?_; (case zF => k_asm); (case zX => k_asm); (case zI => k_inst); (case zl => k_get); (case zg => k_is); (case zh => k_is); (case za => k_is); (case zn => k_is); (case zv => k_handed); k_whole))
  k_with "spliced" => ((with_reducible show wpAny _ _ (spliced (backTo _ (starEach (_ :: _) _))) _ _ _); k_dflt (refine args_cons ?_))
  k_with "newList" => (k_here; k_dflt (refine' newList_K ?zF ?zN ?_ ?zs; (case zF => k_asm); (case zN => k_asm); (case zs => exact Nat.le_of_ble_eq_true rfl); k_whole); k_extra "M46a0")
  k_with "MY ltp" => ((with_reducible rename @LT.lt Nat _ _ _ ∧ _ => kL); first | (with_reducible first | exact kL.1 | exact kL.2 | exact kL.2.1 | exact kL.2.2 | exact kL.2.2.1 | exact kL.2.2.2 | exact kL.2.2.2.1 | exact kL.2.2.2.2 | exact kL.2.2.2.2.1 | exact kL.2.2.2.2.2 | exact kL.2.2.2.2.2.1 | exact kL.2.2.2.2.2.2 | exact kL.2.2.2.2.2.2.1 | exact kL.2.2.2.2.2.2.2 | exact kL.2.2.2.2.2.2.2.1 | exact kL.2.2.2.2.2.2.2.2 | exact kL.2.2.2.2.2.2.2.2.1 | exact kL.2.2.2.2.2.2.2.2.2 | exact kL.2.2.2.2.2.2.2.2.2.1 | exact kL.2.2.2.2.2.2.2.2.2.2 | exact kL.2.2.2.2.2.2.2.2.2.2.1 | exact kL.2.2.2.2.2.2.2.2.2.2.2 | exact kL.2.2.2.2.2.2.2.2.2.2.2.1 | exact kL.2.2.2.2.2.2.2.2.2.2.2.2 | exact kL.2.2.2.2.2.2.2.2.2.2.2.2.1 | exact kL.2.2.2.2.2.2.2.2.2.2.2.2.2 | exact kL.2.2.2.2.2.2.2.2.2.2.2.2.2.1 | exact kL.2.2.2.2.2.2.2.2.2.2.2.2.2.2 | exact kL.2.2.2.2.2.2.2.2.2.2.2.2.2.2.1 | exact kL.2.2.2.2.2.2.2.2.2.2.2.2.2.2.2 | exact kL.2.2.2.2.2.2.2.2.2.2.2.2.2.2.2.1 | exact kL.2.2.2.2.2.2.2.2.2.2.2.2.2.2.2.2 | exact kL.2.2.2.2.2.2.2.2.2.2.2.2.2.2.2.2.1 | exact kL.2.2.2.2.2.2.2.2.2.2.2.2.2.2.2.2.2 | exact kL.2.2.2.2.2.2.2.2.2.2.2.2.2.2.2.2.2.1 | exact kL.2.2.2.2.2.2.2.2.2.2.2.2.2.2.2.2.2.2 | exact kL.2.2.2.2.2.2.2.2.2.2.2.2.2.2.2.2.2.2.1 | exact kL.2.2.2.2.2.2.2.2.2.2.2.2.2.2.2.2.2.2.2 | exact kL.2.2.2.2.2.2.2.2.2.2.2.2.2.2.2.2.2.2.2.1 | exact kL.2.2.2.2.2.2.2.2.2.2.2.2.2.2.2.2.2.2.2.2 | exact kL.2.2.2.2.2.2.2.2.2.2.2.2.2.2.2.2.2.2.2.2.1 | exact kL.2.2.2.2.2.2.2.2.2.2.2.2.2.2.2.2.2.2.2.2.2 | exact kL.2.2.2.2.2.2.2.2.2.2.2.2.2.2.2.2.2.2.2.2.2.1 | exact kL.2.2.2.2.2.2.2.2.2.2.2.2.2.2.2.2.2.2.2.2.2.2 | exact kL.2.2.2.2.2.2.2.2.2.2.2.2.2.2.2.2.2.2.2.2.2.2.1 | exact kL.2.2.2.2.2.2.2.2.2.2.2.2.2.2.2.2.2.2.2.2.2.2.2) | (clear kL; k_extra "MY ltp"))
  k_with "MY ne" => first | (refine Nat.ne_of_gt ?_; k_extra "MY ltp") | (refine Nat.ne_of_lt ?_; k_extra "MY ltp")
  k_with "newTuple" => (k_here; k_dflt (refine' kup_newTuple ?zF ?zN ?_ ?zs; (case zF => k_asm); (case zN => k_asm); (case zs => kmk_size)); k_extra "M46a0")
  k_with "MY ltq" => first | with_reducible assumption | k_extra "MY ltp" | ((with_reducible refine' Nat.lt_trans ?_ ?klb); (case klb => with_reducible assumption); k_extra "MY ltq") | ((with_reducible refine' Nat.lt_trans ?kla ?_); (case kla => with_reducible assumption); k_extra "MY ltp") | ((with_reducible refine' Nat.lt_succ_of_lt ?_); first | with_reducible assumption | k_extra "MY ltp" | ((with_reducible refine' Nat.lt_succ_of_lt ?_); first | with_reducible assumption | k_extra "MY ltp")) | ((with_reducible refine' Mine.mem_allLt ?_ _ ?klm); (case klm => with_reducible assumption); first | with_reducible assumption | k_extra "MY ltp")
  k_with "MY lo" => first | ((with_reducible show @LT.lt Nat _ _ _); (try dsimp only); k_extra "MY ltq") | ((with_reducible show @Ne Nat _ _); (try dsimp only); first | with_reducible assumption | (refine Ne.symm ?_; with_reducible assumption) | (refine Nat.ne_of_gt ?_; k_extra "MY ltq") | (refine Nat.ne_of_lt ?_; k_extra "MY ltq")) | decide
  k_with "H mem" => first | exact List.Mem.head _ | (refine' List.Mem.tail _ ?_; k_extra "H mem") | ((fail_if_success refine' List.Mem.tail _ ?_); change (_ : Addr × Obj) ∈ (_ : List (Addr × Obj)); first | with_reducible assumption | (with_reducible refine' List.mem_append_left _ ?_; k_extra "H mem") | (with_reducible refine' List.mem_append_right _ ?_; k_extra "H mem"))
  k_with "H room" => ((try simp only [depth_under_make, depth_under_kw, depth_in1, depth_deeper, depth_caller]); (try dsimp only [ktrTop]); first | decide | ((try simp only [Nat.add_assoc, Nat.reduceAdd]); (with_reducible rename _ + _ < recursionLimit => kH); first | exact Mine.room_of kH rfl | exact Mine.room_at kH) | omega)
  k_with "H units" => ((try simp only [units_in1, units_deeper, Around.mark_units, units_caller]); (try dsimp only [ktrTop]); first | decide | ((try simp only [Nat.add_assoc, Nat.reduceAdd]); (with_reducible rename _ + _ < cLine => kH); first | exact Mine.room_of kH rfl | exact Mine.room_at kH) | omega)
  k_with "H ne" => (refine neN ?_; (try dsimp only); first | with_reducible assumption | (refine Ne.symm ?_; with_reducible assumption) | (with_reducible first | exact Nat.ne_of_lt (by assumption) | exact Nat.ne_of_gt (by assumption)) | k_extra "MY ne" | ((with_reducible rename (_ ≠ _ ∧ _ ≠ _ ∧ _ ≠ _) ∧ _ => kOff); first | (simp only [kOff, ne_eq, not_false_eq_true]; done) | (refine Ne.symm ?_; simp only [kOff, ne_eq, not_false_eq_true]; done)) | k_extra "MY lo" | omega)
  trivial
example : True := by
  k_with "MY enter" => (refine' code_def ?zk1 ?zk2 ?zk3 ?zk4 ?zk5 ?zkA ?zkF ?zkK ?zk6 ?zk7 ?zk8 ?zk9 ?zkB ?_ ?zc2 ?zc3 ?zc4 ?zc5; (case zkA => exact rfl); (case zkF => exact rfl); (case zkK => k_asm); (case zk1 => k_asm); (case zk2 => k_asm); (case zk3 => k_asm); (case zk4 => k_asm); (case zk5 => k_asm); (case zk6 => k_is); (case zk7 => k_is); (case zk8 => ktr_room); (case zk9 => first | exact BindsTo.of_eq rfl | exact binds_K (by k_in) rfl (by k_is) rfl rfl rfl); (case zc5 => decide); (case zkB => exact locs rfl); (case zc2 => exact rfl); (case zc3 => exact rfl); (case zc4 => exact rfl); k_extra "M91c7")
  k_with "MY enterC" => (refine' code_defC ?zk1 ?zk2 ?zk3 ?zk4 ?zk5 ?zkA ?zkF ?zkK ?zk6 ?zk7 ?zk8 ?zk9 ?zkB ?zkD ?_ ?zc2 ?zc3 ?zc4; (case zkA => exact rfl); (case zkF => exact rfl); (case zkK => k_asm); (case zk1 => k_asm); (case zk2 => k_asm); (case zk3 => k_asm); (case zk4 => k_asm); (case zk5 => k_asm); (case zk6 => k_is); (case zk7 => k_is); (case zk8 => ktr_room); (case zk9 => first | exact BindsTo.of_eq rfl | exact binds_K (by k_in) rfl (by k_is) rfl rfl rfl); (case zkB => exact rfl); (case zkD => decide +kernel); (case zc2 => exact rfl); (case zc3 => exact rfl); (case zc4 => exact rfl); k_extra "M289d")
  k_with "MY fn" => (refine wpAny_call ?_; k_dflt (first | k_extra "MY enter" | k_extra "MY enterC"))
  k_with "MY cls" => (k_dflt (refine' call_cls ?zq1 ?zq2 ?zq3 ?zq4 ?zq5 ?zq6 ?_; (case zq1 => k_asm); (case zq2 => k_asm); (case zq3 => k_asm); (case zq4 => k_is); (case zq5 => k_is); (case zq6 => k_is); k_extra "M274b"))
  k_with "MY sub" => repeat' (first | exact List.forall_mem_nil _ | exact Mine.sub_refl | (refine Mine.sub_cons (by k_mem) ?_) | refine Mine.sub_tail ?_)
  k_with "callWith ref" => (k_here; k_dflt (first | refine' callWith_K ?zq1 ?zq2 ?_; (case zq1 => k_asm); (case zq2 => k_is); k_whole | (refine' callWith_K0 (Frag.In.keeps ?zq1 (Fr.keep ?zqF)) ?zq2 ?_; (case zqF => k_asm); (case zq1 => k_asm); (case zq2 => k_is); k_whole) | refine' callWith_K0 ?zq1 ?zq2 ?_; (case zq1 => k_in); (case zq2 => k_is); k_whole))
  k_with "MY lt" => first | assumption | exact Mine.mem_allLt (by assumption) | (refine Mine.mem_allLt ?_; simp only [*]; done)
  k_with "MY tl" => repeat' (with_reducible first | exact Mine.sub_refl | exact Mine.sub_appR | refine Mine.sub_tail ?_ | refine Mine.sub_left ?_)
  k_with "MY sl" => ((try (with_reducible exact Mine.sub_refl)); (repeat' (refine Mine.sub_cons (by k_mem) ?_)); (k_extra "MY tl"))
  k_with "MY mem" => first | (with_reducible (repeat (first | assumption | exact List.Mem.head _ | (refine List.Mem.tail _ ?_) | (refine List.mem_append_right _ ?_; assumption) | (refine List.mem_append_left _ ?_))); done) | repeat (first | assumption | exact List.Mem.head _ | (refine List.Mem.tail _ ?_) | (refine List.mem_append_right _ ?_; assumption) | (refine List.mem_append_left _ ?_))
  k_with "call type:tuple" => (k_here; (with_reducible show wpAny _ _ (call (Value.type _) [Value.ref _]) _ _ _); k_dflt (refine' kde_tupleOf ?zq1 ?zq2 ?zq3 ?zq4 ?zq5 ?_; (case zq1 => k_asm); (case zq2 => k_asm); (case zq3 => exact News.isList (by k_asm) (by k_mem)); (case zq4 => first | (simp only [List.size_toArray]; (first | k_extra "MY lo" | omega)) | (simp only [List.size_toArray, List.length_map] at *; (first | k_extra "MY lo" | omega))); (case zq5 => first | exact List.toList_toArray | exact List.toList_toArray _ | exact Array.toList_toArray _)); k_extra "M46a0")
  trivial
theorem mc0 {w : World} {p : Program} {loose : List Str} {mean : ExcName → Option Value} {mg mb : Str → Option Value} {a1 a2 : Addr} {e1 e2 e3 : Tok} {ws zs : List Value} {n1 n2 : Nat} {rest : List (Addr × Obj)}
  (m1 : (a1, listOf ws.toArray n1) ∈ rest) (m2 : (a2, listOf zs.toArray n2) ∈ rest) (z1 : ws.length ≤ 4) (z2 : zs.length ≤ 4)
  : ∀ (dp un : Nat) (gd : Option (List Code)) (cn : Str) (cs : Scope) (a : Addr) (ccd : Value) (cl : List (Str × Addr)) (outer : List Env) (A₀ : Around) (base h₀ : Heap) (L : Addr) (m : Str → Option Value) (s : Shared) (Q E : Value → Shared → Prop)
  (_B : Below A₀ base outer h₀) (_F : Fr h₀ L s.heap m) (_X : (hd.heap_39 w.params).In h₀) (_N : News h₀ L s.heap (rest)) (_T : Top p loose mean mg mb h₀) (_hk : cs.kind = .function)
  (_hd : dp + 8 < recursionLimit) (_hu : un + 80 < cLine)
  (_hret : ∀ mt md wt bt q1 q2 q3 q4 q5 h' tk', Fr h₀ L h' m → News h₀ L h' ((mt, instObj 94 md) :: (md, dictOf [{ hash := PyData.keyHash w.params (Str.ofString "units"), key := .str (Str.ofString "units") q1, val := .int 16 e1 }, { hash := PyData.keyHash w.params (Str.ofString "ascent"), key := .str (Str.ofString "ascent") q2, val := .int 1 e2 }, { hash := PyData.keyHash w.params (Str.ofString "descent"), key := .str (Str.ofString "descent") q3, val := .int (-1) e3 }, { hash := PyData.keyHash w.params (Str.ofString "advances"), key := .str (Str.ofString "advances") q4, val := .ref wt }, { hash := PyData.keyHash w.params (Str.ofString "bearings"), key := .str (Str.ofString "bearings") q5, val := .ref bt }] 5) :: (wt, tup ws) :: (bt, tup zs) :: rest) → (∀ q ∈ rest, q.1 < md) → @LT.lt Nat _ md mt → @LT.lt Nat _ mt wt → @LT.lt Nat _ mt bt → @Ne Nat wt bt → Q (.ref mt) { s with heap := h', toks := tk' }) ,
  wpAny (model PySem.Challenge.rw_nu0220_01.row.prog w) (ktrTop dp un gd cn cs L a ccd cl outer) (call (.ref 94) [.int 16 e1, .int 1 e2, .int (-1) e3, .ref a1, .ref a2]) Q E s := by
  k_fill
  intro dp un gd cn cs a ccd cl outer A₀ base h₀ L m s Q E B F X N T hk hd hu hret
  have NN := news_sub N (sub_cons m1 (sub_cons m2 sub_refl))
  have z1' : ws.toArray.size ≤ 4 := by rw [List.size_toArray]; exact z1
  have z2' : zs.toArray.size ≤ 4 := by rw [List.size_toArray]; exact z2
  clear N
  k_extra "MY cls"
  k_steps
  rename_i mt md _ _ _ l1 l2 _ _ _ _ _ _ _ _ _ _ _ wt _ l3 _ _ bt _ l4 _ _ _ kF kN _ _
  refine hret mt md wt bt _ _ _ _ _ _ _ kF (news_sub kN (sub_cons (by k_mem) (sub_cons (by k_mem) (sub_cons (by k_mem) (sub_cons (by k_mem) (by k_extra "MY tl")))))) (mem_allLt l1.2.2) l2 l3.1 ?_ ?_
  all_goals (first | k_extra "MY lo" | omega)
example : True ∧ True := by w_top off; first | (walk1; done) | exact ⟨trivial, trivial⟩
example : True := by
  k_with_none
  k_with "eval Name" => (k_here; (with_reducible show wpAny _ _ (eval (Expr.Name _ _) (compEnvC _ _ _ _)) _ _ _); k_dflt (first | (name_kind "local"; refine' LCgL.ld_own ?zN ?zm ?zC ?zx ?_ ?zk ?zl ?zd; (case zk => kernel_rfl); (case zl => kernel_rfl); (case zd => kernel_rfl); (case zN => k_asm); (case zm => k_mem); (case zC => assumption); (case zx => assumption); k_whole) | (name_kind "globalImplicit"; first | (refine' LCgL.ld_global ?zF ?zX ?zT ?ze ?_ ?zg ?zk ?zl ?zd; (case zg => kernel_rfl); (case zk => kernel_rfl); (case zl => kernel_rfl); (case zd => kernel_rfl); (case zF => k_asm); (case zX => k_asm); (case zT => k_asm); (case ze => k_is); k_whole) | (refine' LCgL.ld_built ?zF ?zX ?zT ?ze ?zv ?zn ?_ ?zg ?zb ?zk ?zl ?zd; (case zg => kernel_rfl); (case zb => kernel_rfl); (case zk => kernel_rfl); (case zl => kernel_rfl); (case zd => kernel_rfl); (case zF => k_asm); (case zX => k_asm); (case zT => k_asm); (case ze => k_is); (case zv => boot_fast); (case zn => decide); k_whole))))
  k_with "eval Name" => (k_here; (fail_if_success (with_reducible show wpAny _ _ (eval (Expr.Name _ _) (compEnvC _ _ _ _)) _ _ _)); k_dflt (first | (name_kind "local"; refine' nameX_L ?zF ?zv ?_ ?za ?zb ?zc; (case zF => k_asm); (case za => kernel_rfl); (case zb => kernel_rfl); (case zc => kernel_rfl); (case zv => rfl); k_whole) | (name_kind "cell"; refine' nameX_C ?zN ?zl ?zm ?zd ?_ ?za ?zb ?zc; (case za => kernel_rfl); (case zb => kernel_rfl); (case zc => kernel_rfl); (case zN => k_asm); (case zl => rfl); (case zm => k_mem); (case zd => k_asm); k_whole) | (name_kind "globalImplicit"; first | (refine' nameX_K ?zF ?zX ?zT ?ze ?_ ?za ?zb ?zc; (case za => kernel_rfl); (case zb => kernel_rfl); (case zc => kernel_rfl); (case zF => k_asm); (case zX => k_asm); (case zT => k_asm); (case ze => k_is); k_whole) | (refine' nameX_B ?zF ?zX ?zT ?ze ?zv ?zn ?_ ?za ?zb ?zc; (case za => kernel_rfl); (case zb => kernel_rfl); (case zc => kernel_rfl); (case zF => k_asm); (case zX => k_asm); (case zT => k_asm); (case ze => k_is); (case zv => boot_fast); (case zn => decide); k_whole))))
  k_with "ite" => (k_closed; first | (with_reducible refine ite_pos ?zi ?_; (case zi => decide +kernel)) | (with_reducible refine ite_neg ?zi ?_; (case zi => decide +kernel)))
  k_with "getAttr ref" => (k_here; k_dflt (refine' get_own ?zF ?zX ?zI ?zg ?zh ?za ?zn ?zl ?zv ?_; (case zF => k_asm); (case zX => k_asm); (case zI => k_inst); (case zl => k_get); (case zg => k_is); (case zh => k_is); (case za => k_is); (case zn => k_is); (case zv => k_handed); k_whole))
  k_with "spliced" => ((with_reducible show wpAny _ _ (spliced (backTo _ (starEach (_ :: _) _))) _ _ _); k_dflt (refine args_cons ?_))
  k_with "newList" => (k_here; k_dflt (refine' newList_K ?zF ?zN ?_ ?zs; (case zF => k_asm); (case zN => k_asm); (case zs => exact Nat.le_of_ble_eq_true rfl); k_whole); k_extra "M46a0")
  k_with "MY ltp" => ((with_reducible rename @LT.lt Nat _ _ _ ∧ _ => kL); first | (with_reducible first | exact kL.1 | exact kL.2 | exact kL.2.1 | exact kL.2.2 | exact kL.2.2.1 | exact kL.2.2.2 | exact kL.2.2.2.1 | exact kL.2.2.2.2 | exact kL.2.2.2.2.1 | exact kL.2.2.2.2.2 | exact kL.2.2.2.2.2.1 | exact kL.2.2.2.2.2.2 | exact kL.2.2.2.2.2.2.1 | exact kL.2.2.2.2.2.2.2 | exact kL.2.2.2.2.2.2.2.1 | exact kL.2.2.2.2.2.2.2.2 | exact kL.2.2.2.2.2.2.2.2.1 | exact kL.2.2.2.2.2.2.2.2.2 | exact kL.2.2.2.2.2.2.2.2.2.1 | exact kL.2.2.2.2.2.2.2.2.2.2 | exact kL.2.2.2.2.2.2.2.2.2.2.1 | exact kL.2.2.2.2.2.2.2.2.2.2.2 | exact kL.2.2.2.2.2.2.2.2.2.2.2.1 | exact kL.2.2.2.2.2.2.2.2.2.2.2.2 | exact kL.2.2.2.2.2.2.2.2.2.2.2.2.1 | exact kL.2.2.2.2.2.2.2.2.2.2.2.2.2 | exact kL.2.2.2.2.2.2.2.2.2.2.2.2.2.1 | exact kL.2.2.2.2.2.2.2.2.2.2.2.2.2.2 | exact kL.2.2.2.2.2.2.2.2.2.2.2.2.2.2.1 | exact kL.2.2.2.2.2.2.2.2.2.2.2.2.2.2.2 | exact kL.2.2.2.2.2.2.2.2.2.2.2.2.2.2.2.1 | exact kL.2.2.2.2.2.2.2.2.2.2.2.2.2.2.2.2 | exact kL.2.2.2.2.2.2.2.2.2.2.2.2.2.2.2.2.1 | exact kL.2.2.2.2.2.2.2.2.2.2.2.2.2.2.2.2.2 | exact kL.2.2.2.2.2.2.2.2.2.2.2.2.2.2.2.2.2.1 | exact kL.2.2.2.2.2.2.2.2.2.2.2.2.2.2.2.2.2.2 | exact kL.2.2.2.2.2.2.2.2.2.2.2.2.2.2.2.2.2.2.1 | exact kL.2.2.2.2.2.2.2.2.2.2.2.2.2.2.2.2.2.2.2 | exact kL.2.2.2.2.2.2.2.2.2.2.2.2.2.2.2.2.2.2.2.1 | exact kL.2.2.2.2.2.2.2.2.2.2.2.2.2.2.2.2.2.2.2.2 | exact kL.2.2.2.2.2.2.2.2.2.2.2.2.2.2.2.2.2.2.2.2.1 | exact kL.2.2.2.2.2.2.2.2.2.2.2.2.2.2.2.2.2.2.2.2.2 | exact kL.2.2.2.2.2.2.2.2.2.2.2.2.2.2.2.2.2.2.2.2.2.1 | exact kL.2.2.2.2.2.2.2.2.2.2.2.2.2.2.2.2.2.2.2.2.2.2 | exact kL.2.2.2.2.2.2.2.2.2.2.2.2.2.2.2.2.2.2.2.2.2.2.1 | exact kL.2.2.2.2.2.2.2.2.2.2.2.2.2.2.2.2.2.2.2.2.2.2.2) | (clear kL; k_extra "MY ltp"))
  k_with "MY ne" => first | (refine Nat.ne_of_gt ?_; k_extra "MY ltp") | (refine Nat.ne_of_lt ?_; k_extra "MY ltp")
  k_with "newTuple" => (k_here; k_dflt (refine' kup_newTuple ?zF ?zN ?_ ?zs; (case zF => k_asm); (case zN => k_asm); (case zs => kmk_size)); k_extra "M46a0")
  k_with "MY ltq" => first | with_reducible assumption | k_extra "MY ltp" | ((with_reducible refine' Nat.lt_trans ?_ ?klb); (case klb => with_reducible assumption); k_extra "MY ltq") | ((with_reducible refine' Nat.lt_trans ?kla ?_); (case kla => with_reducible assumption); k_extra "MY ltp") | ((with_reducible refine' Nat.lt_succ_of_lt ?_); first | with_reducible assumption | k_extra "MY ltp" | ((with_reducible refine' Nat.lt_succ_of_lt ?_); first | with_reducible assumption | k_extra "MY ltp")) | ((with_reducible refine' Mine.mem_allLt ?_ _ ?klm); (case klm => with_reducible assumption); first | with_reducible assumption | k_extra "MY ltp")
  k_with "MY lo" => first | ((with_reducible show @LT.lt Nat _ _ _); (try dsimp only); k_extra "MY ltq") | ((with_reducible show @Ne Nat _ _); (try dsimp only); first | with_reducible assumption | (refine Ne.symm ?_; with_reducible assumption) | (refine Nat.ne_of_gt ?_; k_extra "MY ltq") | (refine Nat.ne_of_lt ?_; k_extra "MY ltq")) | decide
  k_with "H mem" => first | exact List.Mem.head _ | (refine' List.Mem.tail _ ?_; k_extra "H mem") | ((fail_if_success refine' List.Mem.tail _ ?_); change (_ : Addr × Obj) ∈ (_ : List (Addr × Obj)); first | with_reducible assumption | (with_reducible refine' List.mem_append_left _ ?_; k_extra "H mem") | (with_reducible refine' List.mem_append_right _ ?_; k_extra "H mem"))
  k_with "H room" => ((try simp only [depth_under_make, depth_under_kw, depth_in1, depth_deeper, depth_caller]); (try dsimp only [ktrTop]); first | decide | ((try simp only [Nat.add_assoc, Nat.reduceAdd]); (with_reducible rename _ + _ < recursionLimit => kH); first | exact Mine.room_of kH rfl | exact Mine.room_at kH) | omega)
  k_with "H units" => ((try simp only [units_in1, units_deeper, Around.mark_units, units_caller]); (try dsimp only [ktrTop]); first | decide | ((try simp only [Nat.add_assoc, Nat.reduceAdd]); (with_reducible rename _ + _ < cLine => kH); first | exact Mine.room_of kH rfl | exact Mine.room_at kH) | omega)
  k_with "H ne" => (refine neN ?_; (try dsimp only); first | with_reducible assumption | (refine Ne.symm ?_; with_reducible assumption) | (with_reducible first | exact Nat.ne_of_lt (by assumption) | exact Nat.ne_of_gt (by assumption)) | k_extra "MY ne" | ((with_reducible rename (_ ≠ _ ∧ _ ≠ _ ∧ _ ≠ _) ∧ _ => kOff); first | (simp only [kOff, ne_eq, not_false_eq_true]; done) | (refine Ne.symm ?_; simp only [kOff, ne_eq, not_false_eq_true]; done)) | k_extra "MY lo" | omega)
  trivial
example : True := by
  k_with "MY enter" => (refine' code_def ?zk1 ?zk2 ?zk3 ?zk4 ?zk5 ?zkA ?zkF ?zkK ?zk6 ?zk7 ?zk8 ?zk9 ?zkB ?_ ?zc2 ?zc3 ?zc4 ?zc5; (case zkA => exact rfl); (case zkF => exact rfl); (case zkK => k_asm); (case zk1 => k_asm); (case zk2 => k_asm); (case zk3 => k_asm); (case zk4 => k_asm); (case zk5 => k_asm); (case zk6 => k_is); (case zk7 => k_is); (case zk8 => ktr_room); (case zk9 => first | exact BindsTo.of_eq rfl | exact binds_K (by k_in) rfl (by k_is) rfl rfl rfl); (case zc5 => decide); (case zkB => exact locs rfl); (case zc2 => exact rfl); (case zc3 => exact rfl); (case zc4 => exact rfl); k_extra "M91c7")
  k_with "MY enterC" => (refine' code_defC ?zk1 ?zk2 ?zk3 ?zk4 ?zk5 ?zkA ?zkF ?zkK ?zk6 ?zk7 ?zk8 ?zk9 ?zkB ?zkD ?_ ?zc2 ?zc3 ?zc4; (case zkA => exact rfl); (case zkF => exact rfl); (case zkK => k_asm); (case zk1 => k_asm); (case zk2 => k_asm); (case zk3 => k_asm); (case zk4 => k_asm); (case zk5 => k_asm); (case zk6 => k_is); (case zk7 => k_is); (case zk8 => ktr_room); (case zk9 => first | exact BindsTo.of_eq rfl | exact binds_K (by k_in) rfl (by k_is) rfl rfl rfl); (case zkB => exact rfl); (case zkD => decide +kernel); (case zc2 => exact rfl); (case zc3 => exact rfl); (case zc4 => exact rfl); k_extra "M289d")
  k_with "MY fn" => (refine wpAny_call ?_; k_dflt (first | k_extra "MY enter" | k_extra "MY enterC"))
  k_with "MY cls" => (k_dflt (refine' call_cls ?zq1 ?zq2 ?zq3 ?zq4 ?zq5 ?zq6 ?_; (case zq1 => k_asm); (case zq2 => k_asm); (case zq3 => k_asm); (case zq4 => k_is); (case zq5 => k_is); (case zq6 => k_is); k_extra "M274b"))
  k_with "MY sub" => repeat' (first | exact List.forall_mem_nil _ | exact Mine.sub_refl | (refine Mine.sub_cons (by k_mem) ?_) | refine Mine.sub_tail ?_)
  k_with "callWith ref" => (k_here; k_dflt (first | refine' callWith_K ?zq1 ?zq2 ?_; (case zq1 => k_asm); (case zq2 => k_is); k_whole | (refine' callWith_K0 (Frag.In.keeps ?zq1 (Fr.keep ?zqF)) ?zq2 ?_; (case zqF => k_asm); (case zq1 => k_asm); (case zq2 => k_is); k_whole) | refine' callWith_K0 ?zq1 ?zq2 ?_; (case zq1 => k_in); (case zq2 => k_is); k_whole))
  k_with "MY lt" => first | assumption | exact Mine.mem_allLt (by assumption) | (refine Mine.mem_allLt ?_; simp only [*]; done)
  k_with "MY tl" => repeat' (with_reducible first | exact Mine.sub_refl | exact Mine.sub_appR | refine Mine.sub_tail ?_ | refine Mine.sub_left ?_)
  k_with "MY sl" => ((try (with_reducible exact Mine.sub_refl)); (repeat' (refine Mine.sub_cons (by k_mem) ?_)); (k_extra "MY tl"))
  k_with "MY mem" => first | (with_reducible (repeat (first | assumption | exact List.Mem.head _ | (refine List.Mem.tail _ ?_) | (refine List.mem_append_right _ ?_; assumption) | (refine List.mem_append_left _ ?_))); done) | repeat (first | assumption | exact List.Mem.head _ | (refine List.Mem.tail _ ?_) | (refine List.mem_append_right _ ?_; assumption) | (refine List.mem_append_left _ ?_))
  trivial
theorem fc0 {w : World} {p : Program} {loose : List Str} {mean : ExcName → Option Value} {mg mb : Str → Option Value} {v1 v2 v3 v4 v5 v6 : Value} {rest : List (Addr × Obj)}
  
  : ∀ (dp un : Nat) (gd : Option (List Code)) (cn : Str) (cs : Scope) (a : Addr) (ccd : Value) (cl : List (Str × Addr)) (outer : List Env) (A₀ : Around) (base h₀ : Heap) (L : Addr) (m : Str → Option Value) (s : Shared) (Q E : Value → Shared → Prop)
  (_B : Below A₀ base outer h₀) (_F : Fr h₀ L s.heap m) (_X : (hd.heap_39 w.params).In h₀) (_N : News h₀ L s.heap (rest)) (_T : Top p loose mean mg mb h₀) (_hk : cs.kind = .function)
  (_hd : dp + 4 < recursionLimit) (_hu : un + 40 < cLine)
  (_hret : ∀ x d k1 k2 k3 k4 k5 k6 h' tk', Fr h₀ L h' m → News h₀ L h' ((x, instObj 244 d) :: (d, dictOf [{ hash := PyData.keyHash w.params (Str.ofString "charmap"), key := .str (Str.ofString "charmap") k1, val := v1 }, { hash := PyData.keyHash w.params (Str.ofString "metrics"), key := .str (Str.ofString "metrics") k2, val := v2 }, { hash := PyData.keyHash w.params (Str.ofString "gdef"), key := .str (Str.ofString "gdef") k3, val := v3 }, { hash := PyData.keyHash w.params (Str.ofString "gsub"), key := .str (Str.ofString "gsub") k4, val := v4 }, { hash := PyData.keyHash w.params (Str.ofString "gpos"), key := .str (Str.ofString "gpos") k5, val := v5 }, { hash := PyData.keyHash w.params (Str.ofString "kern"), key := .str (Str.ofString "kern") k6, val := v6 }] 6) :: rest) → (∀ q ∈ rest, q.1 < d) → @LT.lt Nat _ d x → Q (.ref x) { s with heap := h', toks := tk' }) ,
  wpAny (model PySem.Challenge.rw_nu0220_01.row.prog w) (ktrTop dp un gd cn cs L a ccd cl outer) (call (.ref 244) [v1, v2, v3, v4, v5, v6]) Q E s := by
  k_fill
  intro dp un gd cn cs a ccd cl outer A₀ base h₀ L m s Q E B F X N T hk hd hu hret
  k_extra "MY cls"
  k_steps
  rename_i l1 l2 _ _ _ _ _ _ _ _ _ _ _ _ _ _ _ kF kN _ _
  exact hret _ _ _ _ _ _ _ _ _ _ kF kN l1 l2
example : True ∧ True := by w_top off; first | (walk1; done) | exact ⟨trivial, trivial⟩
example : True := by
  k_with_none
  k_with "eval Name" => (k_here; (with_reducible show wpAny _ _ (eval (Expr.Name _ _) (compEnvC _ _ _ _)) _ _ _); k_dflt (first | (name_kind "local"; refine' LCgL.ld_own ?zN ?zm ?zC ?zx ?_ ?zk ?zl ?zd; (case zk => kernel_rfl); (case zl => kernel_rfl); (case zd => kernel_rfl); (case zN => k_asm); (case zm => k_mem); (case zC => assumption); (case zx => assumption); k_whole) | (name_kind "globalImplicit"; first | (refine' LCgL.ld_global ?zF ?zX ?zT ?ze ?_ ?zg ?zk ?zl ?zd; (case zg => kernel_rfl); (case zk => kernel_rfl); (case zl => kernel_rfl); (case zd => kernel_rfl); (case zF => k_asm); (case zX => k_asm); (case zT => k_asm); (case ze => k_is); k_whole) | (refine' LCgL.ld_built ?zF ?zX ?zT ?ze ?zv ?zn ?_ ?zg ?zb ?zk ?zl ?zd; (case zg => kernel_rfl); (case zb => kernel_rfl); (case zk => kernel_rfl); (case zl => kernel_rfl); (case zd => kernel_rfl); (case zF => k_asm); (case zX => k_asm); (case zT => k_asm); (case ze => k_is); (case zv => boot_fast); (case zn => decide); k_whole))))
  k_with "eval Name" => (k_here; (fail_if_success (with_reducible show wpAny _ _ (eval (Expr.Name _ _) (compEnvC _ _ _ _)) _ _ _)); k_dflt (first | (name_kind "local"; refine' nameX_L ?zF ?zv ?_ ?za ?zb ?zc; (case zF => k_asm); (case za => kernel_rfl); (case zb => kernel_rfl); (case zc => kernel_rfl); (case zv => rfl); k_whole) | (name_kind "cell"; refine' nameX_C ?zN ?zl ?zm ?zd ?_ ?za ?zb ?zc; (case za => kernel_rfl); (case zb => kernel_rfl); (case zc => kernel_rfl); (case zN => k_asm); (case zl => rfl); (case zm => k_mem); (case zd => k_asm); k_whole) | (name_kind "globalImplicit"; first | (refine' nameX_K ?zF ?zX ?zT ?ze ?_ ?za ?zb ?zc; (case za => kernel_rfl); (case zb => kernel_rfl); (case zc => kernel_rfl); (case zF => k_asm); (case zX => k_asm); (case zT => k_asm); (case ze => k_is); k_whole) | (refine' nameX_B ?zF ?zX ?zT ?ze ?zv ?zn ?_ ?za ?zb ?zc; (case za => kernel_rfl); (case zb => kernel_rfl); (case zc => kernel_rfl); (case zF => k_asm); (case zX => k_asm); (case zT => k_asm); (case ze => k_is); (case zv => boot_fast); (case zn => decide); k_whole))))
  k_with "ite" => (k_closed; first | (with_reducible refine ite_pos ?zi ?_; (case zi => decide +kernel)) | (with_reducible refine ite_neg ?zi ?_; (case zi => decide +kernel)))
  k_with "getAttr ref" => (k_here; k_dflt (refine' get_own ?zF ?zX ?zI ?zg ?zh ?za ?zn ?zl ?zv ?_; (case zF => k_asm); (case zX => k_asm); (case zI => k_inst); (case zl => k_get); (case zg => k_is); (case zh => k_is); (case za => k_is); (case zn => k_is); (case zv => k_handed); k_whole))
  k_with "spliced" => ((with_reducible show wpAny _ _ (spliced (backTo _ (starEach (_ :: _) _))) _ _ _); k_dflt (refine args_cons ?_))
  k_with "newList" => (k_here; k_dflt (refine' newList_K ?zF ?zN ?_ ?zs; (case zF => k_asm); (case zN => k_asm); (case zs => exact Nat.le_of_ble_eq_true rfl); k_whole); k_extra "M46a0")
  k_with "MY ltp" => ((with_reducible rename @LT.lt Nat _ _ _ ∧ _ => kL); first | (with_reducible first | exact kL.1 | exact kL.2 | exact kL.2.1 | exact kL.2.2 | exact kL.2.2.1 | exact kL.2.2.2 | exact kL.2.2.2.1 | exact kL.2.2.2.2 | exact kL.2.2.2.2.1 | exact kL.2.2.2.2.2 | exact kL.2.2.2.2.2.1 | exact kL.2.2.2.2.2.2 | exact kL.2.2.2.2.2.2.1 | exact kL.2.2.2.2.2.2.2 | exact kL.2.2.2.2.2.2.2.1 | exact kL.2.2.2.2.2.2.2.2 | exact kL.2.2.2.2.2.2.2.2.1 | exact kL.2.2.2.2.2.2.2.2.2 | exact kL.2.2.2.2.2.2.2.2.2.1 | exact kL.2.2.2.2.2.2.2.2.2.2 | exact kL.2.2.2.2.2.2.2.2.2.2.1 | exact kL.2.2.2.2.2.2.2.2.2.2.2 | exact kL.2.2.2.2.2.2.2.2.2.2.2.1 | exact kL.2.2.2.2.2.2.2.2.2.2.2.2 | exact kL.2.2.2.2.2.2.2.2.2.2.2.2.1 | exact kL.2.2.2.2.2.2.2.2.2.2.2.2.2 | exact kL.2.2.2.2.2.2.2.2.2.2.2.2.2.1 | exact kL.2.2.2.2.2.2.2.2.2.2.2.2.2.2 | exact kL.2.2.2.2.2.2.2.2.2.2.2.2.2.2.1 | exact kL.2.2.2.2.2.2.2.2.2.2.2.2.2.2.2 | exact kL.2.2.2.2.2.2.2.2.2.2.2.2.2.2.2.1 | exact kL.2.2.2.2.2.2.2.2.2.2.2.2.2.2.2.2 | exact kL.2.2.2.2.2.2.2.2.2.2.2.2.2.2.2.2.1 | exact kL.2.2.2.2.2.2.2.2.2.2.2.2.2.2.2.2.2 | exact kL.2.2.2.2.2.2.2.2.2.2.2.2.2.2.2.2.2.1 | exact kL.2.2.2.2.2.2.2.2.2.2.2.2.2.2.2.2.2.2 | exact kL.2.2.2.2.2.2.2.2.2.2.2.2.2.2.2.2.2.2.1 | exact kL.2.2.2.2.2.2.2.2.2.2.2.2.2.2.2.2.2.2.2 | exact kL.2.2.2.2.2.2.2.2.2.2.2.2.2.2.2.2.2.2.2.1 | exact kL.2.2.2.2.2.2.2.2.2.2.2.2.2.2.2.2.2.2.2.2 | exact kL.2.2.2.2.2.2.2.2.2.2.2.2.2.2.2.2.2.2.2.2.1 | exact kL.2.2.2.2.2.2.2.2.2.2.2.2.2.2.2.2.2.2.2.2.2 | exact kL.2.2.2.2.2.2.2.2.2.2.2.2.2.2.2.2.2.2.2.2.2.1 | exact kL.2.2.2.2.2.2.2.2.2.2.2.2.2.2.2.2.2.2.2.2.2.2 | exact kL.2.2.2.2.2.2.2.2.2.2.2.2.2.2.2.2.2.2.2.2.2.2.1 | exact kL.2.2.2.2.2.2.2.2.2.2.2.2.2.2.2.2.2.2.2.2.2.2.2) | (clear kL; k_extra "MY ltp"))
  k_with "MY ne" => first | (refine Nat.ne_of_gt ?_; k_extra "MY ltp") | (refine Nat.ne_of_lt ?_; k_extra "MY ltp")
  k_with "newTuple" => (k_here; k_dflt (refine' kup_newTuple ?zF ?zN ?_ ?zs; (case zF => k_asm); (case zN => k_asm); (case zs => kmk_size)); k_extra "M46a0")
  k_with "MY ltq" => first | with_reducible assumption | k_extra "MY ltp" | ((with_reducible refine' Nat.lt_trans ?_ ?klb); (case klb => with_reducible assumption); k_extra "MY ltq") | ((with_reducible refine' Nat.lt_trans ?kla ?_); (case kla => with_reducible assumption); k_extra "MY ltp") | ((with_reducible refine' Nat.lt_succ_of_lt ?_); first | with_reducible assumption | k_extra "MY ltp" | ((with_reducible refine' Nat.lt_succ_of_lt ?_); first | with_reducible assumption | k_extra "MY ltp")) | ((with_reducible refine' Mine.mem_allLt ?_ _ ?klm); (case klm => with_reducible assumption); first | with_reducible assumption | k_extra "MY ltp")
  k_with "MY lo" => first | ((with_reducible show @LT.lt Nat _ _ _); (try dsimp only); k_extra "MY ltq") | ((with_reducible show @Ne Nat _ _); (try dsimp only); first | with_reducible assumption | (refine Ne.symm ?_; with_reducible assumption) | (refine Nat.ne_of_gt ?_; k_extra "MY ltq") | (refine Nat.ne_of_lt ?_; k_extra "MY ltq")) | decide
  k_with "H mem" => first | exact List.Mem.head _ | (refine' List.Mem.tail _ ?_; k_extra "H mem") | ((fail_if_success refine' List.Mem.tail _ ?_); change (_ : Addr × Obj) ∈ (_ : List (Addr × Obj)); first | with_reducible assumption | (with_reducible refine' List.mem_append_left _ ?_; k_extra "H mem") | (with_reducible refine' List.mem_append_right _ ?_; k_extra "H mem"))
  k_with "H room" => ((try simp only [depth_under_make, depth_under_kw, depth_in1, depth_deeper, depth_caller]); (try dsimp only [ktrTop]); first | decide | ((try simp only [Nat.add_assoc, Nat.reduceAdd]); (with_reducible rename _ + _ < recursionLimit => kH); first | exact Mine.room_of kH rfl | exact Mine.room_at kH) | omega)
  k_with "H units" => ((try simp only [units_in1, units_deeper, Around.mark_units, units_caller]); (try dsimp only [ktrTop]); first | decide | ((try simp only [Nat.add_assoc, Nat.reduceAdd]); (with_reducible rename _ + _ < cLine => kH); first | exact Mine.room_of kH rfl | exact Mine.room_at kH) | omega)
  k_with "H ne" => (refine neN ?_; (try dsimp only); first | with_reducible assumption | (refine Ne.symm ?_; with_reducible assumption) | (with_reducible first | exact Nat.ne_of_lt (by assumption) | exact Nat.ne_of_gt (by assumption)) | k_extra "MY ne" | ((with_reducible rename (_ ≠ _ ∧ _ ≠ _ ∧ _ ≠ _) ∧ _ => kOff); first | (simp only [kOff, ne_eq, not_false_eq_true]; done) | (refine Ne.symm ?_; simp only [kOff, ne_eq, not_false_eq_true]; done)) | k_extra "MY lo" | omega)
  trivial
example : True := by
  k_with "MY enter" => (refine' code_def ?zk1 ?zk2 ?zk3 ?zk4 ?zk5 ?zkA ?zkF ?zkK ?zk6 ?zk7 ?zk8 ?zk9 ?zkB ?_ ?zc2 ?zc3 ?zc4 ?zc5; (case zkA => exact rfl); (case zkF => exact rfl); (case zkK => k_asm); (case zk1 => k_asm); (case zk2 => k_asm); (case zk3 => k_asm); (case zk4 => k_asm); (case zk5 => k_asm); (case zk6 => k_is); (case zk7 => k_is); (case zk8 => ktr_room); (case zk9 => first | exact BindsTo.of_eq rfl | exact binds_K (by k_in) rfl (by k_is) rfl rfl rfl); (case zc5 => decide); (case zkB => exact locs rfl); (case zc2 => exact rfl); (case zc3 => exact rfl); (case zc4 => exact rfl); k_extra "M91c7")
  k_with "MY enterC" => (refine' code_defC ?zk1 ?zk2 ?zk3 ?zk4 ?zk5 ?zkA ?zkF ?zkK ?zk6 ?zk7 ?zk8 ?zk9 ?zkB ?zkD ?_ ?zc2 ?zc3 ?zc4; (case zkA => exact rfl); (case zkF => exact rfl); (case zkK => k_asm); (case zk1 => k_asm); (case zk2 => k_asm); (case zk3 => k_asm); (case zk4 => k_asm); (case zk5 => k_asm); (case zk6 => k_is); (case zk7 => k_is); (case zk8 => ktr_room); (case zk9 => first | exact BindsTo.of_eq rfl | exact binds_K (by k_in) rfl (by k_is) rfl rfl rfl); (case zkB => exact rfl); (case zkD => decide +kernel); (case zc2 => exact rfl); (case zc3 => exact rfl); (case zc4 => exact rfl); k_extra "M289d")
  k_with "MY fn" => (refine wpAny_call ?_; k_dflt (first | k_extra "MY enter" | k_extra "MY enterC"))
  k_with "MY cls" => (k_dflt (refine' call_cls ?zq1 ?zq2 ?zq3 ?zq4 ?zq5 ?zq6 ?_; (case zq1 => k_asm); (case zq2 => k_asm); (case zq3 => k_asm); (case zq4 => k_is); (case zq5 => k_is); (case zq6 => k_is); k_extra "M274b"))
  k_with "MY sub" => repeat' (first | exact List.forall_mem_nil _ | exact Mine.sub_refl | (refine Mine.sub_cons (by k_mem) ?_) | refine Mine.sub_tail ?_)
  k_with "callWith ref" => (k_here; k_dflt (first | refine' callWith_K ?zq1 ?zq2 ?_; (case zq1 => k_asm); (case zq2 => k_is); k_whole | (refine' callWith_K0 (Frag.In.keeps ?zq1 (Fr.keep ?zqF)) ?zq2 ?_; (case zqF => k_asm); (case zq1 => k_asm); (case zq2 => k_is); k_whole) | refine' callWith_K0 ?zq1 ?zq2 ?_; (case zq1 => k_in); (case zq2 => k_is); k_whole))
  k_with "MY lt" => first | assumption | exact Mine.mem_allLt (by assumption) | (refine Mine.mem_allLt ?_; simp only [*]; done)
  trivial
theorem ToldC.mono {c : List (Int × Int)} {t : Addr} {tw tw' : List (Addr × Obj)} (h : ToldC c t tw) (hs : ∀ p ∈ tw, p ∈ tw') : ToldC c t tw' := by
  obtain ⟨r, a, b⟩ := h
  exact ⟨r, hs _ a, b.mono hs⟩
example : True := by
  k_with "MY tl" => repeat' (with_reducible first | exact Mine.sub_refl | exact Mine.sub_appR | refine Mine.sub_tail ?_ | refine Mine.sub_left ?_)
  k_with "MY sl" => ((try (with_reducible exact Mine.sub_refl)); (repeat' (refine Mine.sub_cons (by k_mem) ?_)); (k_extra "MY tl"))
  k_with "MY mem" => first | (with_reducible (repeat (first | assumption | exact List.Mem.head _ | (refine List.Mem.tail _ ?_) | (refine List.mem_append_right _ ?_; assumption) | (refine List.mem_append_left _ ?_))); done) | repeat (first | assumption | exact List.Mem.head _ | (refine List.Mem.tail _ ?_) | (refine List.mem_append_right _ ?_; assumption) | (refine List.mem_append_left _ ?_))
  k_with "call type:tuple" => (k_here; (with_reducible show wpAny _ _ (call (Value.type _) [Value.ref _]) _ _ _); k_dflt (refine' kde_tupleOf ?zq1 ?zq2 ?zq3 ?zq4 ?zq5 ?_; (case zq1 => k_asm); (case zq2 => k_asm); (case zq3 => exact News.isList (by k_asm) (by k_mem)); (case zq4 => first | (simp only [List.size_toArray]; (first | k_extra "MY lo" | omega)) | (simp only [List.size_toArray, List.length_map] at *; (first | k_extra "MY lo" | omega))); (case zq5 => first | exact List.toList_toArray | exact List.toList_toArray _ | exact Array.toList_toArray _)); k_extra "M46a0")
  k_with "call ref" => k_extra "MY mt0"
  k_with "MY mt0" => (k_here; (with_reducible show wpAny _ _ (call (Value.ref 91) _) _ _ _); k_dflt (refine' Mine.mt0 ?zqm1 ?zqm2 _ _ _ _ _ _ _ _ _ _ _ _ _ _ _ _ _ ?zqB ?zqF ?zqX ?zqN ?zqT ?zqk ?zqd ?zqu ?_; (case zqB => k_asm); (case zqF => k_asm); (case zqX => k_asm); (case zqN => k_asm); (case zqT => k_asm); (case zqk => first | exact rfl | assumption); (case zqd => ktr_room); (case zqu => ktr_units); (case zqm1 => k_extra "MY mem"); (case zqm2 => k_extra "MY mem")); k_extra "Mdcf1")
  k_with "call ref" => k_extra "MY gt0"
  k_with "MY gt0" => (k_here; (with_reducible show wpAny _ _ (call (Value.ref 200) _) _ _ _); k_dflt (refine' Mine.gt0 ?zqg _ _ _ _ _ _ _ _ _ _ _ _ _ _ _ _ _ ?zqB ?zqF ?zqX ?zqN ?zqT ?zqk ?zqd ?zqu ?_; (case zqB => k_asm); (case zqF => k_asm); (case zqX => k_asm); (case zqN => k_asm); (case zqT => k_asm); (case zqk => first | exact rfl | assumption); (case zqd => ktr_room); (case zqu => ktr_units); (case zqg => first | exact GdefIn.mono (by assumption) (by k_extra "MY tl") | exact (show GdefIn _ [] _ _ from Mine.GdefIn.intro (kvs := []) (by k_mem) (by k_mem) (by k_mem) (by k_mem) (by k_mem) (by k_mem) (by k_mem) (by k_mem) (by k_mem) (by k_mem) (by k_mem) (by assumption) .nil (Nat.zero_le _) ⟨by assumption, by assumption⟩ (by assumption) (by assumption) (by assumption) (by assumption) (by assumption) (by assumption)))); k_extra "M67b0")
  k_with "getMethod ref" => (k_here; (with_reducible show wpAny _ _ (getMethod (Value.ref _) (Str.ofString "told") _) _ _ _); k_dflt (refine' Mine.gi_meth ?zqF ?zqN ?zqg ?zqs ?_ ?zqX; (case zqg => k_asm); (case zqF => k_asm); (case zqX => k_asm); (case zqN => k_asm); (case zqs => k_extra "MY tl")))
  k_with "call ref" => k_extra "MY cm0"
  k_with "MY cm0" => (k_here; (with_reducible show wpAny _ _ (call (Value.ref 343) _) _ _ _); k_dflt (refine' Mine.cm0 ?zqm1 ?zqm2 ?zqm3 ?zqi ?zqf ?zqc ?zqlo _ _ _ _ _ _ _ _ _ _ _ _ _ _ _ _ _ ?zqB ?zqF ?zqX ?zqN ?zqT ?zqk ?zqd ?zqu ?_; (case zqB => k_asm); (case zqF => k_asm); (case zqX => k_asm); (case zqN => k_asm); (case zqT => k_asm); (case zqk => first | exact rfl | assumption); (case zqd => ktr_room); (case zqu => ktr_units); (case zqm1 => k_mem); (case zqm2 => k_mem); (case zqm3 => k_mem); (case zqi => k_asm); (case zqf => first | exact Mine.flat_nil | assumption); (case zqc => first | assumption | decide); (case zqlo => k_asm)); k_extra "M67b0")
  trivial
theorem ft0 {w : World} {p : Program} {loose : List Str} {mean : ExcName → Option Value} {mg mb : Str → Option Value} {f df cm mt g0 kd0 : Addr} {k1 k2 k3 k4 k5 k6 : Tok} {d e : Addr} {o : Obj} {j1 j2 : Tok} {kvs : List (Int × Value)} {c : List (Int × Int)} {md wt bt : Addr} {q1 q2 q3 q4 q5 e1 e2 e3 : Tok} {ko : Obj}  {rest : List (Addr × Obj)}
  (mf : (f, instObj 244 df) ∈ rest) (mdf : (df, dictOf [{ hash := PyData.keyHash w.params (Str.ofString "charmap"), key := .str (Str.ofString "charmap") k1, val := .ref cm }, { hash := PyData.keyHash w.params (Str.ofString "metrics"), key := .str (Str.ofString "metrics") k2, val := .ref mt }, { hash := PyData.keyHash w.params (Str.ofString "gdef"), key := .str (Str.ofString "gdef") k3, val := .ref g0 }, { hash := PyData.keyHash w.params (Str.ofString "gsub"), key := .str (Str.ofString "gsub") k4, val := .none }, { hash := PyData.keyHash w.params (Str.ofString "gpos"), key := .str (Str.ofString "gpos") k5, val := .none }, { hash := PyData.keyHash w.params (Str.ofString "kern"), key := .str (Str.ofString "kern") k6, val := .ref kd0 }] 6) ∈ rest) (mc : (cm, instObj 346 d) ∈ rest) (mcd : (d, dictOf [{ hash := PyData.keyHash w.params (Str.ofString "codes"), key := .str (Str.ofString "codes") j1, val := .ref e }, { hash := PyData.keyHash w.params (Str.ofString "variations"), key := .str (Str.ofString "variations") j2, val := .none }] 2) ∈ rest) (me : (e, o) ∈ rest) (i1 : o.IsDictOf (PySem.intKind PySem.Challenge.rw_nu0220_01.row.prog w) kvs) (fl : FlatPairs PyData.int kvs (kdfD c)) (hc : c.length ≤ 3) (lo : (e == sysModules) = false) (mm : (mt, instObj 94 md) ∈ rest) (mmd : (md, dictOf [{ hash := PyData.keyHash w.params (Str.ofString "units"), key := .str (Str.ofString "units") q1, val := .int 16 e1 }, { hash := PyData.keyHash w.params (Str.ofString "ascent"), key := .str (Str.ofString "ascent") q2, val := .int 1 e2 }, { hash := PyData.keyHash w.params (Str.ofString "descent"), key := .str (Str.ofString "descent") q3, val := .int (-1) e3 }, { hash := PyData.keyHash w.params (Str.ofString "advances"), key := .str (Str.ofString "advances") q4, val := .ref wt }, { hash := PyData.keyHash w.params (Str.ofString "bearings"), key := .str (Str.ofString "bearings") q5, val := .ref bt }] 5) ∈ rest) (mk : (kd0, ko) ∈ rest) (ik : EmptyD w ko) (lk : (kd0 == sysModules) = false) (hg : GdefIn w [] g0 rest)
  : ∀ (dp un : Nat) (gd : Option (List Code)) (cn : Str) (cs : Scope) (a : Addr) (ccd : Value) (cl : List (Str × Addr)) (outer : List Env) (A₀ : Around) (base h₀ : Heap) (L : Addr) (m : Str → Option Value) (s : Shared) (Q E : Value → Shared → Prop)
  (_B : Below A₀ base outer h₀) (_F : Fr h₀ L s.heap m) (_X : (hd.heap_39 w.params).In h₀) (_N : News h₀ L s.heap (rest)) (_T : Top p loose mean mg mb h₀) (_hk : cs.kind = .function)
  (_hd : dp + 20 < recursionLimit) (_hu : un + 180 < cLine)
  (_hret : ∀ t tc tm tg te tw h' tk', Fr h₀ L h' m → News h₀ L h' (rest ++ tw) → (t, tup [.ref tc, .ref tm, .ref tg, .none, .none, .ref te]) ∈ tw → ToldC c tc tw → (tm, tup [.int 16 e1, .int 1 e2, .int (-1) e3, .ref wt, .ref bt]) ∈ tw → GTold [] tg tw → (te, tup []) ∈ tw → (∀ p ∈ tw, ∀ q ∈ rest, q.1 < p.1) → Q (.ref t) { s with heap := h', toks := tk' }) ,
  wpAny (model PySem.Challenge.rw_nu0220_01.row.prog w) (ktrTop dp un gd cn cs L a ccd cl outer) (call (.ref 241) [.ref f]) Q E s := by
  k_fill
  intro dp un gd cn cs a ccd cl outer A₀ base h₀ L m s Q E B F X N T hk hd hu hret
  obtain ⟨is0, ii0⟩ := ik
  have NN := news_sub N (sub_cons mk sub_refl)
  have hb0 : ∀ q ∈ rest, @LT.lt Nat _ q.1 s.heap.objs.size := fun q hq => Heap.lt_size (N q hq).1
  clear N
  have fi0 : FlatPairs PyData.int [] [] := .nil
  have fs0 : FlatPairs PyData.str [] [] := .nil
  have fi1 : FlatPairs PyData.int [] (kdfD []) := .nil
  k_extra "MY fn"
  k_steps
  rename_i tc tw1 _ _ rw1 lt1 tm _ _ lm tg tw2 _ _ gt2 lt2 _ _ _ _ _ _ _ _ _ _ _ _ _ _ _ _ _ _ _ _ _ _ _ _ _ _ _ _ _ _ _ _ en _ _ _ _ _ _ hL _ _ _ _ te _ le T1 _ _ _ lT kF kN _ _
  obtain rfl : ys = [] := List.eq_nil_of_length_eq_zero (by rw [hL, List.length_map]; exact en)
  have b1 : ∀ q ∈ rest, @LT.lt Nat _ q.1 tm := by first | exact mem_allLt (by simp only [*]) | exact fun q hq => mem_allLt (l := rest ++ tw1) (by simp only [*]) q (List.mem_append_left _ hq)
  have b2 : ∀ q ∈ rest, @LT.lt Nat _ q.1 te := by first | exact mem_allLt (by simp only [*]) | exact fun q hq => mem_allLt (l := rest ++ tw1 ++ tw2) (by simp only [*]) q (List.mem_append_left _ (List.mem_append_left _ hq))
  refine hret T1 tc tm tg te ((T1, tup [.ref tc, .ref tm, .ref tg, .none, .none, .ref te]) :: (te, tup []) :: (tm, tup [.int 16 e1, .int 1 e2, .int (-1) e3, .ref wt, .ref bt]) :: (tw1 ++ tw2)) _ _ kF (news_sub kN ?_) (.head _) (ToldC.mono rw1 ?_) (.tail _ (.tail _ (.head _))) (gt2.mono ?_) (.tail _ (.head _)) ?_
  · intro p hp
    rcases List.mem_append.mp hp with h | h
    · repeat (first | exact List.mem_append_left _ (List.mem_append_left _ h) | apply List.Mem.tail)
    · simp only [List.mem_cons, List.mem_append] at h
      rcases h with rfl | rfl | rfl | h | h
      · k_mem
      · k_mem
      · k_mem
      · repeat (first | exact List.mem_append_left _ (List.mem_append_right _ h) | apply List.Mem.tail)
      · repeat (first | exact List.mem_append_right _ h | apply List.Mem.tail)
  · exact fun p hp => .tail _ (.tail _ (.tail _ (List.mem_append_left _ hp)))
  · exact fun p hp => .tail _ (.tail _ (.tail _ (List.mem_append_right _ hp)))
  · intro p hp q hq
    have c1' := b1 q hq
    have c2' := b2 q hq
    simp only [List.mem_cons, List.mem_append] at hp
    rcases hp with rfl | rfl | rfl | h | h
    · show @LT.lt Nat _ _ _
      (first | k_extra "MY lo" | omega)
    · exact c2'
    · exact c1'
    · exact lt1 p h q (by repeat (first | exact hq | apply List.Mem.tail))
    · exact lt2 p h q (by repeat (first | exact List.mem_append_left _ hq | apply List.Mem.tail))
example : True ∧ True := by w_top off; first | (walk1; done) | exact ⟨trivial, trivial⟩
example : True := by
  k_with_none
  k_with "eval Name" => (k_here; (with_reducible show wpAny _ _ (eval (Expr.Name _ _) (compEnvC _ _ _ _)) _ _ _); k_dflt (first | (name_kind "local"; refine' LCgL.ld_own ?zN ?zm ?zC ?zx ?_ ?zk ?zl ?zd; (case zk => kernel_rfl); (case zl => kernel_rfl); (case zd => kernel_rfl); (case zN => k_asm); (case zm => k_mem); (case zC => assumption); (case zx => assumption); k_whole) | (name_kind "globalImplicit"; first | (refine' LCgL.ld_global ?zF ?zX ?zT ?ze ?_ ?zg ?zk ?zl ?zd; (case zg => kernel_rfl); (case zk => kernel_rfl); (case zl => kernel_rfl); (case zd => kernel_rfl); (case zF => k_asm); (case zX => k_asm); (case zT => k_asm); (case ze => k_is); k_whole) | (refine' LCgL.ld_built ?zF ?zX ?zT ?ze ?zv ?zn ?_ ?zg ?zb ?zk ?zl ?zd; (case zg => kernel_rfl); (case zb => kernel_rfl); (case zk => kernel_rfl); (case zl => kernel_rfl); (case zd => kernel_rfl); (case zF => k_asm); (case zX => k_asm); (case zT => k_asm); (case ze => k_is); (case zv => boot_fast); (case zn => decide); k_whole))))
  k_with "eval Name" => (k_here; (fail_if_success (with_reducible show wpAny _ _ (eval (Expr.Name _ _) (compEnvC _ _ _ _)) _ _ _)); k_dflt (first | (name_kind "local"; refine' nameX_L ?zF ?zv ?_ ?za ?zb ?zc; (case zF => k_asm); (case za => kernel_rfl); (case zb => kernel_rfl); (case zc => kernel_rfl); (case zv => rfl); k_whole) | (name_kind "cell"; refine' nameX_C ?zN ?zl ?zm ?zd ?_ ?za ?zb ?zc; (case za => kernel_rfl); (case zb => kernel_rfl); (case zc => kernel_rfl); (case zN => k_asm); (case zl => rfl); (case zm => k_mem); (case zd => k_asm); k_whole) | (name_kind "globalImplicit"; first | (refine' nameX_K ?zF ?zX ?zT ?ze ?_ ?za ?zb ?zc; (case za => kernel_rfl); (case zb => kernel_rfl); (case zc => kernel_rfl); (case zF => k_asm); (case zX => k_asm); (case zT => k_asm); (case ze => k_is); k_whole) | (refine' nameX_B ?zF ?zX ?zT ?ze ?zv ?zn ?_ ?za ?zb ?zc; (case za => kernel_rfl); (case zb => kernel_rfl); (case zc => kernel_rfl); (case zF => k_asm); (case zX => k_asm); (case zT => k_asm); (case ze => k_is); (case zv => boot_fast); (case zn => decide); k_whole))))
  k_with "ite" => (k_closed; first | (with_reducible refine ite_pos ?zi ?_; (case zi => decide +kernel)) | (with_reducible refine ite_neg ?zi ?_; (case zi => decide +kernel)))
  k_with "getAttr ref" => (k_here; k_dflt (refine' get_own ?zF ?zX ?zI ?zg ?zh ?za ?zn ?zl ?zv ?_; (case zF => k_asm); (case zX => k_asm); (case zI => k_inst); (case zl => k_get); (case zg => k_is); (case zh => k_is); (case za => k_is); (case zn => k_is); (case zv => k_handed); k_whole))
  k_with "spliced" => ((with_reducible show wpAny _ _ (spliced (backTo _ (starEach (_ :: _) _))) _ _ _); k_dflt (refine args_cons ?_))
  k_with "newList" => (k_here; k_dflt (refine' newList_K ?zF ?zN ?_ ?zs; (case zF => k_asm); (case zN => k_asm); (case zs => exact Nat.le_of_ble_eq_true rfl); k_whole); k_extra "M46a0")
  k_with "MY ltp" => ((with_reducible rename @LT.lt Nat _ _ _ ∧ _ => kL); first | (with_reducible first | exact kL.1 | exact kL.2 | exact kL.2.1 | exact kL.2.2 | exact kL.2.2.1 | exact kL.2.2.2 | exact kL.2.2.2.1 | exact kL.2.2.2.2 | exact kL.2.2.2.2.1 | exact kL.2.2.2.2.2 | exact kL.2.2.2.2.2.1 | exact kL.2.2.2.2.2.2 | exact kL.2.2.2.2.2.2.1 | exact kL.2.2.2.2.2.2.2 | exact kL.2.2.2.2.2.2.2.1 | exact kL.2.2.2.2.2.2.2.2 | exact kL.2.2.2.2.2.2.2.2.1 | exact kL.2.2.2.2.2.2.2.2.2 | exact kL.2.2.2.2.2.2.2.2.2.1 | exact kL.2.2.2.2.2.2.2.2.2.2 | exact kL.2.2.2.2.2.2.2.2.2.2.1 | exact kL.2.2.2.2.2.2.2.2.2.2.2 | exact kL.2.2.2.2.2.2.2.2.2.2.2.1 | exact kL.2.2.2.2.2.2.2.2.2.2.2.2 | exact kL.2.2.2.2.2.2.2.2.2.2.2.2.1 | exact kL.2.2.2.2.2.2.2.2.2.2.2.2.2 | exact kL.2.2.2.2.2.2.2.2.2.2.2.2.2.1 | exact kL.2.2.2.2.2.2.2.2.2.2.2.2.2.2 | exact kL.2.2.2.2.2.2.2.2.2.2.2.2.2.2.1 | exact kL.2.2.2.2.2.2.2.2.2.2.2.2.2.2.2 | exact kL.2.2.2.2.2.2.2.2.2.2.2.2.2.2.2.1 | exact kL.2.2.2.2.2.2.2.2.2.2.2.2.2.2.2.2 | exact kL.2.2.2.2.2.2.2.2.2.2.2.2.2.2.2.2.1 | exact kL.2.2.2.2.2.2.2.2.2.2.2.2.2.2.2.2.2 | exact kL.2.2.2.2.2.2.2.2.2.2.2.2.2.2.2.2.2.1 | exact kL.2.2.2.2.2.2.2.2.2.2.2.2.2.2.2.2.2.2 | exact kL.2.2.2.2.2.2.2.2.2.2.2.2.2.2.2.2.2.2.1 | exact kL.2.2.2.2.2.2.2.2.2.2.2.2.2.2.2.2.2.2.2 | exact kL.2.2.2.2.2.2.2.2.2.2.2.2.2.2.2.2.2.2.2.1 | exact kL.2.2.2.2.2.2.2.2.2.2.2.2.2.2.2.2.2.2.2.2 | exact kL.2.2.2.2.2.2.2.2.2.2.2.2.2.2.2.2.2.2.2.2.1 | exact kL.2.2.2.2.2.2.2.2.2.2.2.2.2.2.2.2.2.2.2.2.2 | exact kL.2.2.2.2.2.2.2.2.2.2.2.2.2.2.2.2.2.2.2.2.2.1 | exact kL.2.2.2.2.2.2.2.2.2.2.2.2.2.2.2.2.2.2.2.2.2.2 | exact kL.2.2.2.2.2.2.2.2.2.2.2.2.2.2.2.2.2.2.2.2.2.2.1 | exact kL.2.2.2.2.2.2.2.2.2.2.2.2.2.2.2.2.2.2.2.2.2.2.2) | (clear kL; k_extra "MY ltp"))
  k_with "MY ne" => first | (refine Nat.ne_of_gt ?_; k_extra "MY ltp") | (refine Nat.ne_of_lt ?_; k_extra "MY ltp")
  k_with "newTuple" => (k_here; k_dflt (refine' kup_newTuple ?zF ?zN ?_ ?zs; (case zF => k_asm); (case zN => k_asm); (case zs => kmk_size)); k_extra "M46a0")
  k_with "MY ltq" => first | with_reducible assumption | k_extra "MY ltp" | ((with_reducible refine' Nat.lt_trans ?_ ?klb); (case klb => with_reducible assumption); k_extra "MY ltq") | ((with_reducible refine' Nat.lt_trans ?kla ?_); (case kla => with_reducible assumption); k_extra "MY ltp") | ((with_reducible refine' Nat.lt_succ_of_lt ?_); first | with_reducible assumption | k_extra "MY ltp" | ((with_reducible refine' Nat.lt_succ_of_lt ?_); first | with_reducible assumption | k_extra "MY ltp")) | ((with_reducible refine' Mine.mem_allLt ?_ _ ?klm); (case klm => with_reducible assumption); first | with_reducible assumption | k_extra "MY ltp")
  k_with "MY lo" => first | ((with_reducible show @LT.lt Nat _ _ _); (try dsimp only); k_extra "MY ltq") | ((with_reducible show @Ne Nat _ _); (try dsimp only); first | with_reducible assumption | (refine Ne.symm ?_; with_reducible assumption) | (refine Nat.ne_of_gt ?_; k_extra "MY ltq") | (refine Nat.ne_of_lt ?_; k_extra "MY ltq")) | decide
  k_with "H mem" => first | exact List.Mem.head _ | (refine' List.Mem.tail _ ?_; k_extra "H mem") | ((fail_if_success refine' List.Mem.tail _ ?_); change (_ : Addr × Obj) ∈ (_ : List (Addr × Obj)); first | with_reducible assumption | (with_reducible refine' List.mem_append_left _ ?_; k_extra "H mem") | (with_reducible refine' List.mem_append_right _ ?_; k_extra "H mem"))
  k_with "H room" => ((try simp only [depth_under_make, depth_under_kw, depth_in1, depth_deeper, depth_caller]); (try dsimp only [ktrTop]); first | decide | ((try simp only [Nat.add_assoc, Nat.reduceAdd]); (with_reducible rename _ + _ < recursionLimit => kH); first | exact Mine.room_of kH rfl | exact Mine.room_at kH) | omega)
  k_with "H units" => ((try simp only [units_in1, units_deeper, Around.mark_units, units_caller]); (try dsimp only [ktrTop]); first | decide | ((try simp only [Nat.add_assoc, Nat.reduceAdd]); (with_reducible rename _ + _ < cLine => kH); first | exact Mine.room_of kH rfl | exact Mine.room_at kH) | omega)
  k_with "H ne" => (refine neN ?_; (try dsimp only); first | with_reducible assumption | (refine Ne.symm ?_; with_reducible assumption) | (with_reducible first | exact Nat.ne_of_lt (by assumption) | exact Nat.ne_of_gt (by assumption)) | k_extra "MY ne" | ((with_reducible rename (_ ≠ _ ∧ _ ≠ _ ∧ _ ≠ _) ∧ _ => kOff); first | (simp only [kOff, ne_eq, not_false_eq_true]; done) | (refine Ne.symm ?_; simp only [kOff, ne_eq, not_false_eq_true]; done)) | k_extra "MY lo" | omega)
  trivial
example : True := by
  k_with "MY enter" => (refine' code_def ?zk1 ?zk2 ?zk3 ?zk4 ?zk5 ?zkA ?zkF ?zkK ?zk6 ?zk7 ?zk8 ?zk9 ?zkB ?_ ?zc2 ?zc3 ?zc4 ?zc5; (case zkA => exact rfl); (case zkF => exact rfl); (case zkK => k_asm); (case zk1 => k_asm); (case zk2 => k_asm); (case zk3 => k_asm); (case zk4 => k_asm); (case zk5 => k_asm); (case zk6 => k_is); (case zk7 => k_is); (case zk8 => ktr_room); (case zk9 => first | exact BindsTo.of_eq rfl | exact binds_K (by k_in) rfl (by k_is) rfl rfl rfl); (case zc5 => decide); (case zkB => exact locs rfl); (case zc2 => exact rfl); (case zc3 => exact rfl); (case zc4 => exact rfl); k_extra "M91c7")
  k_with "MY enterC" => (refine' code_defC ?zk1 ?zk2 ?zk3 ?zk4 ?zk5 ?zkA ?zkF ?zkK ?zk6 ?zk7 ?zk8 ?zk9 ?zkB ?zkD ?_ ?zc2 ?zc3 ?zc4; (case zkA => exact rfl); (case zkF => exact rfl); (case zkK => k_asm); (case zk1 => k_asm); (case zk2 => k_asm); (case zk3 => k_asm); (case zk4 => k_asm); (case zk5 => k_asm); (case zk6 => k_is); (case zk7 => k_is); (case zk8 => ktr_room); (case zk9 => first | exact BindsTo.of_eq rfl | exact binds_K (by k_in) rfl (by k_is) rfl rfl rfl); (case zkB => exact rfl); (case zkD => decide +kernel); (case zc2 => exact rfl); (case zc3 => exact rfl); (case zc4 => exact rfl); k_extra "M289d")
  k_with "MY fn" => (refine wpAny_call ?_; k_dflt (first | k_extra "MY enter" | k_extra "MY enterC"))
  k_with "MY cls" => (k_dflt (refine' call_cls ?zq1 ?zq2 ?zq3 ?zq4 ?zq5 ?zq6 ?_; (case zq1 => k_asm); (case zq2 => k_asm); (case zq3 => k_asm); (case zq4 => k_is); (case zq5 => k_is); (case zq6 => k_is); k_extra "M274b"))
  k_with "MY sub" => repeat' (first | exact List.forall_mem_nil _ | exact Mine.sub_refl | (refine Mine.sub_cons (by k_mem) ?_) | refine Mine.sub_tail ?_)
  k_with "callWith ref" => (k_here; k_dflt (first | refine' callWith_K ?zq1 ?zq2 ?_; (case zq1 => k_asm); (case zq2 => k_is); k_whole | (refine' callWith_K0 (Frag.In.keeps ?zq1 (Fr.keep ?zqF)) ?zq2 ?_; (case zqF => k_asm); (case zq1 => k_asm); (case zq2 => k_is); k_whole) | refine' callWith_K0 ?zq1 ?zq2 ?_; (case zq1 => k_in); (case zq2 => k_is); k_whole))
  k_with "MY lt" => first | assumption | exact Mine.mem_allLt (by assumption) | (refine Mine.mem_allLt ?_; simp only [*]; done)
  trivial
def KernT (te : Addr) (l : List (Addr × Obj)) : Prop := ∃ p1 p2 a1 a2 x1 x2 y1 y2 z1 z2, (te, tup [.ref p2, .ref p1]) ∈ l ∧ (p2, tup [.ref a2, .int 4 z2]) ∈ l ∧ (p1, tup [.ref a1, .int 3 z1]) ∈ l ∧ (a1, tup [.int 2 x1, .int 1 x2]) ∈ l ∧ (a2, tup [.int 1 y1, .int 5 y2]) ∈ l
theorem KernT.mono {te : Addr} {l l' : List (Addr × Obj)} (h : KernT te l) (hs : ∀ p ∈ l, p ∈ l') : KernT te l' := by
  obtain ⟨p1, p2, a1, a2, x1, x2, y1, y2, z1, z2, a, b, c, d, e⟩ := h
  exact ⟨p1, p2, a1, a2, x1, x2, y1, y2, z1, z2, hs _ a, hs _ b, hs _ c, hs _ d, hs _ e⟩
theorem compEnd1 {h₀ : Heap} {L I C D t : Addr} {m : Str → Option Value} {s₁ : Shared} {oI oC oD ot : Obj} {S : List (Addr × Obj) → Prop} {rst : Value → List (Addr × Obj) → Prop} {y : Value} {h' : Heap} {tk : Nat} {news0 : List (Addr × Obj)}
    (F : Fr h₀ L h' m) (N : News h₀ L h' ((t, ot) :: (I, oI) :: (C, oC) :: (D, oD) :: news0)) (l : @LT.lt Nat _ I t ∧ @LT.lt Nat _ C t ∧ @LT.lt Nat _ D t) (off : LCg.Off3 I C D news0) (hS : S ((t, ot) :: news0)) (r : rst y ((t, ot) :: news0)) :
    LCg.CompEnd h₀ L m s₁ I oI C oC D oD S rst y { s₁ with heap := h', toks := tk } := by
  refine ⟨h', tk, (t, ot) :: news0, rfl, F, fun p hp => N p ?_, ⟨⟨Nat.ne_of_gt l.1, Nat.ne_of_gt l.2.1, Nat.ne_of_gt l.2.2⟩, off⟩, hS, r⟩
  simp only [List.mem_cons] at hp ⊢
  rcases hp with h | h | h | h | h <;> simp only [h, true_or, or_true]
example : True := by
  k_with "MY tl" => repeat' (with_reducible first | exact Mine.sub_refl | exact Mine.sub_appR | refine Mine.sub_tail ?_ | refine Mine.sub_left ?_)
  k_with "MY sl" => ((try (with_reducible exact Mine.sub_refl)); (repeat' (refine Mine.sub_cons (by k_mem) ?_)); (k_extra "MY tl"))
  k_with "MY mem" => first | (with_reducible (repeat (first | assumption | exact List.Mem.head _ | (refine List.Mem.tail _ ?_) | (refine List.mem_append_right _ ?_; assumption) | (refine List.mem_append_left _ ?_))); done) | repeat (first | assumption | exact List.Mem.head _ | (refine List.Mem.tail _ ?_) | (refine List.mem_append_right _ ?_; assumption) | (refine List.mem_append_left _ ?_))
  k_with "call type:tuple" => (k_here; (with_reducible show wpAny _ _ (call (Value.type _) [Value.ref _]) _ _ _); k_dflt (refine' kde_tupleOf ?zq1 ?zq2 ?zq3 ?zq4 ?zq5 ?_; (case zq1 => k_asm); (case zq2 => k_asm); (case zq3 => exact News.isList (by k_asm) (by k_mem)); (case zq4 => first | (simp only [List.size_toArray]; (first | k_extra "MY lo" | omega)) | (simp only [List.size_toArray, List.length_map] at *; (first | k_extra "MY lo" | omega))); (case zq5 => first | exact List.toList_toArray | exact List.toList_toArray _ | exact Array.toList_toArray _)); k_extra "M46a0")
  k_with "call ref" => k_extra "MY mt0"
  k_with "MY mt0" => (k_here; (with_reducible show wpAny _ _ (call (Value.ref 91) _) _ _ _); k_dflt (refine' Mine.mt0 ?zqm1 ?zqm2 _ _ _ _ _ _ _ _ _ _ _ _ _ _ _ _ _ ?zqB ?zqF ?zqX ?zqN ?zqT ?zqk ?zqd ?zqu ?_; (case zqB => k_asm); (case zqF => k_asm); (case zqX => k_asm); (case zqN => k_asm); (case zqT => k_asm); (case zqk => first | exact rfl | assumption); (case zqd => ktr_room); (case zqu => ktr_units); (case zqm1 => k_extra "MY mem"); (case zqm2 => k_extra "MY mem")); k_extra "Mdcf1")
  k_with "call ref" => k_extra "MY gt0"
  k_with "MY gt0" => (k_here; (with_reducible show wpAny _ _ (call (Value.ref 200) _) _ _ _); k_dflt (refine' Mine.gt0 ?zqg _ _ _ _ _ _ _ _ _ _ _ _ _ _ _ _ _ ?zqB ?zqF ?zqX ?zqN ?zqT ?zqk ?zqd ?zqu ?_; (case zqB => k_asm); (case zqF => k_asm); (case zqX => k_asm); (case zqN => k_asm); (case zqT => k_asm); (case zqk => first | exact rfl | assumption); (case zqd => ktr_room); (case zqu => ktr_units); (case zqg => first | exact GdefIn.mono (by assumption) (by k_extra "MY tl") | exact (show GdefIn _ [] _ _ from Mine.GdefIn.intro (kvs := []) (by k_mem) (by k_mem) (by k_mem) (by k_mem) (by k_mem) (by k_mem) (by k_mem) (by k_mem) (by k_mem) (by k_mem) (by k_mem) (by assumption) .nil (Nat.zero_le _) ⟨by assumption, by assumption⟩ (by assumption) (by assumption) (by assumption) (by assumption) (by assumption) (by assumption)))); k_extra "M67b0")
  k_with "getMethod ref" => (k_here; (with_reducible show wpAny _ _ (getMethod (Value.ref _) (Str.ofString "told") _) _ _ _); k_dflt (refine' Mine.gi_meth ?zqF ?zqN ?zqg ?zqs ?_ ?zqX; (case zqg => k_asm); (case zqF => k_asm); (case zqX => k_asm); (case zqN => k_asm); (case zqs => k_extra "MY tl")))
  k_with "call ref" => k_extra "MY cm0"
  k_with "MY cm0" => (k_here; (with_reducible show wpAny _ _ (call (Value.ref 343) _) _ _ _); k_dflt (refine' Mine.cm0 ?zqm1 ?zqm2 ?zqm3 ?zqi ?zqf ?zqc ?zqlo _ _ _ _ _ _ _ _ _ _ _ _ _ _ _ _ _ ?zqB ?zqF ?zqX ?zqN ?zqT ?zqk ?zqd ?zqu ?_; (case zqB => k_asm); (case zqF => k_asm); (case zqX => k_asm); (case zqN => k_asm); (case zqT => k_asm); (case zqk => first | exact rfl | assumption); (case zqd => ktr_room); (case zqu => ktr_units); (case zqm1 => k_mem); (case zqm2 => k_mem); (case zqm3 => k_mem); (case zqi => k_asm); (case zqf => first | exact Mine.flat_nil | assumption); (case zqc => first | assumption | decide); (case zqlo => k_asm)); k_extra "M67b0")
  k_with "call builtin:sorted" => (k_here; k_dflt (refine' Mine.kern_sorted ?zqh ?zqF ?zqN (by assumption) ?zqs ?_; (case zqh => rfl); (case zqF => k_asm); (case zqN => k_asm); (case zqs => k_extra "MY tl")); k_extra "Mb1d4")
  k_with "subscriptTail" => k_extra "Ma12a"
  k_with "CompSrc" => (k_here; k_dflt (refine LCg.CompSrc.ledger (by rfl) (by k_asm) (by k_asm) (by k_mem) (Nat.le_of_ble_eq_true rfl) ?_; k_extra "Mfad8"))
  k_with "CompEnd" => (k_dflt (refine' Mine.compEnd1 ?zqF ?zqN ?zql ?zqo ?zqS ?_; (case zqF => k_asm); (case zqN => k_asm); (case zql => (refine ⟨?_, ?_, ?_⟩ <;> (first | k_extra "MY lo" | omega))); (case zqo => first | assumption | ((simp only [LCg.Off3, and_true]); assumption)); (case zqS => exact .inr ⟨_, by k_mem, rfl, _, rfl⟩)))
  k_with "call builtin:list.sort" => (k_here; (with_reducible show wpAny _ _ (call (Value.builtin _) [Value.ref _]) _ _ _); (with_unfolding_all refine' kat_lsort ?F ?N ?U ?e ?z ?y ?_; (case F => k_asm); (case N => k_asm); (case U => k_updF); (case e => kso_lit); (case z => exact Nat.le_of_ble_eq_true rfl); (case y => exact Nat.le_of_ble_eq_true rfl); k_whole); k_extra "M9f4d")
  trivial
local macro_rules | `(tactic| k_extra "Mb1d4") => `(tactic| (intro x0 x1 x2 x3 x4 x5 x6 x7 x8 x9 x10 x11; (try k_lt x11); (try k_sweep)))
local macro_rules | `(tactic| k_extra "Ma12a") => `(tactic| (k_here; (with_reducible show wpAny _ _ (subscriptTail _ _ (Value.ref _) (Value.ref _)) _ _ _); k_dflt (refine' kern_item ?zqu ?zqN (KernAt.mono (by assumption) ?zqs) ?zqm ?zql ?_ (by with_unfolding_all rfl) (by intro _; with_unfolding_all rfl); (case zqN => k_asm); (case zqs => k_extra "MY tl"); (case zqu => ktr_units); (case zqm => k_mem); (case zql => rfl)); intro t' tk'))
local macro_rules | `(tactic| k_extra "Mfad8") => `(tactic| (intro x0; lcg_lit))
local macro_rules | `(tactic| k_extra "M9f4d") => `(tactic| (intro x0 x1 x2 x3; (try dsimp only at x3); (try k_sweep); kat_kinds))
theorem fm0 {w : World} {p : Program} {loose : List Str} {mean : ExcName → Option Value} {mg mb : Str → Option Value} {f df cm mt g0 kd0 : Addr} {k1 k2 k3 k4 k5 k6 : Tok} {d e : Addr} {o : Obj} {j1 j2 : Tok} {kvs : List (Int × Value)} {c : List (Int × Int)} {md wt bt : Addr} {q1 q2 q3 q4 q5 e1 e2 e3 : Tok} {a1 a2 : Addr} {rest : List (Addr × Obj)}
  (mf : (f, instObj 244 df) ∈ rest) (mdf : (df, dictOf [{ hash := PyData.keyHash w.params (Str.ofString "charmap"), key := .str (Str.ofString "charmap") k1, val := .ref cm }, { hash := PyData.keyHash w.params (Str.ofString "metrics"), key := .str (Str.ofString "metrics") k2, val := .ref mt }, { hash := PyData.keyHash w.params (Str.ofString "gdef"), key := .str (Str.ofString "gdef") k3, val := .ref g0 }, { hash := PyData.keyHash w.params (Str.ofString "gsub"), key := .str (Str.ofString "gsub") k4, val := .ref cm }, { hash := PyData.keyHash w.params (Str.ofString "gpos"), key := .str (Str.ofString "gpos") k5, val := .ref mt }, { hash := PyData.keyHash w.params (Str.ofString "kern"), key := .str (Str.ofString "kern") k6, val := .ref kd0 }] 6) ∈ rest) (mc : (cm, instObj 346 d) ∈ rest) (mcd : (d, dictOf [{ hash := PyData.keyHash w.params (Str.ofString "codes"), key := .str (Str.ofString "codes") j1, val := .ref e }, { hash := PyData.keyHash w.params (Str.ofString "variations"), key := .str (Str.ofString "variations") j2, val := .none }] 2) ∈ rest) (me : (e, o) ∈ rest) (i1 : o.IsDictOf (PySem.intKind PySem.Challenge.rw_nu0220_01.row.prog w) kvs) (fl : FlatPairs PyData.int kvs (kdfD c)) (hc : c.length ≤ 3) (lo : (e == sysModules) = false) (mm : (mt, instObj 94 md) ∈ rest) (mmd : (md, dictOf [{ hash := PyData.keyHash w.params (Str.ofString "units"), key := .str (Str.ofString "units") q1, val := .int 16 e1 }, { hash := PyData.keyHash w.params (Str.ofString "ascent"), key := .str (Str.ofString "ascent") q2, val := .int 1 e2 }, { hash := PyData.keyHash w.params (Str.ofString "descent"), key := .str (Str.ofString "descent") q3, val := .int (-1) e3 }, { hash := PyData.keyHash w.params (Str.ofString "advances"), key := .str (Str.ofString "advances") q4, val := .ref wt }, { hash := PyData.keyHash w.params (Str.ofString "bearings"), key := .str (Str.ofString "bearings") q5, val := .ref bt }] 5) ∈ rest) (hkr : KernAt w kd0 a1 a2 rest) (hg : GdefIn w [] g0 rest)
  : ∀ (dp un : Nat) (gd : Option (List Code)) (cn : Str) (cs : Scope) (a : Addr) (ccd : Value) (cl : List (Str × Addr)) (outer : List Env) (A₀ : Around) (base h₀ : Heap) (L : Addr) (m : Str → Option Value) (s : Shared) (Q E : Value → Shared → Prop)
  (_B : Below A₀ base outer h₀) (_F : Fr h₀ L s.heap m) (_X : (hd.heap_39 w.params).In h₀) (_N : News h₀ L s.heap (rest)) (_T : Top p loose mean mg mb h₀) (_hk : cs.kind = .function)
  (_hd : dp + 20 < recursionLimit) (_hu : un + 180 < cLine)
  (_hret : ∀ t tc tm tg tc2 tm2 te tw h' tk', Fr h₀ L h' m → News h₀ L h' (rest ++ tw) → (t, tup [.ref tc, .ref tm, .ref tg, .ref tc2, .ref tm2, .ref te]) ∈ tw → ToldC c tc tw → (tm, tup [.int 16 e1, .int 1 e2, .int (-1) e3, .ref wt, .ref bt]) ∈ tw → GTold [] tg tw → ToldC c tc2 tw → (tm2, tup [.int 16 e1, .int 1 e2, .int (-1) e3, .ref wt, .ref bt]) ∈ tw → KernT te (rest ++ tw) → (∀ p ∈ tw, ∀ q ∈ rest, q.1 < p.1) → Q (.ref t) { s with heap := h', toks := tk' }) ,
  wpAny (model PySem.Challenge.rw_nu0220_01.row.prog w) (ktrTop dp un gd cn cs L a ccd cl outer) (call (.ref 241) [.ref f]) Q E s := by
  k_fill
  intro dp un gd cn cs a ccd cl outer A₀ base h₀ L m s Q E B F X N T hk hd hu hret
  have hkk := hkr
  obtain ⟨ko, es, ep, x1, x2, y1, y2, lo0, mk, kc, kdt, kz, ke1, ke2, ma1, ma2⟩ := kern_keys hkr
  have NN := N
  have hb0 : ∀ q ∈ rest, @LT.lt Nat _ q.1 s.heap.objs.size := fun q hq => Heap.lt_size (N q hq).1
  clear N
  k_extra "MY fn"
  repeat' ((fail_if_success (with_reducible show wpAny _ _ (eval (Expr.ListComp _ _ _ _) _) _ _ _)); (first | (k_unfold; (try dsimp only)) | walk1 | (dsimp only; walk1) | fail "no step"))
  k_dflt (refine LCg.ListComp_U (F₀ := by k_asm) (by with_unfolding_all rfl) (by decide) (by rfl) (by decide) (by rfl) ?_)
  k_steps
  rename_i tc tw1 _ _ rw1 lt1 tm _ _ lm tg tw2 _ _ gt2 lt2 _ _ _ _ _ _ _ _ _ tc2 tw3 _ _ _ _ rw3 lt3 _ _ _ _ _ _ _ _ tm2 _ _ _ _ lm2 _ _ _ _ _ _ _ _ _ mb1 mb2 _ _ _ _ _ _ _ _ _ _ _ _ _ _ _ _ _ _ _ _ z2 _ p2 _ lp2 _ _ _ _ _ _ _ _ _ _ _ _ _ _ z1 _ p1 _ lp1 _ _ _ _ te _ le T1 _ _ _ lT kF kN _ _
  have b1 : ∀ q ∈ rest, @LT.lt Nat _ q.1 tm := by first | exact mem_allLt (by simp only [*]) | exact fun q hq => mem_allLt (l := rest ++ tw1) (by simp only [*]) q (List.mem_append_left _ hq)
  have b2 : ∀ q ∈ rest, @LT.lt Nat _ q.1 tm2 := by first | exact mem_allLt (by simp only [*]) | exact fun q hq => mem_allLt (l := rest ++ tw1 ++ tw2 ++ tw3) (by simp only [*]) q (List.mem_append_left _ (List.mem_append_left _ (List.mem_append_left _ hq)))
  have o1 : @LT.lt Nat _ tm2 p2 ∧ @LT.lt Nat _ tm2 p1 ∧ @LT.lt Nat _ tm2 te ∧ @LT.lt Nat _ tm2 T1 := by refine ⟨?_, ?_, ?_, ?_⟩ <;> (first | k_extra "MY lo" | omega)
  clear lp2 lp1 le lT
  refine hret T1 tc tm tg tc2 tm2 te ((T1, tup [.ref tc, .ref tm, .ref tg, .ref tc2, .ref tm2, .ref te]) :: (te, tup [.ref p2, .ref p1]) :: (p2, tup [.ref a2, .int 4 z2]) :: (p1, tup [.ref a1, .int 3 z1]) :: (tm2, tup [.int 16 e1, .int 1 e2, .int (-1) e3, .ref wt, .ref bt]) :: (tm, tup [.int 16 e1, .int 1 e2, .int (-1) e3, .ref wt, .ref bt]) :: (tw1 ++ tw2 ++ tw3)) _ _ kF (news_sub kN ?_) (.head _) (ToldC.mono rw1 ?_) (by k_mem) (gt2.mono ?_) (ToldC.mono rw3 ?_) (by k_mem) ⟨p1, p2, a1, a2, _, _, _, _, _, _, List.mem_append_right _ (.tail _ (.head _)), List.mem_append_right _ (.tail _ (.tail _ (.head _))), List.mem_append_right _ (.tail _ (.tail _ (.tail _ (.head _)))), List.mem_append_left _ mb1, List.mem_append_left _ mb2⟩ ?_
  · intro p hp
    rcases List.mem_append.mp hp with h | h
    · repeat (first | exact List.mem_append_left _ (List.mem_append_left _ (List.mem_append_left _ h)) | apply List.Mem.tail)
    · simp only [List.mem_cons, List.mem_append] at h
      rcases h with rfl | rfl | rfl | rfl | rfl | rfl | (h | h) | h
      · k_mem
      · k_mem
      · k_mem
      · k_mem
      · k_mem
      · k_mem
      · repeat (first | exact List.mem_append_left _ (List.mem_append_left _ (List.mem_append_right _ h)) | apply List.Mem.tail)
      · repeat (first | exact List.mem_append_left _ (List.mem_append_right _ h) | apply List.Mem.tail)
      · repeat (first | exact List.mem_append_right _ h | apply List.Mem.tail)
  · exact fun p hp => .tail _ (.tail _ (.tail _ (.tail _ (.tail _ (.tail _ (List.mem_append_left _ (List.mem_append_left _ hp)))))))
  · exact fun p hp => .tail _ (.tail _ (.tail _ (.tail _ (.tail _ (.tail _ (List.mem_append_left _ (List.mem_append_right _ hp)))))))
  · exact fun p hp => .tail _ (.tail _ (.tail _ (.tail _ (.tail _ (.tail _ (List.mem_append_right _ hp))))))
  · intro p hp q hq
    have c1' := b1 q hq
    have c2' := b2 q hq
    obtain ⟨u1, u2, u3, u4⟩ := o1
    simp only [List.mem_cons, List.mem_append] at hp
    rcases hp with rfl | rfl | rfl | rfl | rfl | rfl | (h | h) | h
    · exact Nat.lt_trans c2' u4
    · exact Nat.lt_trans c2' u3
    · exact Nat.lt_trans c2' u1
    · exact Nat.lt_trans c2' u2
    · exact c2'
    · exact c1'
    · exact lt1 p h q (by repeat (first | exact hq | apply List.Mem.tail))
    · exact lt2 p h q (by repeat (first | exact List.mem_append_left _ hq | apply List.Mem.tail))
    · exact lt3 p h q (by repeat (first | exact List.mem_append_left _ (List.mem_append_left _ hq) | apply List.Mem.tail))
example : True ∧ True := by w_top off; first | (walk1; done) | exact ⟨trivial, trivial⟩
example : True := by
  k_with_none
  k_with "eval Name" => (k_here; (with_reducible show wpAny _ _ (eval (Expr.Name _ _) (compEnvC _ _ _ _)) _ _ _); k_dflt (first | (name_kind "local"; refine' LCgL.ld_own ?zN ?zm ?zC ?zx ?_ ?zk ?zl ?zd; (case zk => kernel_rfl); (case zl => kernel_rfl); (case zd => kernel_rfl); (case zN => k_asm); (case zm => k_mem); (case zC => assumption); (case zx => assumption); k_whole) | (name_kind "globalImplicit"; first | (refine' LCgL.ld_global ?zF ?zX ?zT ?ze ?_ ?zg ?zk ?zl ?zd; (case zg => kernel_rfl); (case zk => kernel_rfl); (case zl => kernel_rfl); (case zd => kernel_rfl); (case zF => k_asm); (case zX => k_asm); (case zT => k_asm); (case ze => k_is); k_whole) | (refine' LCgL.ld_built ?zF ?zX ?zT ?ze ?zv ?zn ?_ ?zg ?zb ?zk ?zl ?zd; (case zg => kernel_rfl); (case zb => kernel_rfl); (case zk => kernel_rfl); (case zl => kernel_rfl); (case zd => kernel_rfl); (case zF => k_asm); (case zX => k_asm); (case zT => k_asm); (case ze => k_is); (case zv => boot_fast); (case zn => decide); k_whole))))
  k_with "eval Name" => (k_here; (fail_if_success (with_reducible show wpAny _ _ (eval (Expr.Name _ _) (compEnvC _ _ _ _)) _ _ _)); k_dflt (first | (name_kind "local"; refine' nameX_L ?zF ?zv ?_ ?za ?zb ?zc; (case zF => k_asm); (case za => kernel_rfl); (case zb => kernel_rfl); (case zc => kernel_rfl); (case zv => rfl); k_whole) | (name_kind "cell"; refine' nameX_C ?zN ?zl ?zm ?zd ?_ ?za ?zb ?zc; (case za => kernel_rfl); (case zb => kernel_rfl); (case zc => kernel_rfl); (case zN => k_asm); (case zl => rfl); (case zm => k_mem); (case zd => k_asm); k_whole) | (name_kind "globalImplicit"; first | (refine' nameX_K ?zF ?zX ?zT ?ze ?_ ?za ?zb ?zc; (case za => kernel_rfl); (case zb => kernel_rfl); (case zc => kernel_rfl); (case zF => k_asm); (case zX => k_asm); (case zT => k_asm); (case ze => k_is); k_whole) | (refine' nameX_B ?zF ?zX ?zT ?ze ?zv ?zn ?_ ?za ?zb ?zc; (case za => kernel_rfl); (case zb => kernel_rfl); (case zc => kernel_rfl); (case zF => k_asm); (case zX => k_asm); (case zT => k_asm); (case ze => k_is); (case zv => boot_fast); (case zn => decide); k_whole))))
  k_with "ite" => (k_closed; first | (with_reducible refine ite_pos ?zi ?_; (case zi => decide +kernel)) | (with_reducible refine ite_neg ?zi ?_; (case zi => decide +kernel)))
  k_with "getAttr ref" => (k_here; k_dflt (refine' get_own ?zF ?zX ?zI ?zg ?zh ?za ?zn ?zl ?zv ?_; (case zF => k_asm); (case zX => k_asm); (case zI => k_inst); (case zl => k_get); (case zg => k_is); (case zh => k_is); (case za => k_is); (case zn => k_is); (case zv => k_handed); k_whole))
  k_with "spliced" => ((with_reducible show wpAny _ _ (spliced (backTo _ (starEach (_ :: _) _))) _ _ _); k_dflt (refine args_cons ?_))
  k_with "newList" => (k_here; k_dflt (refine' newList_K ?zF ?zN ?_ ?zs; (case zF => k_asm); (case zN => k_asm); (case zs => exact Nat.le_of_ble_eq_true rfl); k_whole); k_extra "M46a0")
  k_with "MY ltp" => ((with_reducible rename @LT.lt Nat _ _ _ ∧ _ => kL); first | (with_reducible first | exact kL.1 | exact kL.2 | exact kL.2.1 | exact kL.2.2 | exact kL.2.2.1 | exact kL.2.2.2 | exact kL.2.2.2.1 | exact kL.2.2.2.2 | exact kL.2.2.2.2.1 | exact kL.2.2.2.2.2 | exact kL.2.2.2.2.2.1 | exact kL.2.2.2.2.2.2 | exact kL.2.2.2.2.2.2.1 | exact kL.2.2.2.2.2.2.2 | exact kL.2.2.2.2.2.2.2.1 | exact kL.2.2.2.2.2.2.2.2 | exact kL.2.2.2.2.2.2.2.2.1 | exact kL.2.2.2.2.2.2.2.2.2 | exact kL.2.2.2.2.2.2.2.2.2.1 | exact kL.2.2.2.2.2.2.2.2.2.2 | exact kL.2.2.2.2.2.2.2.2.2.2.1 | exact kL.2.2.2.2.2.2.2.2.2.2.2 | exact kL.2.2.2.2.2.2.2.2.2.2.2.1 | exact kL.2.2.2.2.2.2.2.2.2.2.2.2 | exact kL.2.2.2.2.2.2.2.2.2.2.2.2.1 | exact kL.2.2.2.2.2.2.2.2.2.2.2.2.2 | exact kL.2.2.2.2.2.2.2.2.2.2.2.2.2.1 | exact kL.2.2.2.2.2.2.2.2.2.2.2.2.2.2 | exact kL.2.2.2.2.2.2.2.2.2.2.2.2.2.2.1 | exact kL.2.2.2.2.2.2.2.2.2.2.2.2.2.2.2 | exact kL.2.2.2.2.2.2.2.2.2.2.2.2.2.2.2.1 | exact kL.2.2.2.2.2.2.2.2.2.2.2.2.2.2.2.2 | exact kL.2.2.2.2.2.2.2.2.2.2.2.2.2.2.2.2.1 | exact kL.2.2.2.2.2.2.2.2.2.2.2.2.2.2.2.2.2 | exact kL.2.2.2.2.2.2.2.2.2.2.2.2.2.2.2.2.2.1 | exact kL.2.2.2.2.2.2.2.2.2.2.2.2.2.2.2.2.2.2 | exact kL.2.2.2.2.2.2.2.2.2.2.2.2.2.2.2.2.2.2.1 | exact kL.2.2.2.2.2.2.2.2.2.2.2.2.2.2.2.2.2.2.2 | exact kL.2.2.2.2.2.2.2.2.2.2.2.2.2.2.2.2.2.2.2.1 | exact kL.2.2.2.2.2.2.2.2.2.2.2.2.2.2.2.2.2.2.2.2 | exact kL.2.2.2.2.2.2.2.2.2.2.2.2.2.2.2.2.2.2.2.2.1 | exact kL.2.2.2.2.2.2.2.2.2.2.2.2.2.2.2.2.2.2.2.2.2 | exact kL.2.2.2.2.2.2.2.2.2.2.2.2.2.2.2.2.2.2.2.2.2.1 | exact kL.2.2.2.2.2.2.2.2.2.2.2.2.2.2.2.2.2.2.2.2.2.2 | exact kL.2.2.2.2.2.2.2.2.2.2.2.2.2.2.2.2.2.2.2.2.2.2.1 | exact kL.2.2.2.2.2.2.2.2.2.2.2.2.2.2.2.2.2.2.2.2.2.2.2) | (clear kL; k_extra "MY ltp"))
  k_with "MY ne" => first | (refine Nat.ne_of_gt ?_; k_extra "MY ltp") | (refine Nat.ne_of_lt ?_; k_extra "MY ltp")
  k_with "newTuple" => (k_here; k_dflt (refine' kup_newTuple ?zF ?zN ?_ ?zs; (case zF => k_asm); (case zN => k_asm); (case zs => kmk_size)); k_extra "M46a0")
  k_with "MY ltq" => first | with_reducible assumption | k_extra "MY ltp" | ((with_reducible refine' Nat.lt_trans ?_ ?klb); (case klb => with_reducible assumption); k_extra "MY ltq") | ((with_reducible refine' Nat.lt_trans ?kla ?_); (case kla => with_reducible assumption); k_extra "MY ltp") | ((with_reducible refine' Nat.lt_succ_of_lt ?_); first | with_reducible assumption | k_extra "MY ltp" | ((with_reducible refine' Nat.lt_succ_of_lt ?_); first | with_reducible assumption | k_extra "MY ltp")) | ((with_reducible refine' Mine.mem_allLt ?_ _ ?klm); (case klm => with_reducible assumption); first | with_reducible assumption | k_extra "MY ltp")
  k_with "MY lo" => first | ((with_reducible show @LT.lt Nat _ _ _); (try dsimp only); k_extra "MY ltq") | ((with_reducible show @Ne Nat _ _); (try dsimp only); first | with_reducible assumption | (refine Ne.symm ?_; with_reducible assumption) | (refine Nat.ne_of_gt ?_; k_extra "MY ltq") | (refine Nat.ne_of_lt ?_; k_extra "MY ltq")) | decide
  k_with "H mem" => first | exact List.Mem.head _ | (refine' List.Mem.tail _ ?_; k_extra "H mem") | ((fail_if_success refine' List.Mem.tail _ ?_); change (_ : Addr × Obj) ∈ (_ : List (Addr × Obj)); first | with_reducible assumption | (with_reducible refine' List.mem_append_left _ ?_; k_extra "H mem") | (with_reducible refine' List.mem_append_right _ ?_; k_extra "H mem"))
  k_with "H room" => ((try simp only [depth_under_make, depth_under_kw, depth_in1, depth_deeper, depth_caller]); (try dsimp only [ktrTop]); first | decide | ((try simp only [Nat.add_assoc, Nat.reduceAdd]); (with_reducible rename _ + _ < recursionLimit => kH); first | exact Mine.room_of kH rfl | exact Mine.room_at kH) | omega)
  k_with "H units" => ((try simp only [units_in1, units_deeper, Around.mark_units, units_caller]); (try dsimp only [ktrTop]); first | decide | ((try simp only [Nat.add_assoc, Nat.reduceAdd]); (with_reducible rename _ + _ < cLine => kH); first | exact Mine.room_of kH rfl | exact Mine.room_at kH) | omega)
  k_with "H ne" => (refine neN ?_; (try dsimp only); first | with_reducible assumption | (refine Ne.symm ?_; with_reducible assumption) | (with_reducible first | exact Nat.ne_of_lt (by assumption) | exact Nat.ne_of_gt (by assumption)) | k_extra "MY ne" | ((with_reducible rename (_ ≠ _ ∧ _ ≠ _ ∧ _ ≠ _) ∧ _ => kOff); first | (simp only [kOff, ne_eq, not_false_eq_true]; done) | (refine Ne.symm ?_; simp only [kOff, ne_eq, not_false_eq_true]; done)) | k_extra "MY lo" | omega)
  trivial
section
variable {A : Around} {s : Shared} {h₀ : Heap} {L t t' : Addr} {news tl tl' : List (Addr × Obj)} {c : List (Int × Int)}
theorem toldC_eq (N : News h₀ L s.heap news) (s1 : ∀ p ∈ tl, p ∈ news) (s2 : ∀ p ∈ tl', p ∈ news) (hu : A.units + 2 < cLine) (h : ToldC c t tl) (h' : ToldC c t' tl') : SeqAt.EqAt A s (.ref t) (.ref t') true := by
  by_cases hq : t = t'
  · subst hq; exact SeqAt.EqAt.same _
  · obtain ⟨r, m, a⟩ := h
    obtain ⟨r', m', a'⟩ := h'
    refine SeqAt.EqAt.of_refs hq (eqAt_tup N (s1 _ m) (s2 _ m') (by (first | k_extra "MY lo" | omega)) rfl fun j h1 h2 => ?_)
    match j, h1, h2 with
    | 0, _, _ => exact rowsC_eq (A := A.in1) N s1 s2 (by rw [units_in1]; (first | k_extra "MY lo" | omega)) a a'
    | 1, _, _ => exact SeqAt.EqAt.same _
    | _ + 2, h, _ => exact absurd h (by simp)
theorem pair_eq {a b : Int} {x y x' y' : Tok} (N : News h₀ L s.heap news) (m : (t, tup [.int a x, .int b y]) ∈ news) (m' : (t', tup [.int a x', .int b y']) ∈ news) (hu : A.units < cLine) : SeqAt.EqAt A s (.ref t) (.ref t') true := by
  by_cases hq : t = t'
  · subst hq; exact SeqAt.EqAt.same _
  · refine SeqAt.EqAt.of_refs hq (eqAt_tup N m m' hu rfl fun j h1 h2 => ?_)
    match j, h1, h2 with
    | 0, _, _ => have := SeqAt.EqAt.int_int (A := A.in1) (s := s) a x a x'; simpa using this
    | 1, _, _ => have := SeqAt.EqAt.int_int (A := A.in1) (s := s) b y b y'; simpa using this
    | _ + 2, h, _ => exact absurd h (by simp)
theorem krow_eq {p p' a a' : Addr} {e : Int} {z z' : Tok} (N : News h₀ L s.heap news) (m : (p, tup [.ref a, .int e z]) ∈ news) (m' : (p', tup [.ref a', .int e z']) ∈ news) (hu : A.units < cLine) (h : SeqAt.EqAt A.in1 s (.ref a) (.ref a') true) : SeqAt.EqAt A s (.ref p) (.ref p') true := by
  by_cases hq : p = p'
  · subst hq; exact SeqAt.EqAt.same _
  · refine SeqAt.EqAt.of_refs hq (eqAt_tup N m m' hu rfl fun j h1 h2 => ?_)
    match j, h1, h2 with
    | 0, _, _ => exact h
    | 1, _, _ => have := SeqAt.EqAt.int_int (A := A.in1) (s := s) e z e z'; simpa using this
    | _ + 2, h, _ => exact absurd h (by simp)
theorem kernT_eq (N : News h₀ L s.heap news) (hu : A.units + 2 < cLine) (h : KernT t news) (h' : KernT t' news) : SeqAt.EqAt A s (.ref t) (.ref t') true := by
  by_cases hq : t = t'
  · subst hq; exact SeqAt.EqAt.same _
  · obtain ⟨p1, p2, a1, a2, x1, x2, y1, y2, z1, z2, m, mp2, mp1, ma1, ma2⟩ := h
    obtain ⟨p1', p2', a1', a2', x1', x2', y1', y2', z1', z2', m', mp2', mp1', ma1', ma2'⟩ := h'
    refine SeqAt.EqAt.of_refs hq (eqAt_tup N m m' (by (first | k_extra "MY lo" | omega)) rfl fun j h1 h2 => ?_)
    match j, h1, h2 with
    | 0, _, _ => exact krow_eq N mp2 mp2' (by rw [units_in1]; (first | k_extra "MY lo" | omega)) (pair_eq N ma2 ma2' (by rw [units_in1, units_in1]; (first | k_extra "MY lo" | omega)))
    | 1, _, _ => exact krow_eq N mp1 mp1' (by rw [units_in1]; (first | k_extra "MY lo" | omega)) (pair_eq N ma1 ma1' (by rw [units_in1, units_in1]; (first | k_extra "MY lo" | omega)))
    | _ + 2, h, _ => exact absurd h (by simp)
theorem bare_ne {prog : Program} {w : World} {E : Value → Shared → Prop} {Q : Value → Shared → Prop} {tc tm tg te tc' tm' tg' te' : Addr} {xs : Array Value} {n n' : Nat} (N : News h₀ L s.heap news) (s1 : ∀ p ∈ tl, p ∈ news) (s2 : ∀ p ∈ tl', p ∈ news) (hu : A.units + 4 < cLine) (m : (t, ({ cls := .type "tuple", data := .seq #[.ref tc, .ref tm, .ref tg, .none, .none, .ref te] n } : Obj)) ∈ news) (m' : (t', ({ cls := .type "tuple", data := .seq #[.ref tc', .ref tm', .ref tg', .none, .none, .ref te'] n' } : Obj)) ∈ news)
    (a : ToldC c tc tl) (a' : ToldC c tc' tl') (bm : (tm, ({ cls := .type "tuple", data := .seq xs n } : Obj)) ∈ news) (bm' : (tm', ({ cls := .type "tuple", data := .seq xs n' } : Obj)) ∈ news) (g : GTold [] tg tl) (g' : GTold [] tg' tl') (e : (te, tup []) ∈ news) (e' : (te', tup []) ∈ news)
    (k : Q (.bool false) s) : wpAny (model prog w) A (compareOp .NotEq (.ref t) (.ref t')) Q E s := by
  refine neAt_tup N m m' (by (first | k_extra "MY lo" | omega)) rfl (fun j h1 h2 => ?_) k
  match j, h1, h2 with
  | 0, _, _ => exact toldC_eq N s1 s2 (by rw [units_in1]; (first | k_extra "MY lo" | omega)) a a'
  | 1, _, _ => exact tup_same N bm bm' (by rw [units_in1]; (first | k_extra "MY lo" | omega))
  | 2, _, _ => exact gt_eq N s1 s2 (by rw [units_in1]; (first | k_extra "MY lo" | omega)) g g'
  | 3, _, _ => exact SeqAt.EqAt.same _
  | 4, _, _ => exact SeqAt.EqAt.same _
  | 5, _, _ => exact tup_same N e e' (by rw [units_in1]; (first | k_extra "MY lo" | omega))
  | _ + 6, h, _ => exact absurd h (by simp)
theorem more_ne {prog : Program} {w : World} {E : Value → Shared → Prop} {Q : Value → Shared → Prop} {tc tm tg tc2 tm2 te uc um ug ue : Addr} {xs : Array Value} {n n' : Nat} (N : News h₀ L s.heap news) (s1 : ∀ p ∈ tl, p ∈ news) (s2 : ∀ p ∈ tl', p ∈ news) (hu : A.units + 4 < cLine) (m : (t, ({ cls := .type "tuple", data := .seq #[.ref tc, .ref tm, .ref tg, .ref tc2, .ref tm2, .ref te] n } : Obj)) ∈ news) (m' : (t', ({ cls := .type "tuple", data := .seq #[.ref uc, .ref um, .ref ug, .ref uc, .ref um, .ref ue] n' } : Obj)) ∈ news)
    (a : ToldC c tc tl) (a2 : ToldC c tc2 tl) (a' : ToldC c uc tl') (bm : (tm, ({ cls := .type "tuple", data := .seq xs n } : Obj)) ∈ news) (bm2 : (tm2, ({ cls := .type "tuple", data := .seq xs n } : Obj)) ∈ news) (bm' : (um, ({ cls := .type "tuple", data := .seq xs n' } : Obj)) ∈ news) (g : GTold [] tg tl) (g' : GTold [] ug tl') (e : KernT te news) (e' : KernT ue news)
    (k : Q (.bool false) s) : wpAny (model prog w) A (compareOp .NotEq (.ref t) (.ref t')) Q E s := by
  refine neAt_tup N m m' (by (first | k_extra "MY lo" | omega)) rfl (fun j h1 h2 => ?_) k
  match j, h1, h2 with
  | 0, _, _ => exact toldC_eq N s1 s2 (by rw [units_in1]; (first | k_extra "MY lo" | omega)) a a'
  | 1, _, _ => exact tup_same N bm bm' (by rw [units_in1]; (first | k_extra "MY lo" | omega))
  | 2, _, _ => exact gt_eq N s1 s2 (by rw [units_in1]; (first | k_extra "MY lo" | omega)) g g'
  | 3, _, _ => exact toldC_eq N s1 s2 (by rw [units_in1]; (first | k_extra "MY lo" | omega)) a2 a'
  | 4, _, _ => exact tup_same N bm2 bm' (by rw [units_in1]; (first | k_extra "MY lo" | omega))
  | 5, _, _ => exact kernT_eq N (by rw [units_in1]; (first | k_extra "MY lo" | omega)) e e'
  | _ + 6, h, _ => exact absurd h (by simp)
end
section
open PySem.Calls
section
section
variable {prog : Program} {w : World} {A : Around} {E : Value → Shared → Prop} {s : Shared} {env : Env} {h₀ : Heap} {x y : Str} {body : List Stmt} {Q : Flow → Shared → Prop}
def TurnPost (h₀ : Heap) (L : Addr) (m₀ : Str → Option Value) (x y : Str) (all : List (Addr × Obj)) (s : Shared) (Q : Flow → Shared → Prop) (f : Flow) (s₂ : Shared) : Prop :=
  match f with
  | .ret v => Q (.ret v) s₂
  | .brk => Q .next s₂
  | _ => ∃ h' tk' m', s₂ = { s with heap := h', toks := tk' } ∧ Fr h₀ L h' m' ∧ News h₀ L h' all ∧ ∀ z, z ≠ x → z ≠ y → m' z = m₀ z
theorem TurnPost.mk {L : Addr} {m₀ m' : Str → Option Value} {all all' : List (Addr × Obj)} {h' : Heap} {tk' : Nat} (F : Fr h₀ L h' m') (N : News h₀ L h' all') (hs : ∀ p ∈ all, p ∈ all') (hm : ∀ z, z ≠ x → z ≠ y → m' z = m₀ z) : TurnPost h₀ L m₀ x y all s Q .next { s with heap := h', toks := tk' } :=
  ⟨h', tk', m', rfl, F, fun p hp => N p (hs p hp), hm⟩
theorem map_xy {m₁ m₀ : Str → Option Value} (hm : ∀ z, z ≠ x → z ≠ y → m₁ z = m₀ z) : m₁ = fun z => if z = x then m₁ x else if z = y then m₁ y else m₀ z := by
  funext z
  by_cases h1 : z = x
  · rw [if_pos h1]; first | rw [h1] | rfl
  · by_cases h2 : z = y
    · rw [if_neg h1, if_pos h2]; first | rw [h2] | (rw [if_neg h1]; rw [h2])
    · rw [if_neg h1, if_neg h2]; first | exact hm z h1 h2 | (rw [if_neg h1]; exact hm z h1 h2)
theorem map_xyv {m₁ m₀ : Str → Option Value} {v : Option Value} (hm : ∀ z, z ≠ x → z ≠ y → m₁ z = m₀ z) : (fun z => if z = x then v else m₁ z) = fun z => if z = x then v else if z = y then m₁ y else m₀ z := by
  funext z
  by_cases h1 : z = x
  · rw [if_pos h1, if_pos h1]
  · by_cases h2 : z = y
    · rw [if_neg h1, if_neg h1, if_pos h2, h2]
    · rw [if_neg h1, if_neg h1, if_neg h2]; exact hm z h1 h2
theorem inv2 {I : Addr} {fp wr : List Addr} {n : Nat} {P : Nat → Value → Prop} {St : Nat → Heap → Prop} {m₀ : Str → Option Value} {news : List (Addr × Obj)} (K : Int → Prop)
    (W : Walks prog w A I fp wr n P St) (hLf : env.locals ∉ fp) (hwr : ∀ b ∈ wr, h₀.get? b = none) (hnw : ∀ p ∈ news, p.1 ∉ wr) (hfp : ∀ q ∈ news, q.1 ∉ fp) (hst : St 0 s.heap) (F : Fr h₀ env.locals s.heap m₀) (N : News h₀ env.locals s.heap news)
    (hP : ∀ i v, i < n → P i v → ∃ k t, v = Value.int k t ∧ K k)
    (turn : ∀ k t u h tk own, K k → OwnOff own (news.map (·.1)) → Fr h₀ env.locals h (fun z => if z = x then some (.int k t) else if z = y then u else m₀ z) → News h₀ env.locals h (news ++ own) →
      wpAny (model prog w) A (execs body env) (TurnPost h₀ env.locals m₀ x y (news ++ own) s Q) E { s with heap := h, toks := tk })
    (done : ∀ u v h tk, Fr h₀ env.locals h (fun z => if z = x then u else if z = y then v else m₀ z) → News h₀ env.locals h news → Q .next { s with heap := h, toks := tk }) :
    LoopAtV prog w A h₀ env x body Q E (.ref I) s := by
  refine loop_invN (fun _ m nx => nx = news ∧ ∀ z, z ≠ x → z ≠ y → m z = m₀ z) W hLf hwr hnw hfp hst F N ⟨rfl, fun _ _ _ => rfl⟩ ?_ ?_
  · rintro i v m₁ nx h tk own hi hv _ ho ⟨rfl, hJ⟩ F' N'
    obtain ⟨k, t, rfl, hk⟩ := hP i v hi hv
    rw [map_xyv hJ] at F'
    refine wpAny_mono (turn k t _ h tk own hk ho F' N') (fun f s₂ p => ?_) fun _ _ e => e
    have fin : (∃ h' tk' m', s₂ = { s with heap := h', toks := tk' } ∧ Fr h₀ env.locals h' m' ∧ News h₀ env.locals h' (nx ++ own) ∧ ∀ z, z ≠ x → z ≠ y → m' z = m₀ z) → InvEndN h₀ env.locals (fun m nx' => nx' = nx ∧ ∀ z, z ≠ x → z ≠ y → m z = m₀ z) own (nx.map (·.1)) { s with heap := h, toks := tk } s₂ := by
      rintro ⟨h', tk', m', e, F2, N2, hm⟩
      exact ⟨h', tk', m', _, nx, by rw [e], F2, N2, fun p hp => List.mem_append_left _ hp, fun p hp => List.mem_append_right _ hp, rfl, rfl, hm⟩
    cases f with
    | ret v => exact p
    | brk => exact p
    | next => exact fin p
    | cont => exact fin p
  · rintro m₁ nx h tk ⟨rfl, hJ⟩ F' N'
    rw [map_xy hJ] at F'
    exact done _ _ h tk F' N'
theorem tup2 {l : Addr} {vs : List Value} {n : Nat} {m₀ : Str → Option Value} {news all : List (Addr × Obj)} (K : Int → Prop) (hh : A.handled = none) (F : Fr h₀ env.locals s.heap m₀) (N : News h₀ env.locals s.heap all) (ml : (l, ({ cls := .type "tuple", data := .seq vs.toArray n } : Obj)) ∈ all) (hs : ∀ p ∈ news, p ∈ all) (hne : ∀ p ∈ news, p.1 ≠ l)
    (hK : ∀ v ∈ vs, ∃ k t, v = Value.int k t ∧ K k)
    (turn : ∀ k t u h tk own, K k → OwnOff own (news.map (·.1)) → Fr h₀ env.locals h (fun z => if z = x then some (.int k t) else if z = y then u else m₀ z) → News h₀ env.locals h (news ++ own) →
      wpAny (model prog w) A (execs body env) (TurnPost h₀ env.locals m₀ x y (news ++ own) s Q) E { s with heap := h, toks := tk })
    (done : ∀ u v h tk, Fr h₀ env.locals h (fun z => if z = x then u else if z = y then v else m₀ z) → News h₀ env.locals h news → Q .next { s with heap := h, toks := tk }) :
    wpAny (model prog w) A (pyIter (.ref l)) (fun it s₂ => LoopAtV prog w A h₀ env x body Q E it s₂) E s := by
  have ht : s.heap.IsTuple l vs.toArray := ⟨_, (N _ ml).1, rfl, _, rfl⟩
  have hlt : l < s.heap.objs.size := Heap.lt_size (N _ ml).1
  have hlL : l ≠ env.locals := (N _ ml).2.1
  have N0 : News h₀ env.locals s.heap news := fun p hp => N p (hs p hp)
  refine wpAny_pyIter_tuple ht ?_
  have up : ∀ b o, s.heap.get? b = some o → (s.heap.push { cls := .type "tuple_iterator", data := .fields #[.ref l, .int 0 0] }).get? b = some o := fun b o e => Heap.get?_push_of_some _ e
  refine inv2 (x := x) (y := y) (n := vs.toArray.size) K (Walks.tuple hh s.heap.objs.size l (Nat.ne_of_lt hlt) vs.toArray) ?_ ?_ ?_ ?_ ⟨⟨_, Heap.get?_push_size _ rfl, rfl, rfl⟩, ht.at fun o e => up _ o e⟩ (F.push _) (fun p hp => ⟨up _ _ (N0 p hp).1, (N0 p hp).2⟩) ?_ ?_ ?_
  · intro hm
    rcases List.mem_cons.mp hm with e | hm
    · exact absurd F.ns.lt (e ▸ Nat.lt_irrefl _)
    · exact hlL (List.mem_singleton.mp hm).symm
  · intro b hb
    rw [List.mem_singleton.mp hb]
    exact next_is_new F
  · intro p hp hI
    exact absurd (Heap.lt_size (N0 p hp).1) ((List.mem_singleton.mp hI) ▸ Nat.lt_irrefl _)
  · intro p hp hI
    rcases List.mem_cons.mp hI with e | hI
    · exact absurd (Heap.lt_size (N0 p hp).1) (e ▸ Nat.lt_irrefl _)
    · exact hne p hp (List.mem_singleton.mp hI)
  · intro i v hi hv
    refine hK v ?_
    rw [List.getElem?_toArray] at hv
    exact List.mem_of_getElem? hv
  · intro k t u h tk own hk ho F' N'
    exact turn k t u h tk own hk ho F' N'
  · intro u v h tk F' N'
    exact done u v h tk F' N'
theorem rng2 {r : Addr} {a₀ b₀ : Int} {t₀ u₀ v₀ : Tok} {n : Nat} {m₀ : Str → Option Value} {news : List (Addr × Obj)} (hh : A.handled = none) (hr : IsRange s.heap r a₀ b₀ 1 t₀ u₀ v₀) (hsmall : Builtin.Range.small a₀ b₀ 1 = true) (hn : Builtin.Range.rangeSize a₀ b₀ 1 = (n : Int)) (F : Fr h₀ env.locals s.heap m₀) (N : News h₀ env.locals s.heap news)
    (turn : ∀ k t u h tk own, (a₀ ≤ k ∧ k < a₀ + (n : Int)) → OwnOff own (news.map (·.1)) → Fr h₀ env.locals h (fun z => if z = x then some (.int k t) else if z = y then u else m₀ z) → News h₀ env.locals h (news ++ own) →
      wpAny (model prog w) A (execs body env) (TurnPost h₀ env.locals m₀ x y (news ++ own) s Q) E { s with heap := h, toks := tk })
    (done : ∀ u v h tk, Fr h₀ env.locals h (fun z => if z = x then u else if z = y then v else m₀ z) → News h₀ env.locals h news → Q .next { s with heap := h, toks := tk }) :
    wpAny (model prog w) A (pyIter (.ref r)) (fun it s₂ => LoopAtV prog w A h₀ env x body Q E it s₂) E s := by
  refine kpr_invN (fun _ m nx => nx = news ∧ ∀ z, z ≠ x → z ≠ y → m z = m₀ z) hh hr hsmall hn F N ⟨rfl, fun _ _ _ => rfl⟩ ?_ ?_
  · rintro i k t m₁ nx h tk own hk ho ⟨rfl, hJ⟩ F' N'
    rw [map_xyv hJ] at F'
    refine wpAny_mono (turn k t _ h tk own (mem_rangeKs (List.mem_of_getElem? hk)) ho F' N') (fun f s₂ p => ?_) fun _ _ e => e
    have fin : (∃ h' tk' m', s₂ = { s with heap := h', toks := tk' } ∧ Fr h₀ env.locals h' m' ∧ News h₀ env.locals h' (nx ++ own) ∧ ∀ z, z ≠ x → z ≠ y → m' z = m₀ z) → InvEndN h₀ env.locals (fun m nx' => nx' = nx ∧ ∀ z, z ≠ x → z ≠ y → m z = m₀ z) own (nx.map (·.1)) { s with heap := h, toks := tk } s₂ := by
      rintro ⟨h', tk', m', e, F2, N2, hm⟩
      exact ⟨h', tk', m', _, nx, by rw [e], F2, N2, fun p hp => List.mem_append_left _ hp, fun p hp => List.mem_append_right _ hp, rfl, rfl, hm⟩
    cases f with
    | ret v => exact p
    | brk => exact p
    | next => exact fin p
    | cont => exact fin p
  · rintro m₁ nx h tk ⟨rfl, hJ⟩ F' N'
    rw [map_xy hJ] at F'
    exact done _ _ h tk F' N'
end
end
end
example : True ∧ True := by w_top off; first | (walk1; done) | exact ⟨trivial, trivial⟩
example : True := by
  k_with_none
  k_with "eval Name" => (k_here; (with_reducible show wpAny _ _ (eval (Expr.Name _ _) (compEnvC _ _ _ _)) _ _ _); k_dflt (first | (name_kind "local"; refine' LCgL.ld_own ?zN ?zm ?zC ?zx ?_ ?zk ?zl ?zd; (case zk => kernel_rfl); (case zl => kernel_rfl); (case zd => kernel_rfl); (case zN => k_asm); (case zm => k_mem); (case zC => assumption); (case zx => assumption); k_whole) | (name_kind "globalImplicit"; first | (refine' LCgL.ld_global ?zF ?zX ?zT ?ze ?_ ?zg ?zk ?zl ?zd; (case zg => kernel_rfl); (case zk => kernel_rfl); (case zl => kernel_rfl); (case zd => kernel_rfl); (case zF => k_asm); (case zX => k_asm); (case zT => k_asm); (case ze => k_is); k_whole) | (refine' LCgL.ld_built ?zF ?zX ?zT ?ze ?zv ?zn ?_ ?zg ?zb ?zk ?zl ?zd; (case zg => kernel_rfl); (case zb => kernel_rfl); (case zk => kernel_rfl); (case zl => kernel_rfl); (case zd => kernel_rfl); (case zF => k_asm); (case zX => k_asm); (case zT => k_asm); (case ze => k_is); (case zv => boot_fast); (case zn => decide); k_whole))))
  k_with "eval Name" => (k_here; (fail_if_success (with_reducible show wpAny _ _ (eval (Expr.Name _ _) (compEnvC _ _ _ _)) _ _ _)); k_dflt (first | (name_kind "local"; refine' nameX_L ?zF ?zv ?_ ?za ?zb ?zc; (case zF => k_asm); (case za => kernel_rfl); (case zb => kernel_rfl); (case zc => kernel_rfl); (case zv => rfl); k_whole) | (name_kind "cell"; refine' nameX_C ?zN ?zl ?zm ?zd ?_ ?za ?zb ?zc; (case za => kernel_rfl); (case zb => kernel_rfl); (case zc => kernel_rfl); (case zN => k_asm); (case zl => rfl); (case zm => k_mem); (case zd => k_asm); k_whole) | (name_kind "globalImplicit"; first | (refine' nameX_K ?zF ?zX ?zT ?ze ?_ ?za ?zb ?zc; (case za => kernel_rfl); (case zb => kernel_rfl); (case zc => kernel_rfl); (case zF => k_asm); (case zX => k_asm); (case zT => k_asm); (case ze => k_is); k_whole) | (refine' nameX_B ?zF ?zX ?zT ?ze ?zv ?zn ?_ ?za ?zb ?zc; (case za => kernel_rfl); (case zb => kernel_rfl); (case zc => kernel_rfl); (case zF => k_asm); (case zX => k_asm); (case zT => k_asm); (case ze => k_is); (case zv => boot_fast); (case zn => decide); k_whole))))
  k_with "ite" => (k_closed; first | (with_reducible refine ite_pos ?zi ?_; (case zi => decide +kernel)) | (with_reducible refine ite_neg ?zi ?_; (case zi => decide +kernel)))
  k_with "getAttr ref" => (k_here; k_dflt (refine' get_own ?zF ?zX ?zI ?zg ?zh ?za ?zn ?zl ?zv ?_; (case zF => k_asm); (case zX => k_asm); (case zI => k_inst); (case zl => k_get); (case zg => k_is); (case zh => k_is); (case za => k_is); (case zn => k_is); (case zv => k_handed); k_whole))
  k_with "spliced" => ((with_reducible show wpAny _ _ (spliced (backTo _ (starEach (_ :: _) _))) _ _ _); k_dflt (refine args_cons ?_))
  k_with "newList" => (k_here; k_dflt (refine' newList_K ?zF ?zN ?_ ?zs; (case zF => k_asm); (case zN => k_asm); (case zs => exact Nat.le_of_ble_eq_true rfl); k_whole); k_extra "M46a0")
  k_with "MY ltp" => ((with_reducible rename @LT.lt Nat _ _ _ ∧ _ => kL); first | (with_reducible first | exact kL.1 | exact kL.2 | exact kL.2.1 | exact kL.2.2 | exact kL.2.2.1 | exact kL.2.2.2 | exact kL.2.2.2.1 | exact kL.2.2.2.2 | exact kL.2.2.2.2.1 | exact kL.2.2.2.2.2 | exact kL.2.2.2.2.2.1 | exact kL.2.2.2.2.2.2 | exact kL.2.2.2.2.2.2.1 | exact kL.2.2.2.2.2.2.2 | exact kL.2.2.2.2.2.2.2.1 | exact kL.2.2.2.2.2.2.2.2 | exact kL.2.2.2.2.2.2.2.2.1 | exact kL.2.2.2.2.2.2.2.2.2 | exact kL.2.2.2.2.2.2.2.2.2.1 | exact kL.2.2.2.2.2.2.2.2.2.2 | exact kL.2.2.2.2.2.2.2.2.2.2.1 | exact kL.2.2.2.2.2.2.2.2.2.2.2 | exact kL.2.2.2.2.2.2.2.2.2.2.2.1 | exact kL.2.2.2.2.2.2.2.2.2.2.2.2 | exact kL.2.2.2.2.2.2.2.2.2.2.2.2.1 | exact kL.2.2.2.2.2.2.2.2.2.2.2.2.2 | exact kL.2.2.2.2.2.2.2.2.2.2.2.2.2.1 | exact kL.2.2.2.2.2.2.2.2.2.2.2.2.2.2 | exact kL.2.2.2.2.2.2.2.2.2.2.2.2.2.2.1 | exact kL.2.2.2.2.2.2.2.2.2.2.2.2.2.2.2 | exact kL.2.2.2.2.2.2.2.2.2.2.2.2.2.2.2.1 | exact kL.2.2.2.2.2.2.2.2.2.2.2.2.2.2.2.2 | exact kL.2.2.2.2.2.2.2.2.2.2.2.2.2.2.2.2.1 | exact kL.2.2.2.2.2.2.2.2.2.2.2.2.2.2.2.2.2 | exact kL.2.2.2.2.2.2.2.2.2.2.2.2.2.2.2.2.2.1 | exact kL.2.2.2.2.2.2.2.2.2.2.2.2.2.2.2.2.2.2 | exact kL.2.2.2.2.2.2.2.2.2.2.2.2.2.2.2.2.2.2.1 | exact kL.2.2.2.2.2.2.2.2.2.2.2.2.2.2.2.2.2.2.2 | exact kL.2.2.2.2.2.2.2.2.2.2.2.2.2.2.2.2.2.2.2.1 | exact kL.2.2.2.2.2.2.2.2.2.2.2.2.2.2.2.2.2.2.2.2 | exact kL.2.2.2.2.2.2.2.2.2.2.2.2.2.2.2.2.2.2.2.2.1 | exact kL.2.2.2.2.2.2.2.2.2.2.2.2.2.2.2.2.2.2.2.2.2 | exact kL.2.2.2.2.2.2.2.2.2.2.2.2.2.2.2.2.2.2.2.2.2.1 | exact kL.2.2.2.2.2.2.2.2.2.2.2.2.2.2.2.2.2.2.2.2.2.2 | exact kL.2.2.2.2.2.2.2.2.2.2.2.2.2.2.2.2.2.2.2.2.2.2.1 | exact kL.2.2.2.2.2.2.2.2.2.2.2.2.2.2.2.2.2.2.2.2.2.2.2) | (clear kL; k_extra "MY ltp"))
  k_with "MY ne" => first | (refine Nat.ne_of_gt ?_; k_extra "MY ltp") | (refine Nat.ne_of_lt ?_; k_extra "MY ltp")
  k_with "newTuple" => (k_here; k_dflt (refine' kup_newTuple ?zF ?zN ?_ ?zs; (case zF => k_asm); (case zN => k_asm); (case zs => kmk_size)); k_extra "M46a0")
  k_with "MY ltq" => first | with_reducible assumption | k_extra "MY ltp" | ((with_reducible refine' Nat.lt_trans ?_ ?klb); (case klb => with_reducible assumption); k_extra "MY ltq") | ((with_reducible refine' Nat.lt_trans ?kla ?_); (case kla => with_reducible assumption); k_extra "MY ltp") | ((with_reducible refine' Nat.lt_succ_of_lt ?_); first | with_reducible assumption | k_extra "MY ltp" | ((with_reducible refine' Nat.lt_succ_of_lt ?_); first | with_reducible assumption | k_extra "MY ltp")) | ((with_reducible refine' Mine.mem_allLt ?_ _ ?klm); (case klm => with_reducible assumption); first | with_reducible assumption | k_extra "MY ltp")
  k_with "MY lo" => first | ((with_reducible show @LT.lt Nat _ _ _); (try dsimp only); k_extra "MY ltq") | ((with_reducible show @Ne Nat _ _); (try dsimp only); first | with_reducible assumption | (refine Ne.symm ?_; with_reducible assumption) | (refine Nat.ne_of_gt ?_; k_extra "MY ltq") | (refine Nat.ne_of_lt ?_; k_extra "MY ltq")) | decide
  k_with "H mem" => first | exact List.Mem.head _ | (refine' List.Mem.tail _ ?_; k_extra "H mem") | ((fail_if_success refine' List.Mem.tail _ ?_); change (_ : Addr × Obj) ∈ (_ : List (Addr × Obj)); first | with_reducible assumption | (with_reducible refine' List.mem_append_left _ ?_; k_extra "H mem") | (with_reducible refine' List.mem_append_right _ ?_; k_extra "H mem"))
  k_with "H room" => ((try simp only [depth_under_make, depth_under_kw, depth_in1, depth_deeper, depth_caller]); (try dsimp only [ktrTop]); first | decide | ((try simp only [Nat.add_assoc, Nat.reduceAdd]); (with_reducible rename _ + _ < recursionLimit => kH); first | exact Mine.room_of kH rfl | exact Mine.room_at kH) | omega)
  k_with "H units" => ((try simp only [units_in1, units_deeper, Around.mark_units, units_caller]); (try dsimp only [ktrTop]); first | decide | ((try simp only [Nat.add_assoc, Nat.reduceAdd]); (with_reducible rename _ + _ < cLine => kH); first | exact Mine.room_of kH rfl | exact Mine.room_at kH) | omega)
  k_with "H ne" => (refine neN ?_; (try dsimp only); first | with_reducible assumption | (refine Ne.symm ?_; with_reducible assumption) | (with_reducible first | exact Nat.ne_of_lt (by assumption) | exact Nat.ne_of_gt (by assumption)) | k_extra "MY ne" | ((with_reducible rename (_ ≠ _ ∧ _ ≠ _ ∧ _ ≠ _) ∧ _ => kOff); first | (simp only [kOff, ne_eq, not_false_eq_true]; done) | (refine Ne.symm ?_; simp only [kOff, ne_eq, not_false_eq_true]; done)) | k_extra "MY lo" | omega)
  trivial
section
open PySem.Calls
section
section
variable {prog : Program} {w : World} {A : Around} {E : Value → Shared → Prop} {s : Shared} {h₀ : Heap} {L : Addr} {m : Str → Option Value} {news : List (Addr × Obj)}
theorem applied_upto {sl : Addr} {b n : Nat} {u : Tok} {Q : Int × Int × Nat → Shared → Prop} (hs : s.heap.IsSliceOf sl .none (.int b u) .none) (hb : b ≤ n) (h : Q (0, 1, b) s) :
    wpAny (model prog w) A (Builtin.Slice.sliceApplied (.ref sl) (pure (n : Int))) Q E s := by
  obtain ⟨os, hos, hcs, hds⟩ := id hs
  have e1 : Builtin.Slice.sliceAdjust none (some (b : Int)) 1 (n : Int) = (0, (b : Int)) := by
    unfold Builtin.Slice.sliceAdjust
    have h1 : ¬ ((1 : Int) < 0) := by (first | k_extra "MY lo" | omega)
    have h2 : ¬ ((b : Int) < 0) := by (first | k_extra "MY lo" | omega)
    simp only [h1, h2, if_false]
    congr 1
    (first | k_extra "MY lo" | omega)
  have e2 : Builtin.Slice.slicePlaces 0 (b : Int) 1 = b := by
    unfold Builtin.Slice.slicePlaces
    have h1 : (1 : Int) > 0 := by (first | k_extra "MY lo" | omega)
    simp only [h1, if_true, Int.ediv_one]
    split <;> (first | k_extra "MY lo" | omega)
  unfold Builtin.Slice.sliceApplied Builtin.Slice.sliceFields
  refine wpAny_bind (wpAny_bind (wpAny_field hos hds (x := .none) rfl (wpAny_bind (wpAny_field hos hds (x := .int b u) rfl (wpAny_bind (wpAny_field hos hds (x := .none) rfl (wpAny_pure ?_)))))))
  refine wpAny_bind (slicePart_none ?_)
  show wpAny _ _ (if ((1 : Int) == 0) = true then _ else _) _ _ s
  rw [if_neg (by decide)]
  refine wpAny_bind (slicePart_none (wpAny_bind (slicePart_int (wpAny_bind (wpAny_pure ?_)))))
  show wpAny _ _ (match Builtin.Slice.sliceAdjust none (some (b : Int)) 1 (n : Int) with | (lo, hi) => pure (lo, (1 : Int), Builtin.Slice.slicePlaces lo hi 1)) _ _ s
  rw [e1]
  show wpAny _ _ (pure ((0 : Int), (1 : Int), Builtin.Slice.slicePlaces 0 (b : Int) 1)) _ _ s
  rw [e2]
  exact wpAny_pure h
theorem item_upto {t sl : Addr} {items : Array Value} {b : Nat} {u : Tok} {Q : Value → Shared → Prop} (ht : IsTup s.heap t items) (hs : s.heap.IsSliceOf sl .none (.int b u) .none) (hb : b < items.size)
    (h : Q (.ref s.heap.objs.size) { s with heap := s.heap.push { cls := .type "tuple", data := .seq (items.toList.take b).toArray } })
    (hsz : items.size ≤ sizeLine) : wpAny (model prog w) A (getItem (.ref t) (.ref sl)) Q E s := by
  have hcut : sizeOk (.seq (items.toList.take b).toArray) := by
    show (items.toList.take b).toArray.size ≤ sizeLine
    rw [List.size_toArray, List.length_take, Array.length_toList]
    (first | k_extra "MY lo" | omega)
  obtain ⟨os, hos, hcs, hds⟩ := id hs
  have hTs : s.TypeIs (.ref sl) "slice" := ⟨os, hos, hcs⟩
  unfold getItem
  try with_reducible refine wpAny_holding ?_
  first | refine wpAny_bind (wpAny_pure ?_) | skip
  refine wpAny_bind (wpAny_sequenceKey ht.typeIs (by decide) ?_)
  refine wpAny_bind (wpAny_callSpecial?_slot (name := Str.ofString "__getitem__") ht.typeIs slot_tuple_getitem
    (wpAny_call_entry slot_tuple_getitem ht.typeIs entry_tuple_getitem ?_ (args_tuple_getitem _ _)))
  show wpAny _ _ (Builtin.Tuple.tupleItemsOf (.ref t) >>= _) _ _ s
  refine wpAny_bind (tupleItemsOf_ ht ?_)
  refine wpAny_bind (wpAny_typeOf hTs ?_)
  rw [if_pos (by decide)]
  refine wpAny_bind (applied_upto hs (Nat.le_of_lt hb) ?_)
  have hno : ¬ (((0 : Int) == 0 && (1 : Int) == 1 && b == items.size) = true) := by
    have : (b == items.size) = false := by rw [beq_eq_false_iff_ne]; (first | k_extra "MY lo" | omega)
    rw [this]; simp
  show wpAny _ _ (if ((0 : Int) == 0 && (1 : Int) == 1 && b == items.size) = true then _ else _) _ _ s
  have pk : ((List.range b).filterMap fun (k : Nat) => items[((0 : Int) + (k : Int) * 1).toNat]?).toArray = (items.toList.take b).toArray := by
    have e : (fun (k : Nat) => items[((0 : Int) + (k : Int) * 1).toNat]?) = fun k => items[0 + k]? := by
      funext k
      have : ((0 : Int) + (k : Int) * 1).toNat = 0 + k := by (first | k_extra "MY lo" | omega)
      rw [this]
    rw [e]
    have := pick_run items 0 b
    rw [List.filterMap_map] at this
    have e2 : ((fun x => items[x]?) ∘ fun x => 0 + x) = fun k => items[0 + k]? := rfl
    rw [e2] at this
    rw [this, List.drop_zero]
  rw [if_neg hno, pk]
  first
    | exact wpAny_bind (m := Builtin.Tuple.tupleExact _) (wpAny_newObj_type (wpAny_pure ⟨_, rfl, wpAny_pure h⟩) hcut)
    | exact wpAny_bind (m := Builtin.Tuple.tupleExact _) (wpAny_newObj_type (wpAny_bind (wpAny_pure (wpAny_pure ⟨_, rfl, wpAny_pure h⟩))) hcut)
    | exact wpAny_bind (wpAny_bind (m := Builtin.Tuple.tupleExact _) (wpAny_newObj_type (wpAny_pure (wpAny_pure ⟨_, rfl, wpAny_pure h⟩)) hcut))
    | exact wpAny_bind (wpAny_bind (m := Builtin.Tuple.tupleExact _) (wpAny_newObj_type (wpAny_pure ⟨_, rfl, wpAny_pure h⟩) hcut))
theorem slice_upto {value slice : PySem.Expr} {t : Addr} {items : Array Value} {b : Nat} {u : Tok} {Q : Value → Shared → Prop}
    (F : Fr h₀ L s.heap m) (N : News h₀ L s.heap news) (ht : IsTup s.heap t items) (hb : b < items.size)
    (h : ∀ D h', Fr h₀ L h' m → News h₀ L h' ((D, { cls := .type "tuple", data := .seq (items.toList.take b).toArray }) :: news) → (∀ p ∈ news, p.1 < D) → Q (.ref D) { s with heap := h' })
    (hs : subscripted slice false (.ref t) (.ref s.heap.objs.size) = operate [.ref s.heap.objs.size, .ref t] (getItem (.ref t) (.ref s.heap.objs.size)))
    (hg : ∀ r, letTemporaryGo value (.ref t) r = pure ())
    (hsz : items.size ≤ sizeLine) :
    wpAny (model prog w) A (subscriptTail value slice (.ref t) (.ref s.heap.objs.size)) Q E { s with heap := s.heap.push { cls := .type "slice", data := .fields #[.none, .int b u, .none] } } := by
  have ht' : IsTup (s.heap.push { cls := .type "slice", data := .fields #[.none, .int b u, .none] }) t items := ht.keeps fun _ _ e => Heap.get?_push_of_some _ e
  refine subscriptTail_ops (s := { s with heap := s.heap.push { cls := .type "slice", data := .fields #[.none, .int b u, .none] } }) ht'.typeIs slot_tuple_getitem.lookup
    (item_upto ht' (Heap.IsSliceOf.new ..) hb ?_ hsz) hs hg
  have N1 := News.push (F.push { cls := .type "slice", data := .fields #[.none, .int b u, .none] }) (N.grown fun _ _ e => Heap.get?_push_of_some _ e) { cls := .type "tuple", data := .seq (items.toList.take b).toArray }
  exact h _ _ ((F.push _).push _) N1 fun p hp => by
    show p.1 < (s.heap.push _).objs.size
    rw [Heap.size_push]
    exact Nat.lt_succ_of_lt (Heap.lt_size (N p hp).1)
end
end
end
example : True ∧ True := by w_top off; first | (walk1; done) | exact ⟨trivial, trivial⟩
example : True := by
  k_with_none
  k_with "eval Name" => (k_here; (with_reducible show wpAny _ _ (eval (Expr.Name _ _) (compEnvC _ _ _ _)) _ _ _); k_dflt (first | (name_kind "local"; refine' LCgL.ld_own ?zN ?zm ?zC ?zx ?_ ?zk ?zl ?zd; (case zk => kernel_rfl); (case zl => kernel_rfl); (case zd => kernel_rfl); (case zN => k_asm); (case zm => k_mem); (case zC => assumption); (case zx => assumption); k_whole) | (name_kind "globalImplicit"; first | (refine' LCgL.ld_global ?zF ?zX ?zT ?ze ?_ ?zg ?zk ?zl ?zd; (case zg => kernel_rfl); (case zk => kernel_rfl); (case zl => kernel_rfl); (case zd => kernel_rfl); (case zF => k_asm); (case zX => k_asm); (case zT => k_asm); (case ze => k_is); k_whole) | (refine' LCgL.ld_built ?zF ?zX ?zT ?ze ?zv ?zn ?_ ?zg ?zb ?zk ?zl ?zd; (case zg => kernel_rfl); (case zb => kernel_rfl); (case zk => kernel_rfl); (case zl => kernel_rfl); (case zd => kernel_rfl); (case zF => k_asm); (case zX => k_asm); (case zT => k_asm); (case ze => k_is); (case zv => boot_fast); (case zn => decide); k_whole))))
  k_with "eval Name" => (k_here; (fail_if_success (with_reducible show wpAny _ _ (eval (Expr.Name _ _) (compEnvC _ _ _ _)) _ _ _)); k_dflt (first | (name_kind "local"; refine' nameX_L ?zF ?zv ?_ ?za ?zb ?zc; (case zF => k_asm); (case za => kernel_rfl); (case zb => kernel_rfl); (case zc => kernel_rfl); (case zv => rfl); k_whole) | (name_kind "cell"; refine' nameX_C ?zN ?zl ?zm ?zd ?_ ?za ?zb ?zc; (case za => kernel_rfl); (case zb => kernel_rfl); (case zc => kernel_rfl); (case zN => k_asm); (case zl => rfl); (case zm => k_mem); (case zd => k_asm); k_whole) | (name_kind "globalImplicit"; first | (refine' nameX_K ?zF ?zX ?zT ?ze ?_ ?za ?zb ?zc; (case za => kernel_rfl); (case zb => kernel_rfl); (case zc => kernel_rfl); (case zF => k_asm); (case zX => k_asm); (case zT => k_asm); (case ze => k_is); k_whole) | (refine' nameX_B ?zF ?zX ?zT ?ze ?zv ?zn ?_ ?za ?zb ?zc; (case za => kernel_rfl); (case zb => kernel_rfl); (case zc => kernel_rfl); (case zF => k_asm); (case zX => k_asm); (case zT => k_asm); (case ze => k_is); (case zv => boot_fast); (case zn => decide); k_whole))))
  k_with "ite" => (k_closed; first | (with_reducible refine ite_pos ?zi ?_; (case zi => decide +kernel)) | (with_reducible refine ite_neg ?zi ?_; (case zi => decide +kernel)))
  k_with "getAttr ref" => (k_here; k_dflt (refine' get_own ?zF ?zX ?zI ?zg ?zh ?za ?zn ?zl ?zv ?_; (case zF => k_asm); (case zX => k_asm); (case zI => k_inst); (case zl => k_get); (case zg => k_is); (case zh => k_is); (case za => k_is); (case zn => k_is); (case zv => k_handed); k_whole))
  k_with "spliced" => ((with_reducible show wpAny _ _ (spliced (backTo _ (starEach (_ :: _) _))) _ _ _); k_dflt (refine args_cons ?_))
  k_with "newList" => (k_here; k_dflt (refine' newList_K ?zF ?zN ?_ ?zs; (case zF => k_asm); (case zN => k_asm); (case zs => exact Nat.le_of_ble_eq_true rfl); k_whole); k_extra "M46a0")
  k_with "MY ltp" => ((with_reducible rename @LT.lt Nat _ _ _ ∧ _ => kL); first | (with_reducible first | exact kL.1 | exact kL.2 | exact kL.2.1 | exact kL.2.2 | exact kL.2.2.1 | exact kL.2.2.2 | exact kL.2.2.2.1 | exact kL.2.2.2.2 | exact kL.2.2.2.2.1 | exact kL.2.2.2.2.2 | exact kL.2.2.2.2.2.1 | exact kL.2.2.2.2.2.2 | exact kL.2.2.2.2.2.2.1 | exact kL.2.2.2.2.2.2.2 | exact kL.2.2.2.2.2.2.2.1 | exact kL.2.2.2.2.2.2.2.2 | exact kL.2.2.2.2.2.2.2.2.1 | exact kL.2.2.2.2.2.2.2.2.2 | exact kL.2.2.2.2.2.2.2.2.2.1 | exact kL.2.2.2.2.2.2.2.2.2.2 | exact kL.2.2.2.2.2.2.2.2.2.2.1 | exact kL.2.2.2.2.2.2.2.2.2.2.2 | exact kL.2.2.2.2.2.2.2.2.2.2.2.1 | exact kL.2.2.2.2.2.2.2.2.2.2.2.2 | exact kL.2.2.2.2.2.2.2.2.2.2.2.2.1 | exact kL.2.2.2.2.2.2.2.2.2.2.2.2.2 | exact kL.2.2.2.2.2.2.2.2.2.2.2.2.2.1 | exact kL.2.2.2.2.2.2.2.2.2.2.2.2.2.2 | exact kL.2.2.2.2.2.2.2.2.2.2.2.2.2.2.1 | exact kL.2.2.2.2.2.2.2.2.2.2.2.2.2.2.2 | exact kL.2.2.2.2.2.2.2.2.2.2.2.2.2.2.2.1 | exact kL.2.2.2.2.2.2.2.2.2.2.2.2.2.2.2.2 | exact kL.2.2.2.2.2.2.2.2.2.2.2.2.2.2.2.2.1 | exact kL.2.2.2.2.2.2.2.2.2.2.2.2.2.2.2.2.2 | exact kL.2.2.2.2.2.2.2.2.2.2.2.2.2.2.2.2.2.1 | exact kL.2.2.2.2.2.2.2.2.2.2.2.2.2.2.2.2.2.2 | exact kL.2.2.2.2.2.2.2.2.2.2.2.2.2.2.2.2.2.2.1 | exact kL.2.2.2.2.2.2.2.2.2.2.2.2.2.2.2.2.2.2.2 | exact kL.2.2.2.2.2.2.2.2.2.2.2.2.2.2.2.2.2.2.2.1 | exact kL.2.2.2.2.2.2.2.2.2.2.2.2.2.2.2.2.2.2.2.2 | exact kL.2.2.2.2.2.2.2.2.2.2.2.2.2.2.2.2.2.2.2.2.1 | exact kL.2.2.2.2.2.2.2.2.2.2.2.2.2.2.2.2.2.2.2.2.2 | exact kL.2.2.2.2.2.2.2.2.2.2.2.2.2.2.2.2.2.2.2.2.2.1 | exact kL.2.2.2.2.2.2.2.2.2.2.2.2.2.2.2.2.2.2.2.2.2.2 | exact kL.2.2.2.2.2.2.2.2.2.2.2.2.2.2.2.2.2.2.2.2.2.2.1 | exact kL.2.2.2.2.2.2.2.2.2.2.2.2.2.2.2.2.2.2.2.2.2.2.2) | (clear kL; k_extra "MY ltp"))
  k_with "MY ne" => first | (refine Nat.ne_of_gt ?_; k_extra "MY ltp") | (refine Nat.ne_of_lt ?_; k_extra "MY ltp")
  k_with "newTuple" => (k_here; k_dflt (refine' kup_newTuple ?zF ?zN ?_ ?zs; (case zF => k_asm); (case zN => k_asm); (case zs => kmk_size)); k_extra "M46a0")
  k_with "MY ltq" => first | with_reducible assumption | k_extra "MY ltp" | ((with_reducible refine' Nat.lt_trans ?_ ?klb); (case klb => with_reducible assumption); k_extra "MY ltq") | ((with_reducible refine' Nat.lt_trans ?kla ?_); (case kla => with_reducible assumption); k_extra "MY ltp") | ((with_reducible refine' Nat.lt_succ_of_lt ?_); first | with_reducible assumption | k_extra "MY ltp" | ((with_reducible refine' Nat.lt_succ_of_lt ?_); first | with_reducible assumption | k_extra "MY ltp")) | ((with_reducible refine' Mine.mem_allLt ?_ _ ?klm); (case klm => with_reducible assumption); first | with_reducible assumption | k_extra "MY ltp")
  k_with "MY lo" => first | ((with_reducible show @LT.lt Nat _ _ _); (try dsimp only); k_extra "MY ltq") | ((with_reducible show @Ne Nat _ _); (try dsimp only); first | with_reducible assumption | (refine Ne.symm ?_; with_reducible assumption) | (refine Nat.ne_of_gt ?_; k_extra "MY ltq") | (refine Nat.ne_of_lt ?_; k_extra "MY ltq")) | decide
  k_with "H mem" => first | exact List.Mem.head _ | (refine' List.Mem.tail _ ?_; k_extra "H mem") | ((fail_if_success refine' List.Mem.tail _ ?_); change (_ : Addr × Obj) ∈ (_ : List (Addr × Obj)); first | with_reducible assumption | (with_reducible refine' List.mem_append_left _ ?_; k_extra "H mem") | (with_reducible refine' List.mem_append_right _ ?_; k_extra "H mem"))
  k_with "H room" => ((try simp only [depth_under_make, depth_under_kw, depth_in1, depth_deeper, depth_caller]); (try dsimp only [ktrTop]); first | decide | ((try simp only [Nat.add_assoc, Nat.reduceAdd]); (with_reducible rename _ + _ < recursionLimit => kH); first | exact Mine.room_of kH rfl | exact Mine.room_at kH) | omega)
  k_with "H units" => ((try simp only [units_in1, units_deeper, Around.mark_units, units_caller]); (try dsimp only [ktrTop]); first | decide | ((try simp only [Nat.add_assoc, Nat.reduceAdd]); (with_reducible rename _ + _ < cLine => kH); first | exact Mine.room_of kH rfl | exact Mine.room_at kH) | omega)
  k_with "H ne" => (refine neN ?_; (try dsimp only); first | with_reducible assumption | (refine Ne.symm ?_; with_reducible assumption) | (with_reducible first | exact Nat.ne_of_lt (by assumption) | exact Nat.ne_of_gt (by assumption)) | k_extra "MY ne" | ((with_reducible rename (_ ≠ _ ∧ _ ≠ _ ∧ _ ≠ _) ∧ _ => kOff); first | (simp only [kOff, ne_eq, not_false_eq_true]; done) | (refine Ne.symm ?_; simp only [kOff, ne_eq, not_false_eq_true]; done)) | k_extra "MY lo" | omega)
  trivial
theorem bits_16 : ∀ n : Fin 16, ((n.val : Nat) : Int) = ((n.val : Nat) : Int).fmod 2 + 2 * (((n.val : Nat) : Int).fdiv 2).fmod 2 + 4 * (((n.val : Nat) : Int).fdiv 4).fmod 2 + 8 * (((n.val : Nat) : Int).fdiv 8).fmod 2 ∧ (((n.val : Nat) : Int).fmod 2 = 0 ∨ ((n.val : Nat) : Int).fmod 2 = 1) ∧ ((((n.val : Nat) : Int).fdiv 2).fmod 2 = 0 ∨ (((n.val : Nat) : Int).fdiv 2).fmod 2 = 1) ∧ ((((n.val : Nat) : Int).fdiv 4).fmod 2 = 0 ∨ (((n.val : Nat) : Int).fdiv 4).fmod 2 = 1) ∧ ((((n.val : Nat) : Int).fdiv 8).fmod 2 = 0 ∨ (((n.val : Nat) : Int).fdiv 8).fmod 2 = 1) ∧ (((n.val : Nat) : Int).fdiv 1).fmod 2 = ((n.val : Nat) : Int).fmod 2 := by decide +kernel
theorem bits_of {b : Int} (h0 : 0 ≤ b) (h1 : b < 16) : ∃ x1 x2 x3 x4 : Int, b = x1 + 2 * x2 + 4 * x3 + 8 * x4 ∧ (x1 = 0 ∨ x1 = 1) ∧ (x2 = 0 ∨ x2 = 1) ∧ (x3 = 0 ∨ x3 = 1) ∧ (x4 = 0 ∨ x4 = 1) ∧ b.fmod 2 = x1 ∧ (b.fdiv 1).fmod 2 = x1 ∧ (b.fdiv 2).fmod 2 = x2 ∧ (b.fdiv 4).fmod 2 = x3 ∧ (b.fdiv 8).fmod 2 = x4 := by
  obtain ⟨n, rfl⟩ := Int.eq_ofNat_of_zero_le h0
  obtain ⟨e, a1, a2, a3, a4, a5⟩ := bits_16 ⟨n, Int.ofNat_lt.mp h1⟩
  exact ⟨_, _, _, _, e, a1, a2, a3, a4, rfl, a5, rfl, rfl, rfl⟩
theorem ite_yes {p : Prop} [Decidable p] {a b : Prop} (h : p) (x : a) : if decide p = true then a else b := by
  rw [if_pos (decide_eq_true h)]; exact x
theorem ite_no {p : Prop} [Decidable p] {a b : Prop} (h : ¬ p) (x : b) : if decide p = true then a else b := by
  rw [if_neg (by rw [decide_eq_true_iff]; exact h)]; exact x
theorem bytes_same {A : Around} {s : Shared} {b : Array UInt8} {t u : Tok} : SeqAt.EqAt A s (.bytes b t) (.bytes b u) true := fun prog w E Q h => eqBool_bytes (by simpa using h)
section
variable {M : Model} {A : Around} {E : Value → Shared → Prop} {Q : Value → Shared → Prop} {s : Shared} {h₀ : Heap} {L : Addr} {m : Str → Option Value} {all : List (Addr × Obj)}
def VPost (h₀ : Heap) (L : Addr) (m : Str → Option Value) (all : List (Addr × Obj)) (P : Value → Prop) (s : Shared) (v : Value) (s' : Shared) : Prop := ∃ h' tk', s' = { s with heap := h', toks := tk' } ∧ Fr h₀ L h' m ∧ News h₀ L h' all ∧ P v
theorem v_merge {x : Sem Value} (P : Value → Prop) (_F : Fr h₀ L s.heap m) (_N : News h₀ L s.heap all) (h1 : wpAny M A x (VPost h₀ L m all P s) E s) (h2 : ∀ v h' tk', Fr h₀ L h' m → News h₀ L h' all → P v → Q v { s with heap := h', toks := tk' }) : wpAny M A x Q E s :=
  wpAny_mono h1 (fun v s' ⟨h', tk', e, f, n, p⟩ => by subst e; exact h2 v h' tk' f n p) fun _ _ x => x
theorem VPost.mk {P : Value → Prop} {v : Value} {h' : Heap} {tk' : Nat} (F : Fr h₀ L h' m) (N : News h₀ L h' all) (p : P v) : VPost h₀ L m all P s v { s with heap := h', toks := tk' } := ⟨h', tk', rfl, F, N, p⟩
def KPost (h₀ : Heap) (L : Addr) (m : Str → Option Value) (all : List (Addr × Obj)) (P : Addr → Nat → Prop) (s : Shared) (v : Value) (s' : Shared) : Prop := ∃ kd ok es ep h' tk', v = .ref kd ∧ s' = { s with heap := h', toks := tk' } ∧ Fr h₀ L h' m ∧ News h₀ L h' ((kd, ok) :: all) ∧ ok.ExactDict ∧ ok.data = .dict es ep ∧ es.size < 100 ∧ (kd == sysModules) = false ∧ P kd es.size
theorem k_merge {x : Sem Value} (P : Addr → Nat → Prop) (_F : Fr h₀ L s.heap m) (_N : News h₀ L s.heap all) (h1 : wpAny M A x (KPost h₀ L m all P s) E s) (h2 : ∀ kd ok es ep h' tk', Fr h₀ L h' m → News h₀ L h' ((kd, ok) :: all) → ok.ExactDict → ok.data = .dict es ep → es.size < 100 → (kd == sysModules) = false → P kd es.size → Q (.ref kd) { s with heap := h', toks := tk' }) : wpAny M A x Q E s :=
  wpAny_mono h1 (fun v s' ⟨kd, ok, es, ep, h', tk', e1, e2, f, n, a, b, c, d, p⟩ => by subst e1 e2; exact h2 kd ok es ep h' tk' f n a b c d p) fun _ _ x => x
theorem KPost.mk {P : Addr → Nat → Prop} {kd : Addr} {ok : Obj} {es : Array DictEntry} {ep : Nat} {h' : Heap} {tk' : Nat} {all' : List (Addr × Obj)} (F : Fr h₀ L h' m) (N : News h₀ L h' all') (hm : (kd, ok) ∈ all') (hs : ∀ p ∈ all, p ∈ all') (a : ok.ExactDict) (b : ok.data = .dict es ep) (c : es.size < 100) (d : (kd == sysModules) = false) (p : P kd es.size) : KPost h₀ L m all P s (.ref kd) { s with heap := h', toks := tk' } := ⟨kd, ok, es, ep, h', tk', rfl, rfl, F, news_sub N (sub_cons hm hs), a, b, c, d, p⟩
theorem empty_es {prog : Program} {w : World} {K : Type} [DecidableEq K] {knd : KeyKind prog w K} {o : Obj} (h : o.IsDictOf knd []) : ∃ es ep, o.ExactDict ∧ o.data = .dict es ep ∧ es.size = 0 := by
  obtain ⟨es, ep, hc, hdat, _, hp, _⟩ := h
  have he : es.toList = [] := List.length_eq_zero_iff.mp hp.length
  exact ⟨es, ep, hc, hdat, by rw [← Array.length_toList, he]; rfl⟩
end
example : True := by
  k_with "MY enter" => (refine' code_def ?zk1 ?zk2 ?zk3 ?zk4 ?zk5 ?zkA ?zkF ?zkK ?zk6 ?zk7 ?zk8 ?zk9 ?zkB ?_ ?zc2 ?zc3 ?zc4 ?zc5; (case zkA => exact rfl); (case zkF => exact rfl); (case zkK => k_asm); (case zk1 => k_asm); (case zk2 => k_asm); (case zk3 => k_asm); (case zk4 => k_asm); (case zk5 => k_asm); (case zk6 => k_is); (case zk7 => k_is); (case zk8 => ktr_room); (case zk9 => first | exact BindsTo.of_eq rfl | exact binds_K (by k_in) rfl (by k_is) rfl rfl rfl); (case zc5 => decide); (case zkB => exact locs rfl); (case zc2 => exact rfl); (case zc3 => exact rfl); (case zc4 => exact rfl); k_extra "M91c7")
  k_with "MY enterC" => (refine' code_defC ?zk1 ?zk2 ?zk3 ?zk4 ?zk5 ?zkA ?zkF ?zkK ?zk6 ?zk7 ?zk8 ?zk9 ?zkB ?zkD ?_ ?zc2 ?zc3 ?zc4; (case zkA => exact rfl); (case zkF => exact rfl); (case zkK => k_asm); (case zk1 => k_asm); (case zk2 => k_asm); (case zk3 => k_asm); (case zk4 => k_asm); (case zk5 => k_asm); (case zk6 => k_is); (case zk7 => k_is); (case zk8 => ktr_room); (case zk9 => first | exact BindsTo.of_eq rfl | exact binds_K (by k_in) rfl (by k_is) rfl rfl rfl); (case zkB => exact rfl); (case zkD => decide +kernel); (case zc2 => exact rfl); (case zc3 => exact rfl); (case zc4 => exact rfl); k_extra "M289d")
  k_with "MY fn" => (refine wpAny_call ?_; k_dflt (first | k_extra "MY enter" | k_extra "MY enterC"))
  k_with "MY cls" => (k_dflt (refine' call_cls ?zq1 ?zq2 ?zq3 ?zq4 ?zq5 ?zq6 ?_; (case zq1 => k_asm); (case zq2 => k_asm); (case zq3 => k_asm); (case zq4 => k_is); (case zq5 => k_is); (case zq6 => k_is); k_extra "M274b"))
  k_with "MY sub" => repeat' (first | exact List.forall_mem_nil _ | exact Mine.sub_refl | (refine Mine.sub_cons (by k_mem) ?_) | refine Mine.sub_tail ?_)
  k_with "callWith ref" => (k_here; k_dflt (first | refine' callWith_K ?zq1 ?zq2 ?_; (case zq1 => k_asm); (case zq2 => k_is); k_whole | (refine' callWith_K0 (Frag.In.keeps ?zq1 (Fr.keep ?zqF)) ?zq2 ?_; (case zqF => k_asm); (case zq1 => k_asm); (case zq2 => k_is); k_whole) | refine' callWith_K0 ?zq1 ?zq2 ?_; (case zq1 => k_in); (case zq2 => k_is); k_whole))
  k_with "MY lt" => first | assumption | exact Mine.mem_allLt (by assumption) | (refine Mine.mem_allLt ?_; simp only [*]; done)
  k_with "MY tl0" => repeat' (with_reducible first | exact Mine.sub_refl | refine Mine.sub_tail ?_)
  k_with "And" => ((with_reducible show PySem.W.FnAt _ _ ∧ _); k_dflt (refine' ⟨ro_fn ?zqr ?zqs ?zqN, ?_⟩; (case zqr => with_reducible assumption); (case zqN => k_asm); (case zqs => first | (with_reducible exact Mine.sub_refl) | k_extra "MY tl")); try dsimp only [List.nil_append, List.cons_append])
  k_with "callWith ref" => (k_here; k_dflt (first | (refine' callWith_K ?zq1 ?zq2 ?_; (case zq1 => k_asm); (case zq2 => k_is); k_whole) | (refine' callWith_K0 (Frag.In.keeps ?zq1 (Fr.keep ?zqF)) ?zq2 ?_; (case zqF => k_asm); (case zq1 => k_asm); (case zq2 => k_is); k_whole) | (refine' callWith_K0 ?zq1 ?zq2 ?_; (case zq1 => k_in); (case zq2 => k_is); k_whole) | (refine' callWith_F ?zq1 ?_; (case zq1 => refine' Mine.ro_fn ?zqr ?zqs ?zqN; (case zqr => with_reducible assumption); (case zqN => k_asm); (case zqs => first | (with_reducible exact Mine.sub_refl) | k_extra "MY tl")); k_whole)))
  k_with "call ref" => (k_here; k_dflt (refine' Mine.ro_call (by with_reducible assumption) ?zqs ?zqB ?zqF ?zqX ?zqN ?zqT ?zqk ?zqd ?zqu ?_; (case zqB => k_asm); (case zqF => k_asm); (case zqX => k_asm); (case zqN => k_asm); (case zqT => k_asm); (case zqs => first | (with_reducible exact Mine.sub_refl) | k_extra "MY tl"); (case zqk => first | exact rfl | assumption); (case zqd => ktr_room); (case zqu => ktr_units)); k_extra "Me7b0")
  k_with "compareOp In str ref" => (k_here; k_dflt (refine kda_in (knd := PySem.strKind _ _) (by k_asm) (by first | assumption | k_mem) (by k_asm) (by k_asm) (strKind_is _ _ _ _) _ (by first | exact Mine.isSome_none (by assumption) | exact Mine.isSome_some (by assumption)) ?_); (try dsimp only [Option.isSome]))
  k_with "subscriptTail" => (k_here; k_dflt (refine kda_item (knd := PySem.strKind _ _) (by k_asm) (by first | assumption | k_mem) (by k_asm) (strKind_is _ _ _ _) (by assumption) ?_))
  k_with "subscriptTail Name" => (k_here; k_dflt (refine kda_item (knd := PySem.strKind _ _) (by k_asm) (by first | assumption | k_mem) (by k_asm) (strKind_is _ _ _ _) (by assumption) ?_))
  k_with "MY tl" => repeat' (with_reducible first | exact Mine.sub_refl | exact Mine.sub_appR | refine Mine.sub_tail ?_ | refine Mine.sub_left ?_)
  k_with "MY sl" => ((try (with_reducible exact Mine.sub_refl)); (repeat' (refine Mine.sub_cons (by k_mem) ?_)); (k_extra "MY tl"))
  k_with "MY mem" => first | (with_reducible (repeat (first | assumption | exact List.Mem.head _ | (refine List.Mem.tail _ ?_) | (refine List.mem_append_right _ ?_; assumption) | (refine List.mem_append_left _ ?_))); done) | repeat (first | assumption | exact List.Mem.head _ | (refine List.Mem.tail _ ?_) | (refine List.mem_append_right _ ?_; assumption) | (refine List.mem_append_left _ ?_))
  k_with "compareOp NotIn str ref" => (k_here; k_dflt (refine kdg_notin (knd := PySem.strKind _ _) (by k_asm) (by first | assumption | k_mem) (by k_asm) (by k_asm) (strKind_is _ _ _ _) _ (by first | exact Mine.isSome_none (by assumption) | exact Mine.isSome_some (by assumption)) ?_); (try dsimp only [Option.isSome, Bool.not_true, Bool.not_false]))
  k_with "call ref" => k_extra "MY ng0"
  k_with "MY ng0" => (k_here; (with_reducible show wpAny _ _ (call (Value.ref 214) _) _ _ _); k_dflt (refine' Mine.ng0  _ _ _ _ _ _ _ _ _ _ _ _ _ _ _ _ _ ?zqB ?zqF ?zqX ?zqN ?zqT ?zqk ?zqd ?zqu ?_; (case zqB => k_asm); (case zqF => k_asm); (case zqX => k_asm); (case zqN => k_asm); (case zqT => k_asm); (case zqk => first | exact rfl | assumption); (case zqd => ktr_room); (case zqu => ktr_units)); k_extra "M67b0")
  k_with "call ref" => k_extra "MY gt0"
  k_with "MY gt0" => (k_here; (with_reducible show wpAny _ _ (call (Value.ref 200) _) _ _ _); k_dflt (refine' Mine.gt0 ?zqg _ _ _ _ _ _ _ _ _ _ _ _ _ _ _ _ _ ?zqB ?zqF ?zqX ?zqN ?zqT ?zqk ?zqd ?zqu ?_; (case zqB => k_asm); (case zqF => k_asm); (case zqX => k_asm); (case zqN => k_asm); (case zqT => k_asm); (case zqk => first | exact rfl | assumption); (case zqd => ktr_room); (case zqu => ktr_units); (case zqg => first | exact GdefIn.mono (by assumption) (by k_extra "MY tl") | exact (show GdefIn _ [] _ _ from Mine.GdefIn.intro (kvs := []) (by k_mem) (by k_mem) (by k_mem) (by k_mem) (by k_mem) (by k_mem) (by k_mem) (by k_mem) (by k_mem) (by k_mem) (by k_mem) (by assumption) .nil (Nat.zero_le _) ⟨by assumption, by assumption⟩ (by assumption) (by assumption) (by assumption) (by assumption) (by assumption) (by assumption)))); k_extra "M67b0")
  k_with "call ref" => k_extra "MY cd0"
  k_with "MY cd0" => (k_here; (with_reducible show wpAny _ _ (call (Value.ref 155) _) _ _ _); k_dflt (refine' Mine.cd0  _ _ _ _ _ _ _ _ _ _ _ _ _ _ _ _ _ ?zqB ?zqF ?zqX ?zqN ?zqT ?zqk ?zqd ?zqu ?_; (case zqB => k_asm); (case zqF => k_asm); (case zqX => k_asm); (case zqN => k_asm); (case zqT => k_asm); (case zqk => first | exact rfl | assumption); (case zqd => ktr_room); (case zqu => ktr_units)); k_extra "M32c7")
  k_with "call ref" => k_extra "MY gn0"
  k_with "MY gn0" => (k_here; (with_reducible show wpAny _ _ (call (Value.ref 203) _) _ _ _); k_dflt (refine' Mine.gn0  _ _ _ _ _ _ _ _ _ _ _ _ _ _ _ _ _ ?zqB ?zqF ?zqX ?zqN ?zqT ?zqk ?zqd ?zqu ?_; (case zqB => k_asm); (case zqF => k_asm); (case zqX => k_asm); (case zqN => k_asm); (case zqT => k_asm); (case zqk => first | exact rfl | assumption); (case zqd => ktr_room); (case zqu => ktr_units)); k_extra "M4d79")
  k_with "eval Dict" => (k_here; k_dflt (refine' Mine.Dict_tupd ?zq1 ?zqF ?zqN ?zqb ?zq2 ?zq3 ?zq4 ?zq5 ?_; (case zq1 => with_unfolding_all rfl); (case zqF => k_asm); (case zqN => k_asm); (case zqb => exact modules_low (Top.nolimit (by k_asm))); (case zq2 => with_unfolding_all rfl); (case zq3 => with_unfolding_all rfl); (case zq4 => exact List.cons_ne_nil _ _); (case zq5 => with_unfolding_all decide)); k_extra "Md995")
  k_with "MY keys" => repeat' (first | exact KeysIn.nil | (refine KeysIn.cons (by k_mem) (TupKeyObj.made (by tuptab_items_int)) (PyProof.V.Flat.int _ _) ?_))
  k_with "compareOp NotEq ref ref" => (k_here; k_dflt (first | (refine' Mine.gt_ne_diff (c' := []) rfl ?zql ?zqN ?zq1 ?zq2 ?zqu ?zqh ?zqk ?_; (case zqN => k_asm); (case zqh => assumption); (case zqk => assumption); (case zql => assumption); (case zq1 => k_extra "MY tl"); (case zq2 => k_extra "MY tl"); (case zqu => ktr_units)) | (refine' Mine.gt_ne_same ?zqN ?zq1 ?zq2 ?zqu ?zqh ?zqk ?_; (case zqN => k_asm); (case zqh => assumption); (case zqk => assumption); (case zq1 => k_extra "MY tl"); (case zq2 => k_extra "MY tl"); (case zqu => ktr_units))); (try dsimp only))
  k_with "getMethod ref" => (k_here; (with_reducible show wpAny _ _ (getMethod (Value.ref _) (Str.ofString "told") _) _ _ _); k_dflt (refine' Mine.gi_meth ?zqF ?zqN ?zqg ?zqs ?_ ?zqX; (case zqg => k_asm); (case zqF => k_asm); (case zqX => k_asm); (case zqN => k_asm); (case zqs => k_extra "MY tl")))
  k_with "setItem ref str ref" => (k_here; k_dflt (refine' Mine.set_tup ?zqF ?zqN ?zqd ?zqo ?zqm ?zqt ?zqs ?zqe ?zqz ?_; (case zqF => k_asm); (case zqN => k_asm); (case zqm => k_mem); (case zqt => k_mem); (case zqd => k_asm); (case zqo => k_asm); (case zqs => k_extra "MY sl"); (case zqe => (first | k_extra "MY lo" | omega)); (case zqz => k_asm)); k_extra "M3186")
  k_with "call builtin:len" => (k_here; (with_reducible show wpAny _ _ (call (Value.builtin "len") [Value.ref _]) _ _ _); k_dflt (refine' Mine.es_len ?zql ?zqm ?zqf ?_; (case zqm => exact ⟨_, News.get (by k_asm) (by k_mem), by assumption, by assumption⟩); (case zql => k_asm); (case zqf => k_asm)); k_extra "M5194")
  k_with "setItem ref" => k_extra "M9697"
  k_with "setItem" => k_extra "M9697"
  k_with "setItem ref str ref" => k_extra "M9697"
  k_with "MY set" => (k_here; (with_reducible show wpAny _ _ (setItem (Value.ref _) _ (Value.ref _)) _ _ _); k_dflt (refine' Mine.set_tup ?zqF ?zqN ?zqd ?zqo ?zqm ?zqt ?zqs ?zqe ?zqz ?_; (case zqF => k_asm); (case zqN => k_asm); (case zqm => k_mem); (case zqt => k_mem); (case zqd => k_asm); (case zqo => k_asm); (case zqs => with_reducible first | exact Mine.sl_b | exact Mine.sl_c); (case zqe => (first | k_extra "MY lo" | omega)); (case zqz => k_asm)); k_extra "M3186")
  k_with "subscriptTail Name BinOp ref int" => (k_here; (with_reducible show wpAny _ _ (subscriptTail _ _ (Value.ref _) (Value.int _ _)) _ _ _); k_dflt (first | (refine' Mine.lst_lit (v := Value.ref _) ?zqN ?zqm ?zq0 ?zq1 ?zqv ?_ (by with_unfolding_all rfl); (case zqN => k_asm); (case zqm => k_mem); (case zq0 => (first | k_extra "MY lo" | omega)); (case zq1 => (first | k_extra "MY lo" | omega)); (case zqv => rfl)) | (refine' Mine.lst_lit (v := Value.str _ _) ?zqN ?zqm ?zq0 ?zq1 ?zqv ?_ (by with_unfolding_all rfl); (case zqN => k_asm); (case zqm => k_mem); (case zq0 => (first | k_extra "MY lo" | omega)); (case zq1 => (first | k_extra "MY lo" | omega)); (case zqv => rfl))))
  k_with "subscriptTail" => (k_here; (with_reducible show wpAny _ _ (subscriptTail _ _ (Value.ref _) (Value.int _ _)) _ _ _); k_dflt (first | (refine' Mine.lst_lit (v := Value.ref _) ?zqN ?zqm ?zq0 ?zq1 ?zqv ?_ (by with_unfolding_all rfl); (case zqN => k_asm); (case zqm => k_mem); (case zq0 => (first | k_extra "MY lo" | omega)); (case zq1 => (first | k_extra "MY lo" | omega)); (case zqv => rfl)) | (refine' Mine.lst_lit (v := Value.str _ _) ?zqN ?zqm ?zq0 ?zq1 ?zqv ?_ (by with_unfolding_all rfl); (case zqN => k_asm); (case zqm => k_mem); (case zq0 => (first | k_extra "MY lo" | omega)); (case zq1 => (first | k_extra "MY lo" | omega)); (case zqv => rfl))))
  k_with "subscriptTail Name Constant ref int" => (k_here; (with_reducible show wpAny _ _ (subscriptTail _ _ (Value.ref _) (Value.int _ _)) _ _ _); k_dflt (first | (refine' Mine.lst_lit (v := Value.ref _) ?zqN ?zqm ?zq0 ?zq1 ?zqv ?_ (by with_unfolding_all rfl); (case zqN => k_asm); (case zqm => k_mem); (case zq0 => (first | k_extra "MY lo" | omega)); (case zq1 => (first | k_extra "MY lo" | omega)); (case zqv => rfl)) | (refine' Mine.lst_lit (v := Value.str _ _) ?zqN ?zqm ?zq0 ?zq1 ?zqv ?_ (by with_unfolding_all rfl); (case zqN => k_asm); (case zqm => k_mem); (case zq0 => (first | k_extra "MY lo" | omega)); (case zq1 => (first | k_extra "MY lo" | omega)); (case zqv => rfl))))
  k_with "subscriptTail" => k_extra "M94d5"
  k_with "subscriptTail Name BinOp ref int" => k_extra "M94d5"
  trivial
local macro_rules | `(tactic| k_extra "Md995") => `(tactic| (intro x0 x1 x2 x3 x4 x5 x6 x7; (have y0 := x7); (try k_lt x7); (try k_sweep)))
local macro_rules | `(tactic| k_extra "M9697") => `(tactic| k_extra "MY set")
local macro_rules | `(tactic| k_extra "M94d5") => `(tactic| (k_here; (with_reducible show wpAny _ _ (subscriptTail _ _ (Value.ref 351) (Value.int _ _)) _ _ _); k_dflt (refine' tag_lit (v := Value.str _ _) ?zqX ?zqF ?zqe ?zqc ?zqd ?zq0 ?zq1 ?zqz ?zqv ?_ (by with_unfolding_all rfl) (by intro _; with_unfolding_all rfl); (case zqX => k_asm); (case zqF => k_asm); (case zqe => k_is); (case zqc => rfl); (case zqd => rfl); (case zq0 => (first | k_extra "MY lo" | omega)); (case zq1 => (show _ < ((6 : Nat) : Int); (first | k_extra "MY lo" | omega))); (case zqz => decide); (case zqv => rfl))))
theorem wr0 {w : World} {p : Program} {loose : List Str} {mean : ExcName → Option Value} {mg mb : Str → Option Value} {tp f df cm mt g0 kd0 : Addr} {k1 k2 k3 k4 k5 k6 tb : Tok} {bits : Int} {ps : Array Value} {rest : List (Addr × Obj)}
  (h0 : 0 ≤ bits) (h1 : bits < 16) (hf : (f, instObj 244 df) ∈ rest) (hdf : (df, dictOf [{ hash := PyData.keyHash w.params (Str.ofString "charmap"), key := .str (Str.ofString "charmap") k1, val := .ref cm }, { hash := PyData.keyHash w.params (Str.ofString "metrics"), key := .str (Str.ofString "metrics") k2, val := .ref mt }, { hash := PyData.keyHash w.params (Str.ofString "gdef"), key := .str (Str.ofString "gdef") k3, val := .ref g0 }, { hash := PyData.keyHash w.params (Str.ofString "gsub"), key := .str (Str.ofString "gsub") k4, val := .none }, { hash := PyData.keyHash w.params (Str.ofString "gpos"), key := .str (Str.ofString "gpos") k5, val := .none }, { hash := PyData.keyHash w.params (Str.ofString "kern"), key := .str (Str.ofString "kern") k6, val := .ref kd0 }] 6) ∈ rest) (hg : GdefIn w [] g0 rest) (ho : OwnOff rest [360]) (htab : TabSt qualL ps rest)
  : ∀ (dp un : Nat) (gd : Option (List Code)) (cn : Str) (cs : Scope) (a : Addr) (ccd : Value) (cl : List (Str × Addr)) (outer : List Env) (A₀ : Around) (base h₀ : Heap) (L : Addr) (m : Str → Option Value) (s : Shared) (Q E : Value → Shared → Prop)
  (_B : Below A₀ base outer h₀) (_F : Fr h₀ L s.heap m) (_X : (hd.heap_39 w.params).In h₀) (_N : News h₀ L s.heap ((360, tabObj ps) :: rest)) (_T : Top p loose mean mg mb h₀) (_hk : cs.kind = .function)
  (_hd : dp + 30 < recursionLimit) (_hu : un + 320 < cLine)
  (_hret : ∀ ps' h' tk', Fr h₀ L h' m → News h₀ L h' ((360, tabObj ps') :: rest) → Q (.bool true) { s with heap := h', toks := tk' }) (_hc : CodeHd base 362 360),
  wpAny (model PySem.Challenge.rw_nu0220_01.row.prog w) (ktrTop dp un gd cn cs L a ccd cl outer) (call (.ref 375) [.ref tp, .ref f, .int bits tb]) Q E s := by
  k_fill
  intro dp un gd cn cs a ccd cl outer A₀ base h₀ L m s Q E B F X N T hk hd hu hret
  intro hcd
  let FD : List DictEntry := [{ hash := PyData.keyHash w.params (Str.ofString "charmap"), key := .str (Str.ofString "charmap") k1, val := .ref cm }, { hash := PyData.keyHash w.params (Str.ofString "metrics"), key := .str (Str.ofString "metrics") k2, val := .ref mt }, { hash := PyData.keyHash w.params (Str.ofString "gdef"), key := .str (Str.ofString "gdef") k3, val := .ref g0 }, { hash := PyData.keyHash w.params (Str.ofString "gsub"), key := .str (Str.ofString "gsub") k4, val := .none }, { hash := PyData.keyHash w.params (Str.ofString "gpos"), key := .str (Str.ofString "gpos") k5, val := .none }, { hash := PyData.keyHash w.params (Str.ofString "kern"), key := .str (Str.ofString "kern") k6, val := .ref kd0 }]
  change (df, dictOf FD 6) ∈ rest at hdf
  have NN := N
  clear N
  k_extra "MY fn"
  rename_i g1 L1 hh1 FG1 F1 N1 B1 X1 T1
  repeat' ((fail_if_success (with_reducible show TupStores _ _ _ _ _ _ _ _)); (first | (k_unfold; (try dsimp only)) | walk1 | (dsimp only; walk1) | fail "no step"))
  rename_i x5 _ _ _ _ _ _ _ _ _ _ _ _ _ _ _ _ _ _ _ _ d5 o5 _ lo5 e5 lE lD _ _ _ _ _
  k_dflt (refine' ts_set ?zqu ?zqF ?zqN ?zqm lo5 e5 ?zqk ?zqz ?zqs (fun p hp => Nat.ne_of_lt (lE p hp)) ?_)
  (case zqu => ktr_units); (case zqF => k_asm); (case zqN => k_asm); (case zqm => k_mem); (case zqk => (first | (tupd_keys_int; done) | (k_dflt tupd_keys_int; done) | k_extra "MY keys")); (case zqz => decide); (case zqs => k_extra "MY sl")
  intro h6 oo6 es6 ep6 nw6 tk6 F6 N6 M6 ex6 dt6 sz6 hm6 T6
  have pk : ∃ gw, News g1 L1 h6 ((d5, oo6) :: (gw ++ ((360, tabObj ps) :: rest))) ∧ GdefIn w [(7, 3)] x5 gw ∧ OwnOff gw [360] ∧ (∀ p ∈ gw, p.1 < d5) := by
    refine ⟨[_, _, _, _, _, _, _, _, _, _, _], N6, GdefIn.intro (by k_mem) (by k_mem) (by k_mem) (by k_mem) (by k_mem) (by k_mem) (by k_mem) (by k_mem) (by k_mem) (by k_mem) (by k_mem) (by assumption) (by assumption) (by decide) ⟨by assumption, by assumption⟩ (by assumption) (by assumption) (by assumption) (by assumption) (by assumption) (by assumption), ?_, ?_⟩
    · intro p hp b hb
      rw [List.mem_singleton.mp hb]
      simp only [List.mem_cons, List.not_mem_nil, or_false] at hp
      rcases hp with rfl | rfl | rfl | rfl | rfl | rfl | rfl | rfl | rfl | rfl | rfl
      all_goals (show @Ne Nat _ _)
      all_goals (first | k_extra "MY lo" | omega)
    · intro p hp
      exact lE p ((show ∀ q ∈ [_, _, _, _, _, _, _, _, _, _, _], q ∈ _ by k_extra "MY sub") p hp)
  obtain ⟨gw, N7, hg7, ho7, hl7⟩ := pk
  obtain ⟨tl1, hs1, hg1, hg1', ho1, htab1, N8⟩ : ∃ tl1, (∀ p ∈ rest, p ∈ tl1) ∧ GdefIn w [(7, 3)] x5 tl1 ∧ GdefIn w [] g0 tl1 ∧ OwnOff tl1 [360] ∧ TabSt qualL ps tl1 ∧ News g1 L1 h6 ((d5, oo6) :: (360, tabObj ps) :: tl1) := by
    refine ⟨gw ++ rest, fun p hp => List.mem_append_right _ hp, hg7.mono fun p hp => List.mem_append_left _ hp, hg.mono fun p hp => List.mem_append_right _ hp, ?_, htab.mono fun p hp => List.mem_append_right _ hp, news_sub N7 ?_⟩
    · intro p hp b hb
      exact (List.mem_append.mp hp).elim (fun h => ho7 p h b hb) fun h => ho p h b hb
    · refine sub_cons (.head _) (sub_cons (.tail _ (List.mem_append_right _ (.head _))) fun p hp => ?_)
      exact .tail _ ((List.mem_append.mp hp).elim (List.mem_append_left _) fun h => List.mem_append_right _ (.tail _ h))
  have mf1 := hs1 _ hf
  have mdf1 := hs1 _ hdf
  have ld : @LT.lt Nat _ 360 d5 := lE (360, tabObj ps) (by k_mem)
  have lf : @Ne Nat f 360 := ho _ hf _ (.head _)
  have ldf : @Ne Nat df 360 := ho _ hdf _ (.head _)
  have es1 : es6.size = 1 := sz6
  clear N7 N6 M6 T6 hm6 sz6 hl7 ho7 hg7 lE lD
  rename_i xx57 xx56 xx55 xx54 xx53 _ _ _ _ _ xx47 xx46 _ _ _ xx42 xx41 xx40 xx39 xx38 xx37 _ _ _ _ _ xx31 xx30 _ _ xx27 _ _ _ _ _ _ _ _ _ _ _ _ xx14 xx13 xx12 xx11 xx10 xx9 xx8 xx7 _ _ _ xx3 xx2 xx1
  clear xx1 xx2 xx3 xx7 xx8 xx9 xx10 xx11 xx12 xx13 xx14 xx27 xx30 xx31 xx37 xx38 xx39 xx40 xx41 xx42 xx46 xx47 xx53 xx54 xx55 xx56 xx57
  obtain ⟨x1, x2, x3, x4, hx, y1, y2, y3, y4, hf1, hf1', hf2, hf3, hf4⟩ := bits_of h0 h1
  repeat' ((fail_if_success (with_reducible show wpAny _ _ (eval (Expr.IfExp _ _ _ _) _) _ _ _)); (first | (k_unfold; (try dsimp only)) | walk1 | (dsimp only; walk1) | fail "no step"))
  k_dflt (refine' v_merge (fun v => ∃ gg cc, v = .ref gg ∧ GdefIn w cc gg tl1 ∧ (x1 = 1 → cc.length ≠ 0 ∧ gg = x5) ∧ (x1 = 0 → cc = [])) ?zaF ?zaN ?_ ?_)
  (case zaF => k_asm); (case zaN => k_asm)
  · rcases y1 with rfl | rfl
    · repeat' ((fail_if_success (with_reducible show @ite Prop _ _ _ _)); (first | (k_unfold; (try dsimp only)) | walk1 | (dsimp only; walk1) | fail "no step"))
      refine ite_no (fun e => absurd (hf1.symm.trans e) (by decide)) ?_
      k_steps
      exact VPost.mk (by k_asm) (by k_asm) ⟨_, _, rfl, hg1', fun h => absurd h (by decide), fun _ => rfl⟩
    · repeat' ((fail_if_success (with_reducible show @ite Prop _ _ _ _)); (first | (k_unfold; (try dsimp only)) | walk1 | (dsimp only; walk1) | fail "no step"))
      refine ite_yes hf1 ?_
      k_steps
      exact VPost.mk (by k_asm) (by k_asm) ⟨_, _, rfl, hg1, fun _ => ⟨by decide, rfl⟩, fun h => absurd h (by decide)⟩
  rintro _ h9 tk9 F9 N9 ⟨gg, cc, rfl, hgg, hc1, hc0⟩
  k_sweep
  repeat' ((fail_if_success (with_reducible show wpAny _ _ (eval (Expr.IfExp _ _ _ _) _) _ _ _)); (first | (k_unfold; (try dsimp only)) | walk1 | (dsimp only; walk1) | fail "no step"))
  k_dflt (refine' v_merge (fun v => (x2 = 1 → ∃ t, v = .str (Str.ofString "turns") t) ∧ (x2 = 0 → v = .none)) ?zbF ?zbN ?_ ?_)
  (case zbF => k_asm); (case zbN => k_asm)
  · rcases y2 with rfl | rfl
    · repeat' ((fail_if_success (with_reducible show @ite Prop _ _ _ _)); (first | (k_unfold; (try dsimp only)) | walk1 | (dsimp only; walk1) | fail "no step"))
      refine ite_no (fun e => absurd (hf2.symm.trans e) (by decide)) ?_
      k_steps
      exact VPost.mk (by k_asm) (by k_asm) ⟨fun h => absurd h (by decide), fun _ => rfl⟩
    · repeat' ((fail_if_success (with_reducible show @ite Prop _ _ _ _)); (first | (k_unfold; (try dsimp only)) | walk1 | (dsimp only; walk1) | fail "no step"))
      refine ite_yes hf2 ?_
      k_steps
      exact VPost.mk (by k_asm) (by k_asm) ⟨fun _ => ⟨_, rfl⟩, fun h => absurd h (by decide)⟩
  intro v2 h10 tk10 F10 N10 hv2
  k_sweep
  repeat' ((fail_if_success (with_reducible show wpAny _ _ (eval (Expr.IfExp _ _ _ _) _) _ _ _)); (first | (k_unfold; (try dsimp only)) | walk1 | (dsimp only; walk1) | fail "no step"))
  k_dflt (refine' v_merge (fun v => (x3 = 1 → ∃ t, v = .str (Str.ofString "places") t) ∧ (x3 = 0 → v = .none)) ?zcF ?zcN ?_ ?_)
  (case zcF => k_asm); (case zcN => k_asm)
  · rcases y3 with rfl | rfl
    · repeat' ((fail_if_success (with_reducible show @ite Prop _ _ _ _)); (first | (k_unfold; (try dsimp only)) | walk1 | (dsimp only; walk1) | fail "no step"))
      refine ite_no (fun e => absurd (hf3.symm.trans e) (by decide)) ?_
      k_steps
      exact VPost.mk (by k_asm) (by k_asm) ⟨fun h => absurd h (by decide), fun _ => rfl⟩
    · repeat' ((fail_if_success (with_reducible show @ite Prop _ _ _ _)); (first | (k_unfold; (try dsimp only)) | walk1 | (dsimp only; walk1) | fail "no step"))
      refine ite_yes hf3 ?_
      k_steps
      exact VPost.mk (by k_asm) (by k_asm) ⟨fun _ => ⟨_, rfl⟩, fun h => absurd h (by decide)⟩
  intro v3 h11 tk11 F11 N11 hv3
  k_sweep
  repeat' ((fail_if_success (with_reducible show wpAny _ _ (eval (Expr.IfExp _ _ _ _) _) _ _ _)); (first | (k_unfold; (try dsimp only)) | walk1 | (dsimp only; walk1) | fail "no step"))
  k_dflt (refine' k_merge (fun kd n => (x4 = 1 → 0 < n ∧ kd = d5) ∧ (x4 = 0 → n = 0) ∧ @Ne Nat kd 360) ?zdF ?zdN ?_ ?_)
  (case zdF => k_asm); (case zdN => k_asm)
  · rcases y4 with rfl | rfl
    · repeat' ((fail_if_success (with_reducible show @ite Prop _ _ _ _)); (first | (k_unfold; (try dsimp only)) | walk1 | (dsimp only; walk1) | fail "no step"))
      refine ite_no (fun e => absurd (hf4.symm.trans e) (by decide)) ?_
      k_steps
      rename (Obj.IsDictOf (PySem.intKind _ _) _ []) => he9
      obtain ⟨esx, epx, hx1, hx2, hx3⟩ := empty_es he9
      exact KPost.mk (by k_asm) (by k_asm) (.head _) (by k_extra "MY sl") hx1 hx2 (by (first | k_extra "MY lo" | omega)) (by assumption) ⟨fun h => absurd h (by decide), fun _ => hx3, by (first | k_extra "MY lo" | omega)⟩
    · repeat' ((fail_if_success (with_reducible show @ite Prop _ _ _ _)); (first | (k_unfold; (try dsimp only)) | walk1 | (dsimp only; walk1) | fail "no step"))
      refine ite_yes hf4 ?_
      k_steps
      exact KPost.mk (by k_asm) (by k_asm) (by k_mem) (by k_extra "MY sl") ex6 dt6 (by (first | k_extra "MY lo" | omega)) lo5 ⟨fun _ => ⟨by (first | k_extra "MY lo" | omega), rfl⟩, fun h => absurd h (by decide), by (first | k_extra "MY lo" | omega)⟩
  intro kd okk esk epk h12 tk12 F12 N12 exk dtk szk lok hk4
  k_sweep
  have htab2 : ps = #[] ∨ TabSt qualL ps tl1 := .inr htab1
  have hk360 := hk4.2.2
  repeat' ((fail_if_success (with_reducible show wpAny _ _ (call (Value.ref 363) _) _ _ _)); (first | (k_unfold; (try dsimp only)) | walk1 | (dsimp only; walk1) | fail "no step"))
  rename_i lP _ _ _ _ _ x12 d12 _ l12 l12b _ _ _ _ _ _ _ _ _ _ _ _ _ _ _ _ _ hT _ o13 lo13 hd13 l13 _ _ _
  have hoffT := ho1
  k_dflt (refine' rd_call (tl₀ := tl1) ?zqB ?zqF ?zqX ?zqN ?zqT ?zqk ?zqd ?zqu ?zqc ?zqU ?zqt ?zqs ?zqo ?_)
  (case zqB => k_asm); (case zqF => k_asm); (case zqX => k_asm); (case zqN => k_asm); (case zqT => k_asm); (case zqk => first | exact rfl | assumption); (case zqd => ktr_room); (case zqu => ktr_units); (case zqc => assumption); (case zqU => k_updF); (case zqt => assumption); (case zqs => k_extra "MY tl"); (case zqo => exact fun q hq => ho1 q hq _ (.head _))
  intro rd6 o6 rvs ps6 tl6 h13 tk13 F13 N13 l6 sub6 off6 tab6 hdo6 hrd6 lo6 l6'
  dsimp only [List.cons_append] at N13 l6
  k_sweep
  repeat' ((fail_if_success (with_reducible show wpAny _ _ (call (Value.ref 311) _) _ _ _)); (first | (k_unfold; (try dsimp only)) | walk1 | (dsimp only; walk1) | fail "no step"))
  have hdt : o13.IsDictOf (sK w) [(Str.ofString "head", _), (Str.ofString "cmap", _)] := hd13
  k_dflt (refine' tb0 (b1 := decide (x1 = 1)) (b2 := decide (x2 = 1)) (b3 := decide (x3 = 1)) (b4 := decide (x4 = 1)) ?zq1 ?zq2 ?zq3 (fun h => (hc1 (of_decide_eq_true h)).1) (fun h => hc0 (y1.resolve_right (of_decide_eq_false h))) (fun h => ⟨_, hv2.1 (of_decide_eq_true h)⟩) (fun h => hv2.2 (y2.resolve_right (of_decide_eq_false h))) (fun h => ⟨_, hv3.1 (of_decide_eq_true h)⟩) (fun h => hv3.2 (y3.resolve_right (of_decide_eq_false h))) ?zq4 exk dtk szk (fun h => (hk4.1 (of_decide_eq_true h)).1) (fun h => hk4.2.1 (y4.resolve_right (of_decide_eq_false h))) lok ?zq5 hdt lo13 (Nat.le_of_ble_eq_true rfl) ?zq6 hdo6 lo6 ?zq7 _ _ _ _ _ _ _ _ _ _ _ _ _ _ _ _ _ ?zqB ?zqF ?zqX ?zqN ?zqT ?zqk ?zqd ?zqu ?_)
  (case zqB => k_asm); (case zqF => k_asm); (case zqX => k_asm); (case zqN => k_asm); (case zqT => k_asm); (case zqk => first | exact rfl | assumption); (case zqd => ktr_room); (case zqu => ktr_units); (case zq1 => k_mem); (case zq2 => k_mem); (case zq3 => exact hgg.mono (by k_extra "MY tl")); (case zq4 => k_mem); (case zq5 => k_mem); (case zq6 => k_mem); (case zq7 => exact hrd6.mono (by k_extra "MY tl"))
  intro dF oF t0 t1 t2 t3 t4 ot1 ot2 ot3 ot4 tt0 h14 tk14 F14 N14 hdF z1 z2 z3 z4 loF
  k_sweep
  have N15 := news_sub N14 (sub_cons (show (dF, oF) ∈ _ by k_mem) (sub_cons (show (t4, ot4) ∈ _ by k_mem) (sub_cons (show (t3, ot3) ∈ _ by k_mem) (sub_cons (show (t2, ot2) ∈ _ by k_mem) (sub_cons (show (t1, ot1) ∈ _ by k_mem) (sub_cons (show (t0, tup [.str (Str.ofString "cmap") tt0, .ref cm]) ∈ _ by k_mem) (sub_cons (show (hT.objs.size, o13) ∈ _ by k_mem) (sub_cons (show (lP, _) ∈ _ by k_mem) (sub_cons (show (360, tabObj ps6) ∈ _ by k_mem) (show ∀ p ∈ rest, p ∈ _ by exact fun p hp => by repeat (first | exact List.mem_append_left _ (hs1 p hp) | refine List.Mem.tail _ ?_)))))))))))
  clear N14
  obtain ⟨pt1, pt2, nP, N16⟩ : ∃ pt1 pt2 nP, News g1 L1 h14 ((dF, oF) :: (t4, ot4) :: (t3, ot3) :: (t2, ot2) :: (t1, ot1) :: (t0, tup [.str (Str.ofString "cmap") tt0, .ref cm]) :: (hT.objs.size, o13) :: (lP, listOf #[.ref cm, .ref x5, .str (Str.ofString "turns") pt1, .str (Str.ofString "places") pt2, .ref d5] nP) :: (360, tabObj ps6) :: rest) := ⟨_, _, _, N15⟩
  clear N15
  generalize hT.objs.size = aT at *
  obtain ⟨R9, e9, NR⟩ := news_gen N16
  clear N16
  have mm0 : (dF, oF) ∈ R9 := mem_of_eq e9 (by k_mem)
  have mm1 : (t4, ot4) ∈ R9 := mem_of_eq e9 (by k_mem)
  have mm2 : (t3, ot3) ∈ R9 := mem_of_eq e9 (by k_mem)
  have mm3 : (t2, ot2) ∈ R9 := mem_of_eq e9 (by k_mem)
  have mm4 : (t1, ot1) ∈ R9 := mem_of_eq e9 (by k_mem)
  have mm5 : (t0, tup [.str (Str.ofString "cmap") tt0, .ref cm]) ∈ R9 := mem_of_eq e9 (by k_mem)
  have mm6 : (aT, o13) ∈ R9 := mem_of_eq e9 (by k_mem)
  have mm7 : (lP, listOf #[.ref cm, .ref x5, .str (Str.ofString "turns") pt1, .str (Str.ofString "places") pt2, .ref d5] nP) ∈ R9 := mem_of_eq e9 (by k_mem)
  have mm8 : (360, tabObj ps6) ∈ R9 := mem_of_eq e9 (by k_mem)
  have hrR : ∀ q ∈ rest, q ∈ R9 := fun q hq => mem_of_eq e9 (by repeat (first | exact hq | refine List.Mem.tail _ ?_))
  clear e9
  have mf9 := hrR _ hf
  have mdf9 := hrR _ hdf
  clear hk360 lf ldf hg1 hg1' ho1 htab1 htab2 hgg hc0 exk dtk szk lok hdo6 hrd6 lo6 l6 l6' sub6 off6 tab6 hoffT l13 hs1 ex6 dt6 es1 lo5 hx y1 y2 y3 y4
  repeat' ((fail_if_success (with_reducible show wpAny _ _ (exec (Stmt.If _ _ _ _) _) _ _ _)); (first | (k_unfold; (try dsimp only)) | walk1 | (dsimp only; walk1) | fail "no step"))
  rename_i dD _ _ lDd loD _ tD _ lTD _ oD0 hdD0 _ _ _ _ _ _ _ _ _ _ iR lI _ _ _ _ NI
  obtain ⟨kv0, tk0, hkv0, hd0⟩ : ∃ kv tk, kv = [(Str.ofString "head", Value.bytes #[104] tk), (Str.ofString "cmap", .ref tD)] ∧ oD0.IsDictOf (sK w) kv := ⟨_, _, rfl, hdD0⟩
  have hzl : kv0.length = 2 := by rw [hkv0]; rfl
  have hzz0 : kv0.length ≤ 100 := by rw [hkv0]; exact Nat.le_of_ble_eq_true rfl
  have hiD : @LT.lt Nat _ dD iR := by (first | k_extra "MY lo" | omega)
  have hiT : @LT.lt Nat _ tD iR := by (first | k_extra "MY lo" | omega)
  clear hdD0
  k_dflt (refine' if_merge_b (w := w) (Str.ofString "GDEF") (.ref x5) (decide (x1 = 1)) kv0 iR ?ze0F ?ze0N ?ze0o ?_ ?_ ?_)
  (case ze0F => k_asm)
  (case ze0N => exact NI)
  (case ze0o =>
    intro a ha
    rcases List.mem_cons.mp ha with rfl | ha
    · exact Nat.ne_of_gt hiD
    rcases List.mem_cons.mp ha with rfl | ha
    · show @Ne Nat _ _
      (first | k_extra "MY lo" | omega)
    obtain ⟨p, hp, rfl⟩ := List.mem_map.mp ha
    exact Nat.ne_of_lt (lDd p hp))
  · intro hb hoff
    have hxv := of_decide_eq_true hb
    have hqv := hf1'.trans hxv
    repeat' ((fail_if_success (with_reducible show @ite Prop _ _ _ _)); (first | (k_unfold; (try dsimp only)) | walk1 | (dsimp only; walk1) | fail "no step"))
    refine ite_yes hqv ?_
    k_steps
    exact IfPostX.hit hb (by k_asm) (by k_asm) (by assumption) (by (first | k_extra "MY lo" | omega)) (by (first | k_extra "MY lo" | omega))
  · intro hb
    have hxv := of_decide_eq_false hb
    have hqv : ¬ _ = (1 : Int) := fun e => hxv (hf1'.symm.trans e)
    repeat' ((fail_if_success (with_reducible show @ite Prop _ _ _ _)); (first | (k_unfold; (try dsimp only)) | walk1 | (dsimp only; walk1) | fail "no step"))
    refine ite_no hqv ?_
    k_steps
    exact IfPostX.miss (t := tD) hb (by k_asm) (by k_asm) (by k_mem) (by k_mem) (by with_reducible first | exact sl_b0 | exact sl_c0) hd0 (by (first | k_extra "MY lo" | omega)) (Nat.ne_of_lt hiT)
  intro oD1 u1 ou1 h21 tk21 F21 N21 hd1 w1 ne1 nx1 hoffn1
  k_sweep
  have hzz1 : (putIf (decide (x1 = 1)) kv0 (Str.ofString "GDEF") (.ref u1)).length ≤ 100 := Nat.le_trans (putIf_len (n := 2) (Nat.le_of_eq hzl)) (Nat.le_of_ble_eq_true rfl)
  repeat' ((fail_if_success (with_reducible show UnrEnd _ _ _ _ _ _ _)); (first | (k_unfold; (try dsimp only)) | walk1 | (dsimp only; walk1) | fail "no step"))
  k_dflt (refine' ue ?zf0F ?zf0N ?zfe ?zfa ?zfb ?zf0o ?_)
  (case zf0F => k_asm); (case zf0N => k_asm); (case zfe => rfl); (case zfa => exact Nat.ne_of_lt hiD); (case zfb => exact nx1); (case zf0o => first | exact hiO0 | exact off_lt ⟨lI.1, lI.2.2⟩)
  intro hiO1
  repeat' ((fail_if_success (with_reducible show wpAny _ _ (exec (Stmt.If _ _ _ _) _) _ _ _)); (first | (k_unfold; (try dsimp only)) | walk1 | (dsimp only; walk1) | fail "no step"))
  k_dflt (refine' if_merge_c (w := w) (Str.ofString "GSUB") (.str (Str.ofString "turns") pt1) (decide (x2 = 1)) (putIf (decide (x1 = 1)) kv0 (Str.ofString "GDEF") (.ref u1)) iR ?ze1F ?ze1N ?ze1o ?_ ?_ ?_)
  (case ze1F => k_asm)
  (case ze1N => k_asm)
  (case ze1o => exact off_swap hoffn1)
  · intro hb hoff
    have hxv := of_decide_eq_true hb
    have hqv := hf2.trans hxv
    repeat' ((fail_if_success (with_reducible show @ite Prop _ _ _ _)); (first | (k_unfold; (try dsimp only)) | walk1 | (dsimp only; walk1) | fail "no step"))
    refine ite_yes hqv ?_
    k_steps
    exact IfPostX.hit hb (by k_asm) (by k_asm) (by assumption) (by (first | k_extra "MY lo" | omega)) (by (first | k_extra "MY lo" | omega))
  · intro hb
    have hxv := of_decide_eq_false hb
    have hqv : ¬ _ = (1 : Int) := fun e => hxv (hf2.symm.trans e)
    repeat' ((fail_if_success (with_reducible show @ite Prop _ _ _ _)); (first | (k_unfold; (try dsimp only)) | walk1 | (dsimp only; walk1) | fail "no step"))
    refine ite_no hqv ?_
    k_steps
    exact IfPostX.miss (t := tD) hb (by k_asm) (by k_asm) (by k_mem) (by k_mem) (by with_reducible first | exact sl_b0 | exact sl_c0) hd1 (by (first | k_extra "MY lo" | omega)) (Nat.ne_of_lt hiT)
  intro oD2 u2 ou2 h22 tk22 F22 N22 hd2 w2 ne2 nx2 hoffn2
  k_sweep
  have hzz2 : (putIf (decide (x2 = 1)) (putIf (decide (x1 = 1)) kv0 (Str.ofString "GDEF") (.ref u1)) (Str.ofString "GSUB") (.ref u2)).length ≤ 100 := Nat.le_trans (putIf_len (n := 3) (putIf_len (n := 2) (Nat.le_of_eq hzl))) (Nat.le_of_ble_eq_true rfl)
  repeat' ((fail_if_success (with_reducible show UnrEnd _ _ _ _ _ _ _)); (first | (k_unfold; (try dsimp only)) | walk1 | (dsimp only; walk1) | fail "no step"))
  k_dflt (refine' ue ?zf1F ?zf1N ?zfe ?zfa ?zfb ?zf1o ?_)
  (case zf1F => k_asm); (case zf1N => k_asm); (case zfe => rfl); (case zfa => exact Nat.ne_of_lt hiD); (case zfb => exact nx2); (case zf1o => first | exact hiO1 | exact off_lt ⟨lI.1, lI.2.2⟩)
  intro hiO2
  repeat' ((fail_if_success (with_reducible show wpAny _ _ (exec (Stmt.If _ _ _ _) _) _ _ _)); (first | (k_unfold; (try dsimp only)) | walk1 | (dsimp only; walk1) | fail "no step"))
  k_dflt (refine' if_merge_c (w := w) (Str.ofString "GPOS") (.str (Str.ofString "places") pt2) (decide (x3 = 1)) (putIf (decide (x2 = 1)) (putIf (decide (x1 = 1)) kv0 (Str.ofString "GDEF") (.ref u1)) (Str.ofString "GSUB") (.ref u2)) iR ?ze2F ?ze2N ?ze2o ?_ ?_ ?_)
  (case ze2F => k_asm)
  (case ze2N => k_asm)
  (case ze2o => exact off_swap hoffn2)
  · intro hb hoff
    have hxv := of_decide_eq_true hb
    have hqv := hf3.trans hxv
    repeat' ((fail_if_success (with_reducible show @ite Prop _ _ _ _)); (first | (k_unfold; (try dsimp only)) | walk1 | (dsimp only; walk1) | fail "no step"))
    refine ite_yes hqv ?_
    k_steps
    exact IfPostX.hit hb (by k_asm) (by k_asm) (by assumption) (by (first | k_extra "MY lo" | omega)) (by (first | k_extra "MY lo" | omega))
  · intro hb
    have hxv := of_decide_eq_false hb
    have hqv : ¬ _ = (1 : Int) := fun e => hxv (hf3.symm.trans e)
    repeat' ((fail_if_success (with_reducible show @ite Prop _ _ _ _)); (first | (k_unfold; (try dsimp only)) | walk1 | (dsimp only; walk1) | fail "no step"))
    refine ite_no hqv ?_
    k_steps
    exact IfPostX.miss (t := tD) hb (by k_asm) (by k_asm) (by k_mem) (by k_mem) (by with_reducible first | exact sl_b0 | exact sl_c0) hd2 (by (first | k_extra "MY lo" | omega)) (Nat.ne_of_lt hiT)
  intro oD3 u3 ou3 h23 tk23 F23 N23 hd3 w3 ne3 nx3 hoffn3
  k_sweep
  have hzz3 : (putIf (decide (x3 = 1)) (putIf (decide (x2 = 1)) (putIf (decide (x1 = 1)) kv0 (Str.ofString "GDEF") (.ref u1)) (Str.ofString "GSUB") (.ref u2)) (Str.ofString "GPOS") (.ref u3)).length ≤ 100 := Nat.le_trans (putIf_len (n := 4) (putIf_len (n := 3) (putIf_len (n := 2) (Nat.le_of_eq hzl)))) (Nat.le_of_ble_eq_true rfl)
  repeat' ((fail_if_success (with_reducible show UnrEnd _ _ _ _ _ _ _)); (first | (k_unfold; (try dsimp only)) | walk1 | (dsimp only; walk1) | fail "no step"))
  k_dflt (refine' ue ?zf2F ?zf2N ?zfe ?zfa ?zfb ?zf2o ?_)
  (case zf2F => k_asm); (case zf2N => k_asm); (case zfe => rfl); (case zfa => exact Nat.ne_of_lt hiD); (case zfb => exact nx3); (case zf2o => first | exact hiO2 | exact off_lt ⟨lI.1, lI.2.2⟩)
  intro hiO3
  repeat' ((fail_if_success (with_reducible show wpAny _ _ (exec (Stmt.If _ _ _ _) _) _ _ _)); (first | (k_unfold; (try dsimp only)) | walk1 | (dsimp only; walk1) | fail "no step"))
  k_dflt (refine' if_merge_c (w := w) (Str.ofString "kern") (.ref d5) (decide (x4 = 1)) (putIf (decide (x3 = 1)) (putIf (decide (x2 = 1)) (putIf (decide (x1 = 1)) kv0 (Str.ofString "GDEF") (.ref u1)) (Str.ofString "GSUB") (.ref u2)) (Str.ofString "GPOS") (.ref u3)) iR ?ze3F ?ze3N ?ze3o ?_ ?_ ?_)
  (case ze3F => k_asm)
  (case ze3N => k_asm)
  (case ze3o => exact off_swap hoffn3)
  · intro hb hoff
    have hxv := of_decide_eq_true hb
    have hqv := hf4.trans hxv
    repeat' ((fail_if_success (with_reducible show @ite Prop _ _ _ _)); (first | (k_unfold; (try dsimp only)) | walk1 | (dsimp only; walk1) | fail "no step"))
    refine ite_yes hqv ?_
    k_steps
    exact IfPostX.hit hb (by k_asm) (by k_asm) (by assumption) (by (first | k_extra "MY lo" | omega)) (by (first | k_extra "MY lo" | omega))
  · intro hb
    have hxv := of_decide_eq_false hb
    have hqv : ¬ _ = (1 : Int) := fun e => hxv (hf4.symm.trans e)
    repeat' ((fail_if_success (with_reducible show @ite Prop _ _ _ _)); (first | (k_unfold; (try dsimp only)) | walk1 | (dsimp only; walk1) | fail "no step"))
    refine ite_no hqv ?_
    k_steps
    exact IfPostX.miss (t := tD) hb (by k_asm) (by k_asm) (by k_mem) (by k_mem) (by with_reducible first | exact sl_b0 | exact sl_c0) hd3 (by (first | k_extra "MY lo" | omega)) (Nat.ne_of_lt hiT)
  intro oD4 u4 ou4 h24 tk24 F24 N24 hd4 w4 ne4 nx4 hoffn4
  k_sweep
  have hzz4 : (putIf (decide (x4 = 1)) (putIf (decide (x3 = 1)) (putIf (decide (x2 = 1)) (putIf (decide (x1 = 1)) kv0 (Str.ofString "GDEF") (.ref u1)) (Str.ofString "GSUB") (.ref u2)) (Str.ofString "GPOS") (.ref u3)) (Str.ofString "kern") (.ref u4)).length ≤ 100 := Nat.le_trans (putIf_len (n := 5) (putIf_len (n := 4) (putIf_len (n := 3) (putIf_len (n := 2) (Nat.le_of_eq hzl))))) (Nat.le_of_ble_eq_true rfl)
  repeat' ((fail_if_success (with_reducible show UnrEnd _ _ _ _ _ _ _)); (first | (k_unfold; (try dsimp only)) | walk1 | (dsimp only; walk1) | fail "no step"))
  k_dflt (refine' ue ?zf3F ?zf3N ?zfe ?zfa ?zfb ?zf3o ?_)
  (case zf3F => k_asm); (case zf3N => k_asm); (case zfe => rfl); (case zfa => exact Nat.ne_of_lt hiD); (case zfb => exact nx4); (case zf3o => first | exact hiO3 | exact off_lt ⟨lI.1, lI.2.2⟩)
  intro hiO4
  repeat' ((fail_if_success (with_reducible show wpAny _ _ (compareOp _ (Value.ref _) (Value.ref _)) _ _ _)); (first | (k_unfold; (try dsimp only)) | walk1 | (dsimp only; walk1) | fail "no step"))
  rename_i FZ NZ
  k_dflt (refine' eq_par (w := w) ?zyN ?zya ?zyb hdF hd4 loF loD ?zyu ?zyp ?_)
  (case zyN => exact NZ); (case zya => k_mem); (case zyb => k_mem); (case zyu => ktr_units)
  case zyp =>
    subst hkv0
    refine Par.putIf (Par.putIf (Par.putIf (Par.putIf ?zp0 ?zp1) ?zp2) ?zp3) ?zp4
    · exact Par.cons bytes_same (Par.cons (tupEq NZ (by k_mem) (by k_mem) (by ktr_units) ⟨_, rfl⟩ ⟨_, rfl⟩ (SeqAt.EqAt.same _)) .nil)
    · intro h
      have e := (hc1 (of_decide_eq_true h)).2
      exact tupEq NZ (by k_mem) (by k_mem) (by ktr_units) (z1 h) (w1 h) (by rw [e]; exact SeqAt.EqAt.same _)
    · intro h
      obtain ⟨tv, e⟩ := hv2.1 (of_decide_eq_true h)
      exact tupEq NZ (by k_mem) (by k_mem) (by ktr_units) (z2 h) (w2 h) (by rw [e]; exact str_same)
    · intro h
      obtain ⟨tv, e⟩ := hv3.1 (of_decide_eq_true h)
      exact tupEq NZ (by k_mem) (by k_mem) (by ktr_units) (z3 h) (w3 h) (by rw [e]; exact str_same)
    · intro h
      have e := (hk4.1 (of_decide_eq_true h)).2
      exact tupEq NZ (by k_mem) (by k_mem) (by ktr_units) (z4 h) (w4 h) (by rw [e]; exact SeqAt.EqAt.same _)
  repeat' ((fail_if_success (with_reducible show wpAny _ _ (compareOp _ (Value.ref _) (Value.ref _)) _ _ _)); (first | (k_unfold; (try dsimp only)) | walk1 | (dsimp only; walk1) | fail "no step"))
  rename_i oN FN NN loN hdN lN
  k_dflt (refine' eq_par (w := w) NN ?zxa (.head _) hdt hdN lo13 loN ?zxu ?zxp ?_)
  (case zxa => k_mem); (case zxu => ktr_units)
  (case zxp => exact Par.cons bytes_same (Par.cons bytes_same .nil))
  k_steps
  rename_i kF kN kT kX
  exact hret _ _ _ kF (news_sub kN (sub_cons (by k_mem) (fun p hp => by have hq := hrR p hp; repeat (first | exact hq | refine List.Mem.tail _ ?_))))
example : True ∧ True := by w_top off; first | (walk1; done) | exact ⟨trivial, trivial⟩
example : True := by
  k_with_none
  k_with "eval Name" => (k_here; (with_reducible show wpAny _ _ (eval (Expr.Name _ _) (compEnvC _ _ _ _)) _ _ _); k_dflt (first | (name_kind "local"; refine' LCgL.ld_own ?zN ?zm ?zC ?zx ?_ ?zk ?zl ?zd; (case zk => kernel_rfl); (case zl => kernel_rfl); (case zd => kernel_rfl); (case zN => k_asm); (case zm => k_mem); (case zC => assumption); (case zx => assumption); k_whole) | (name_kind "globalImplicit"; first | (refine' LCgL.ld_global ?zF ?zX ?zT ?ze ?_ ?zg ?zk ?zl ?zd; (case zg => kernel_rfl); (case zk => kernel_rfl); (case zl => kernel_rfl); (case zd => kernel_rfl); (case zF => k_asm); (case zX => k_asm); (case zT => k_asm); (case ze => k_is); k_whole) | (refine' LCgL.ld_built ?zF ?zX ?zT ?ze ?zv ?zn ?_ ?zg ?zb ?zk ?zl ?zd; (case zg => kernel_rfl); (case zb => kernel_rfl); (case zk => kernel_rfl); (case zl => kernel_rfl); (case zd => kernel_rfl); (case zF => k_asm); (case zX => k_asm); (case zT => k_asm); (case ze => k_is); (case zv => boot_fast); (case zn => decide); k_whole))))
  k_with "eval Name" => (k_here; (fail_if_success (with_reducible show wpAny _ _ (eval (Expr.Name _ _) (compEnvC _ _ _ _)) _ _ _)); k_dflt (first | (name_kind "local"; refine' nameX_L ?zF ?zv ?_ ?za ?zb ?zc; (case zF => k_asm); (case za => kernel_rfl); (case zb => kernel_rfl); (case zc => kernel_rfl); (case zv => rfl); k_whole) | (name_kind "cell"; refine' nameX_C ?zN ?zl ?zm ?zd ?_ ?za ?zb ?zc; (case za => kernel_rfl); (case zb => kernel_rfl); (case zc => kernel_rfl); (case zN => k_asm); (case zl => rfl); (case zm => k_mem); (case zd => k_asm); k_whole) | (name_kind "globalImplicit"; first | (refine' nameX_K ?zF ?zX ?zT ?ze ?_ ?za ?zb ?zc; (case za => kernel_rfl); (case zb => kernel_rfl); (case zc => kernel_rfl); (case zF => k_asm); (case zX => k_asm); (case zT => k_asm); (case ze => k_is); k_whole) | (refine' nameX_B ?zF ?zX ?zT ?ze ?zv ?zn ?_ ?za ?zb ?zc; (case za => kernel_rfl); (case zb => kernel_rfl); (case zc => kernel_rfl); (case zF => k_asm); (case zX => k_asm); (case zT => k_asm); (case ze => k_is); (case zv => boot_fast); (case zn => decide); k_whole))))
  k_with "ite" => (k_closed; first | (with_reducible refine ite_pos ?zi ?_; (case zi => decide +kernel)) | (with_reducible refine ite_neg ?zi ?_; (case zi => decide +kernel)))
  k_with "getAttr ref" => (k_here; k_dflt (refine' get_own ?zF ?zX ?zI ?zg ?zh ?za ?zn ?zl ?zv ?_; (case zF => k_asm); (case zX => k_asm); (case zI => k_inst); (case zl => k_get); (case zg => k_is); (case zh => k_is); (case za => k_is); (case zn => k_is); (case zv => k_handed); k_whole))
  k_with "spliced" => ((with_reducible show wpAny _ _ (spliced (backTo _ (starEach (_ :: _) _))) _ _ _); k_dflt (refine args_cons ?_))
  k_with "newList" => (k_here; k_dflt (refine' newList_K ?zF ?zN ?_ ?zs; (case zF => k_asm); (case zN => k_asm); (case zs => exact Nat.le_of_ble_eq_true rfl); k_whole); k_extra "M46a0")
  k_with "MY ltp" => ((with_reducible rename @LT.lt Nat _ _ _ ∧ _ => kL); first | (with_reducible first | exact kL.1 | exact kL.2 | exact kL.2.1 | exact kL.2.2 | exact kL.2.2.1 | exact kL.2.2.2 | exact kL.2.2.2.1 | exact kL.2.2.2.2 | exact kL.2.2.2.2.1 | exact kL.2.2.2.2.2 | exact kL.2.2.2.2.2.1 | exact kL.2.2.2.2.2.2 | exact kL.2.2.2.2.2.2.1 | exact kL.2.2.2.2.2.2.2 | exact kL.2.2.2.2.2.2.2.1 | exact kL.2.2.2.2.2.2.2.2 | exact kL.2.2.2.2.2.2.2.2.1 | exact kL.2.2.2.2.2.2.2.2.2 | exact kL.2.2.2.2.2.2.2.2.2.1 | exact kL.2.2.2.2.2.2.2.2.2.2 | exact kL.2.2.2.2.2.2.2.2.2.2.1 | exact kL.2.2.2.2.2.2.2.2.2.2.2 | exact kL.2.2.2.2.2.2.2.2.2.2.2.1 | exact kL.2.2.2.2.2.2.2.2.2.2.2.2 | exact kL.2.2.2.2.2.2.2.2.2.2.2.2.1 | exact kL.2.2.2.2.2.2.2.2.2.2.2.2.2 | exact kL.2.2.2.2.2.2.2.2.2.2.2.2.2.1 | exact kL.2.2.2.2.2.2.2.2.2.2.2.2.2.2 | exact kL.2.2.2.2.2.2.2.2.2.2.2.2.2.2.1 | exact kL.2.2.2.2.2.2.2.2.2.2.2.2.2.2.2 | exact kL.2.2.2.2.2.2.2.2.2.2.2.2.2.2.2.1 | exact kL.2.2.2.2.2.2.2.2.2.2.2.2.2.2.2.2 | exact kL.2.2.2.2.2.2.2.2.2.2.2.2.2.2.2.2.1 | exact kL.2.2.2.2.2.2.2.2.2.2.2.2.2.2.2.2.2 | exact kL.2.2.2.2.2.2.2.2.2.2.2.2.2.2.2.2.2.1 | exact kL.2.2.2.2.2.2.2.2.2.2.2.2.2.2.2.2.2.2 | exact kL.2.2.2.2.2.2.2.2.2.2.2.2.2.2.2.2.2.2.1 | exact kL.2.2.2.2.2.2.2.2.2.2.2.2.2.2.2.2.2.2.2 | exact kL.2.2.2.2.2.2.2.2.2.2.2.2.2.2.2.2.2.2.2.1 | exact kL.2.2.2.2.2.2.2.2.2.2.2.2.2.2.2.2.2.2.2.2 | exact kL.2.2.2.2.2.2.2.2.2.2.2.2.2.2.2.2.2.2.2.2.1 | exact kL.2.2.2.2.2.2.2.2.2.2.2.2.2.2.2.2.2.2.2.2.2 | exact kL.2.2.2.2.2.2.2.2.2.2.2.2.2.2.2.2.2.2.2.2.2.1 | exact kL.2.2.2.2.2.2.2.2.2.2.2.2.2.2.2.2.2.2.2.2.2.2 | exact kL.2.2.2.2.2.2.2.2.2.2.2.2.2.2.2.2.2.2.2.2.2.2.1 | exact kL.2.2.2.2.2.2.2.2.2.2.2.2.2.2.2.2.2.2.2.2.2.2.2) | (clear kL; k_extra "MY ltp"))
  k_with "MY ne" => first | (refine Nat.ne_of_gt ?_; k_extra "MY ltp") | (refine Nat.ne_of_lt ?_; k_extra "MY ltp")
  k_with "newTuple" => (k_here; k_dflt (refine' kup_newTuple ?zF ?zN ?_ ?zs; (case zF => k_asm); (case zN => k_asm); (case zs => kmk_size)); k_extra "M46a0")
  k_with "MY ltq" => first | with_reducible assumption | k_extra "MY ltp" | ((with_reducible refine' Nat.lt_trans ?_ ?klb); (case klb => with_reducible assumption); k_extra "MY ltq") | ((with_reducible refine' Nat.lt_trans ?kla ?_); (case kla => with_reducible assumption); k_extra "MY ltp") | ((with_reducible refine' Nat.lt_succ_of_lt ?_); first | with_reducible assumption | k_extra "MY ltp" | ((with_reducible refine' Nat.lt_succ_of_lt ?_); first | with_reducible assumption | k_extra "MY ltp")) | ((with_reducible refine' Mine.mem_allLt ?_ _ ?klm); (case klm => with_reducible assumption); first | with_reducible assumption | k_extra "MY ltp")
  k_with "MY lo" => first | ((with_reducible show @LT.lt Nat _ _ _); (try dsimp only); k_extra "MY ltq") | ((with_reducible show @Ne Nat _ _); (try dsimp only); first | with_reducible assumption | (refine Ne.symm ?_; with_reducible assumption) | (refine Nat.ne_of_gt ?_; k_extra "MY ltq") | (refine Nat.ne_of_lt ?_; k_extra "MY ltq")) | decide
  k_with "H mem" => first | exact List.Mem.head _ | (refine' List.Mem.tail _ ?_; k_extra "H mem") | ((fail_if_success refine' List.Mem.tail _ ?_); change (_ : Addr × Obj) ∈ (_ : List (Addr × Obj)); first | with_reducible assumption | (with_reducible refine' List.mem_append_left _ ?_; k_extra "H mem") | (with_reducible refine' List.mem_append_right _ ?_; k_extra "H mem"))
  k_with "H room" => ((try simp only [depth_under_make, depth_under_kw, depth_in1, depth_deeper, depth_caller]); (try dsimp only [ktrTop]); first | decide | ((try simp only [Nat.add_assoc, Nat.reduceAdd]); (with_reducible rename _ + _ < recursionLimit => kH); first | exact Mine.room_of kH rfl | exact Mine.room_at kH) | omega)
  k_with "H units" => ((try simp only [units_in1, units_deeper, Around.mark_units, units_caller]); (try dsimp only [ktrTop]); first | decide | ((try simp only [Nat.add_assoc, Nat.reduceAdd]); (with_reducible rename _ + _ < cLine => kH); first | exact Mine.room_of kH rfl | exact Mine.room_at kH) | omega)
  k_with "H ne" => (refine neN ?_; (try dsimp only); first | with_reducible assumption | (refine Ne.symm ?_; with_reducible assumption) | (with_reducible first | exact Nat.ne_of_lt (by assumption) | exact Nat.ne_of_gt (by assumption)) | k_extra "MY ne" | ((with_reducible rename (_ ≠ _ ∧ _ ≠ _ ∧ _ ≠ _) ∧ _ => kOff); first | (simp only [kOff, ne_eq, not_false_eq_true]; done) | (refine Ne.symm ?_; simp only [kOff, ne_eq, not_false_eq_true]; done)) | k_extra "MY lo" | omega)
  trivial
section
variable {α : Type} {M : Model} {A : Around} {Q : Value → Shared → Prop} {E : Value → Shared → Prop} {s : Shared}
theorem range_s4 {r : Int} {t : Tok} (h0 : 0 ≤ r) (h1 : r < 4) (a : wpAny M A (call (.type "range") [.int 1 t]) Q E s) (b : wpAny M A (call (.type "range") [.int 2 t]) Q E s) (c : wpAny M A (call (.type "range") [.int 3 t]) Q E s) (d : wpAny M A (call (.type "range") [.int 4 t]) Q E s) :
    wpAny M A (call (.type "range") [.int (1 + r) t]) Q E s := by
  rcases (by (first | k_extra "MY lo" | omega) : r = 0 ∨ r = 1 ∨ r = 2 ∨ r = 3) with rfl | rfl | rfl | rfl
  · exact a
  · exact b
  · exact c
  · exact d
theorem range_r4 {r : Int} {t : Tok} (h0 : 0 ≤ r) (h1 : r < 4) (a : wpAny M A (call (.type "range") [.int 0 t]) Q E s) (b : wpAny M A (call (.type "range") [.int 1 t]) Q E s) (c : wpAny M A (call (.type "range") [.int 2 t]) Q E s) (d : wpAny M A (call (.type "range") [.int 3 t]) Q E s) :
    wpAny M A (call (.type "range") [.int r t]) Q E s := by
  rcases (by (first | k_extra "MY lo" | omega) : r = 0 ∨ r = 1 ∨ r = 2 ∨ r = 3) with rfl | rfl | rfl | rfl
  · exact a
  · exact b
  · exact c
  · exact d
def CellsPost (h₀ : Heap) (L : Addr) (m : Str → Option Value) (news : List (Addr × Obj)) (s : Shared) (v : Value) (s' : Shared) : Prop :=
  ∃ lc vs ns c h' tk', v = .ref lc ∧ s' = { s with heap := h', toks := tk' } ∧ Fr h₀ L h' m ∧ News h₀ L h' ((lc, listOf vs.toArray c) :: news) ∧ IntsAre vs ns ∧ 0 < ns.length ∧ ns.length ≤ 24 ∧ ∀ p ∈ news, p.1 < lc
theorem CellsPost.intro {h₀ : Heap} {L lc : Addr} {m : Str → Option Value} {news news' : List (Addr × Obj)} {s : Shared} {vs : List Value} {ns : List Int} {c : Nat} {h' : Heap} {tk' : Nat} (F : Fr h₀ L h' m) (N : News h₀ L h' news') (hm : (lc, listOf vs.toArray c) ∈ news') (hn : ∀ p ∈ news, p ∈ news')
    (hi : IntsAre vs ns) (h1 : 0 < ns.length) (h2 : ns.length ≤ 24) (hl : ∀ p ∈ news, p.1 < lc) : CellsPost h₀ L m news s (.ref lc) { s with heap := h', toks := tk' } :=
  ⟨lc, vs, ns, c, h', tk', rfl, rfl, F, fun p hp => by rcases List.mem_cons.mp hp with rfl | hp; exact N _ hm; exact N _ (hn _ hp), hi, h1, h2, hl⟩
theorem cells_merge {t : Sem Value} {h₀ : Heap} {L : Addr} {m : Str → Option Value} {news : List (Addr × Obj)} (_F : Fr h₀ L s.heap m) (_N : News h₀ L s.heap news) (h1 : wpAny M A t (CellsPost h₀ L m news s) E s)
    (h2 : ∀ lc vs ns c h' tk', Fr h₀ L h' m → News h₀ L h' ((lc, listOf vs.toArray c) :: news) → IntsAre vs ns → 0 < ns.length → ns.length ≤ 24 → (∀ p ∈ news, p.1 < lc) → Q (.ref lc) { s with heap := h', toks := tk' }) : wpAny M A t Q E s :=
  wpAny_mono h1 (fun v s' ⟨lc, vs, ns, c, h', tk', e1, e2, f, n, i, a, b, l⟩ => by subst e1 e2; exact h2 lc vs ns c h' tk' f n i a b l) fun _ _ x => x
end
section
variable {M : Model} {A : Around} {Q : Flow → Shared → Prop} {E : Value → Shared → Prop} {s : Shared}
def WidesPost (h₀ : Heap) (L lc : Addr) (m : Str → Option Value) (y : Str) (g : Obj → List (Addr × Obj)) (s : Shared) (fl : Flow) (s' : Shared) : Prop :=
  ∃ D ws wn i t n h' tk', fl = .next ∧ s' = { s with heap := h', toks := tk' } ∧ Fr h₀ L h' (fun z => if z = y then some (.ref D) else m z) ∧ News h₀ L h' ((D, LCg.lst ws) :: g (listOf #[.ref lc, .int i t] n)) ∧ IntsAre ws wn ∧ 0 < wn.length ∧ wn.length ≤ 4 ∧ 0 ≤ i ∧ i ≤ 5 ∧ ∀ p ∈ g default, p.1 ≠ D
theorem WidesPost.intro {h₀ : Heap} {L lc D : Addr} {m : Str → Option Value} {y : Str} {g : Obj → List (Addr × Obj)} {news' : List (Addr × Obj)} {s : Shared} {ws : List Value} {wn : List Int} {i : Int} {t : Tok} {n : Nat} {h' : Heap} {tk' : Nat} (F : Fr h₀ L h' (fun z => if z = y then some (.ref D) else m z)) (N : News h₀ L h' news') (hm : (D, LCg.lst ws) ∈ news') (hn : ∀ p ∈ g (listOf #[.ref lc, .int i t] n), p ∈ news')
    (hi : IntsAre ws wn) (h1 : 0 < wn.length) (h2 : wn.length ≤ 4) (h3 : 0 ≤ i) (h4 : i ≤ 5) (hl : ∀ p ∈ g default, p.1 ≠ D) : WidesPost h₀ L lc m y g s .next { s with heap := h', toks := tk' } :=
  ⟨D, ws, wn, i, t, n, h', tk', rfl, rfl, F, fun p hp => by rcases List.mem_cons.mp hp with rfl | hp; exact N _ hm; exact N _ (hn _ hp), hi, h1, h2, h3, h4, hl⟩
theorem wides_merge {t : Sem Flow} {h₀ : Heap} {L tp lc : Addr} {m : Str → Option Value} {news : List (Addr × Obj)} {g : Obj → List (Addr × Obj)} {y : Str} {i : Int} {ta : Tok} {n : Nat} (_F : Fr h₀ L s.heap m) (_N : News h₀ L s.heap news) (_U : UpdF tp (listOf #[.ref lc, .int i ta] n) news g) (h1 : wpAny M A t (WidesPost h₀ L lc m y g s) E s)
    (h2 : ∀ D ws wn i t n h' tk', Fr h₀ L h' (fun z => if z = y then some (.ref D) else m z) → News h₀ L h' ((D, LCg.lst ws) :: g (listOf #[.ref lc, .int i t] n)) → IntsAre ws wn → 0 < wn.length → wn.length ≤ 4 → 0 ≤ i → i ≤ 5 → (∀ p ∈ g default, p.1 ≠ D) → Q .next { s with heap := h', toks := tk' }) : wpAny M A t Q E s :=
  wpAny_mono h1 (fun v s' ⟨D, ws, wn, i, t, n, h', tk', e1, e2, f, n', j, a, b, c, d, l⟩ => by subst e1 e2; exact h2 D ws wn i t n h' tk' f n' j a b c d l) fun _ _ x => x
end
theorem flat_ints : ∀ {kvs : List (Int × Value)}, (∀ kv ∈ kvs, ∃ n t, kv.2 = Value.int n t) → ∃ c, FlatPairs PyData.int kvs (kdfD c) ∧ c.length = kvs.length
  | [], _ => ⟨[], .nil, rfl⟩
  | (k, v) :: r, h => by
    obtain ⟨n, t, e⟩ := h _ (.head _)
    simp only at e
    subst e
    obtain ⟨c, hc, hl⟩ := flat_ints fun kv hkv => h kv (.tail _ hkv)
    exact ⟨(k, n) :: c, .cons (Flat.int n t) hc, by simp [hl]⟩
theorem ints_stored {kvs : List (Int × Value)} {k : Int} {v : Value} (h : ∀ kv ∈ kvs, ∃ n t, kv.2 = Value.int n t) (hv : ∃ n t, v = Value.int n t) : ∀ kv ∈ stored kvs k v, ∃ n t, kv.2 = Value.int n t := by
  intro kv hkv
  unfold PySem.stored at hkv
  split at hkv
  · obtain ⟨y, hy, rfl⟩ := List.mem_map.mp hkv
    by_cases e : y.1 = k
    · simp only [e, if_true]; exact hv
    · simp only [e, if_false]; exact h y hy
  · rcases List.mem_append.mp hkv with hkv | hkv
    · exact h kv hkv
    · rcases List.mem_singleton.mp hkv with rfl
      exact hv
theorem ints_merged : ∀ {more kvs : List (Int × Value)}, (∀ kv ∈ kvs, ∃ n t, kv.2 = Value.int n t) → (∀ kv ∈ more, ∃ n t, kv.2 = Value.int n t) → ∀ kv ∈ merged kvs more, ∃ n t, kv.2 = Value.int n t
  | [], _, h, _ => h
  | (k, v) :: r, kvs, h, hm => by
    show ∀ kv ∈ merged (stored kvs k v) r, _
    exact ints_merged (ints_stored h (hm _ (.head _))) fun kv hkv => hm kv (.tail _ hkv)
theorem range_facts {r : Int} (h0 : 0 ≤ r) (h4 : r < 4) : Builtin.Range.small 0 r 1 = true ∧ Builtin.Range.rangeSize 0 r 1 = ((r.toNat : Nat) : Int) ∧ r.toNat ≤ 3 := by
  rcases (by (first | k_extra "MY lo" | omega) : r = 0 ∨ r = 1 ∨ r = 2 ∨ r = 3) with rfl | rfl | rfl | rfl <;> exact ⟨rfl, rfl, by decide⟩
def CdInv {w : World} (knd : PySem.KeyKind PySem.Challenge.rw_nu0220_01.row.prog w Int) (tp lc ca Dw : Addr) (oc : Obj) (vs ws : List Value) (cN : Nat) (i0 : Int) (i : Nat) (ys : List Value) (news' : List (Addr × Obj)) : Prop :=
  ∃ j ta' n' tl kvs, news' = (Dw, LCg.lst ws) :: (tp, listOf #[.ref lc, .int j ta'] n') :: (lc, listOf vs.toArray cN) :: (ca, oc) :: (360, tabObj #[]) :: tl ∧ 0 ≤ j ∧ j ≤ i0 + 2 * i ∧ OwnOff tl [tp, Dw, lc, ca, 360] ∧ PairsIn knd tl ys kvs ∧ ys.length = i ∧ ∀ kv ∈ kvs, ∃ n t, kv.2 = Value.int n t
theorem drop2 {h₀ h : Heap} {L : Addr} {a b : Addr × Obj} {l : List (Addr × Obj)} (N : News h₀ L h (a :: b :: l)) : News h₀ L h (a :: l) := fun p hp => by
  rcases List.mem_cons.mp hp with rfl | hp
  · exact N _ (.head _)
  · exact N _ (.tail _ (.tail _ hp))
theorem cd_hit {w : World} {knd : PySem.KeyKind PySem.Challenge.rw_nu0220_01.row.prog w Int} {tl : List (Addr × Obj)} {tp lc ca Dw L I C D D' : Addr} {oc oI oC ot : Obj} {vs ws ys : List Value} {cN n' i nn : Nat} {i0 j2 k v : Int} {ta2 tq tv : Tok} {h h' : Heap} {tk tk' : Nat} {m : Str → Option Value} {s : Shared} {kvs : List (Int × Value)} {g : Heap}
    (F : Fr g L h' m) (N : News g L h' ((D', ({ cls := .type "tuple", data := .seq [Value.int k tq, Value.int v tv].toArray nn } : Obj)) :: (I, oI) :: (C, oC) :: (D, LCg.lst ys) :: (Dw, LCg.lst ws) :: (tp, listOf #[.ref lc, .int j2 ta2] n') :: (lc, listOf vs.toArray cN) :: (ca, oc) :: (360, tabObj #[]) :: tl))
    (his : knd.is k (Value.int k tq) = true) (off : LCg.Off3 I C D ((Dw, LCg.lst ws) :: (tp, ot) :: (lc, listOf vs.toArray cN) :: (ca, oc) :: (360, tabObj #[]) :: tl))
    (q : @LT.lt Nat _ I D' ∧ @LT.lt Nat _ C D' ∧ @LT.lt Nat _ D D' ∧ @LT.lt Nat _ tp D' ∧ @LT.lt Nat _ Dw D' ∧ @LT.lt Nat _ lc D' ∧ @LT.lt Nat _ ca D' ∧ @LT.lt Nat _ 360 D')
    (j0 : 0 ≤ j2) (j1 : j2 ≤ i0 + 2 * i + 2) (offt : OwnOff tl [tp, Dw, lc, ca, 360]) (hPr : PairsIn knd tl ys kvs) (hyl : ys.length = i) (hin : ∀ kv ∈ kvs, ∃ n t, kv.2 = Value.int n t) :
    LCg.CompEnd g L m { s with heap := h, toks := tk } I oI C oC D (LCg.lst ys) (fun _ => True) (fun y news' => CdInv knd tp lc ca Dw oc vs ws cN i0 (i + 1) (ys ++ [y]) news') (.ref D') { s with heap := h', toks := tk' } := by
  obtain ⟨q1, q2, q3, q4, q5, q6, q7, q8⟩ := q
  refine ⟨h', tk', (Dw, LCg.lst ws) :: (tp, listOf #[.ref lc, .int j2 ta2] n') :: (lc, listOf vs.toArray cN) :: (ca, oc) :: (360, tabObj #[]) :: (D', ({ cls := .type "tuple", data := .seq [Value.int k tq, Value.int v tv].toArray nn } : Obj)) :: tl, rfl, F, fun p hp => N p ?_, ?_, trivial, j2, ta2, n', _, kvs ++ [(k, .int v tv)], rfl, j0, by (first | k_extra "MY lo" | omega), ?_, (hPr.mono fun p hp => .tail _ hp).snoc (.head _) his, ?_, ?_⟩
  · simp only [List.mem_cons] at hp ⊢
    rcases hp with h | h | h | h | h | h | h | h | h | h <;> simp only [h, true_or, or_true]
  · obtain ⟨a1, a2, a3, a4, a5, a6⟩ := off
    exact ⟨a1, a2, a3, a4, a5, ⟨Nat.ne_of_gt q1, Nat.ne_of_gt q2, Nat.ne_of_gt q3⟩, a6⟩
  · intro p hp b hb
    rcases List.mem_cons.mp hp with rfl | hp
    · simp only [List.mem_cons, List.not_mem_nil, or_false] at hb
      rcases hb with rfl | rfl | rfl | rfl | rfl
      · exact Nat.ne_of_gt q4
      · exact Nat.ne_of_gt q5
      · exact Nat.ne_of_gt q6
      · exact Nat.ne_of_gt q7
      · exact Nat.ne_of_gt q8
    · exact offt p hp b hb
  · rw [List.length_append, List.length_singleton, hyl]
  · intro kv hkv
    rcases List.mem_append.mp hkv with hkv | hkv
    · exact hin kv hkv
    · rcases List.mem_singleton.mp hkv with rfl
      exact ⟨_, _, rfl⟩
theorem flat_rep_len {α : Type} {n : Nat} {v : α} : ((List.replicate n [v]).flatten).length = n := by simp
theorem range_facts2 {n : Nat} (h0 : 0 < n) (h4 : n ≤ 4) : Builtin.Range.small (-1) ((n : Int) + 2) 1 = true ∧ Builtin.Range.rangeSize (-1) ((n : Int) + 2) 1 = ((n + 3 : Nat) : Int) := by
  rcases (by (first | k_extra "MY lo" | omega) : n = 1 ∨ n = 2 ∨ n = 3 ∨ n = 4) with rfl | rfl | rfl | rfl <;> exact ⟨rfl, rfl⟩
theorem offl_cons {p : Addr × Obj} {l : List (Addr × Obj)} {adr : List Addr} (h : ∀ b ∈ adr, p.1 ≠ b) (r : OwnOff l adr) : OwnOff (p :: l) adr := fun q hq b hb => by
  rcases List.mem_cons.mp hq with rfl | hq
  · exact h b hb
  · exact r q hq b hb
theorem ne_pair {a x y : Addr} (h1 : @Ne Nat a x) (h2 : @Ne Nat a y) : ∀ b ∈ [x, y], a ≠ b := fun b hb => by
  simp only [List.mem_cons, List.not_mem_nil, or_false] at hb
  rcases hb with rfl | rfl
  · exact h1
  · exact h2
theorem ne_one {a x : Addr} (h1 : @Ne Nat a x) : ∀ b ∈ [x], a ≠ b := fun b hb => by
  rw [List.mem_singleton.mp hb]; exact h1
theorem tabst_ne {h₀ h : Heap} {L tp c' : Addr} {oc' : Obj} {its : Array Value} {n : Nat} {qual : Str} {news : List (Addr × Obj)} (N : News h₀ L h news) (T : TabSt qual #[rawInt 151, rawInt 23, .ref c'] [(c', oc')]) (m : (c', oc') ∈ news) (mt : (tp, listOf its n) ∈ news) (m3 : (360, tabObj #[rawInt 151, rawInt 23, .ref c']) ∈ news) : @Ne Nat c' tp ∧ @Ne Nat c' 360 := by
  obtain ⟨c2, oc, vs, t, e, mo, hd, hv⟩ := T
  injection e with e
  simp only [List.cons.injEq, Value.ref.injEq, and_true, true_and] at e
  subst e
  have eo : oc = oc' := by have := List.mem_singleton.mp mo; injection this
  subst eo
  refine ⟨?_, ?_⟩
  · rintro rfl
    have e2 := (N _ m).1
    rw [show h.get? c' = _ from (N _ mt).1] at e2
    injection e2 with e2
    subst e2
    cases hd
  · rintro rfl
    have e2 := (N _ m).1
    rw [show h.get? 360 = _ from (N _ m3).1] at e2
    injection e2 with e2
    subst e2
    injection hd with hd
    subst hd
    cases hv
example : True := by
  k_with "eval BoolOp" => (k_here; goal_lacks Mine.CellsPost; (with_reducible show wpAny _ _ (eval (Expr.BoolOp BoolOp.Or [Expr.Call _ _ _ _, Expr.List _ _] _) _) _ _ _); k_dflt (refine' Mine.cells_merge ?zqF ?zqN ?_ ?_; (case zqF => k_asm); (case zqN => k_asm)); rotate_left; (k_extra "Mb1d4"); rotate_left)
  k_with "CellsPost" => (k_dflt (refine' CellsPost.intro ?zqF ?zqN ?zqmem ?zqsub ?zqi ?zqp ?zqq ?zql; (case zqF => k_asm); (case zqN => k_asm); (case zqmem => k_mem); (case zqsub => kcj_all); (case zqi => first | assumption | exact IntsAre.cons _ _ .nil); (case zqp => first | decide | assumption); (case zqq => first | decide | (first | k_extra "MY lo" | omega)); (case zql => (refine Mine.mem_allLt ?_; (simp only [AllLt, and_true]); (first | k_extra "MY lo" | omega)))))
  k_with "exec Assign cons ListComp" => (k_here; goal_lacks Mine.WidesPost; k_dflt (refine' Mine.wides_merge (y := Str.ofString "wides") ?zqF ?zqN ?zqU ?_ ?_; (case zqF => k_asm); (case zqN => k_asm); (case zqU => k_updF)); rotate_left; (k_extra "Mf641"); rotate_left)
  k_with "WidesPost" => (k_dflt (refine' WidesPost.intro ?zqF ?zqN ?zqmem ?zqsub ?zqi ?zqp ?zqq ?zqr ?zqu ?zql; (case zqF => k_asm); (case zqN => k_asm); (case zqmem => k_mem); (case zqsub => kcj_all); (case zqi => first | exact IntsAre.cons _ _ .nil | exact IntsAre.cons _ _ (IntsAre.cons _ _ .nil) | exact IntsAre.cons _ _ (IntsAre.cons _ _ (IntsAre.cons _ _ .nil)) | exact IntsAre.cons _ _ (IntsAre.cons _ _ (IntsAre.cons _ _ (IntsAre.cons _ _ .nil)))); (case zqp => exact Nat.le_of_ble_eq_true rfl); (case zqq => exact Nat.le_of_ble_eq_true rfl); (case zqr => (first | k_extra "MY lo" | omega)); (case zqu => (first | k_extra "MY lo" | omega)); (case zql => (refine Mine.mem_off1 ?_; (simp only [LCg.Off1, and_true]); (first | k_extra "MY lo" | omega)))))
  k_with "CompSrc" => (k_here; (fail_if_success (goal_lacks Mine.WidesPost)); k_dflt (refine LCg.CompSrc.range (by rfl) (by k_asm) (by k_asm) (by assumption) (by first | decide | rfl) (by first | rfl | decide) (by first | exact Nat.le_of_ble_eq_true rfl | size_fits) ?_; k_extra "Mfad8"))
  k_with "call type:range" => (k_here; (fail_if_success (goal_lacks Mine.WidesPost)); k_dflt (first | (refine' Mine.range_s4 ?zqa ?zqb ?_ ?_ ?_ ?_; (case zqa => k_asm); (case zqb => k_asm)) | (refine' Mine.range_r4 ?zqa ?zqb ?_ ?_ ?_ ?_; (case zqa => k_asm); (case zqb => k_asm))))
  k_with "call ref" => (k_here; (with_reducible show wpAny _ _ (call (Value.ref 358) [Value.ref _, Value.int _ _]) _ _ _); k_dflt (refine' Mine.draw_c ?zqB ?zqF ?zqX ?zqN ?zqT ?zqhk ?zqU ?zqhc ?zqhi ?zqhl ?zqhle ?zqh0 ?zqh1 ?zqhm ?zqhd ?zqhu ?_; (case zqB => k_asm); (case zqF => k_asm); (case zqX => k_asm); (case zqN => k_asm); (case zqT => k_asm); (case zqhk => first | exact rfl | assumption); (case zqU => k_updF); (case zqhc => k_mem); (case zqhi => k_asm); (case zqhl => k_asm); (case zqhle => k_asm); (case zqh0 => first | decide | (first | k_extra "MY lo" | omega)); (case zqh1 => first | decide | (first | k_extra "MY lo" | omega)); (case zqhm => decide); (case zqhd => ktr_room); (case zqhu => ktr_units)); k_extra "M740c")
  k_with "MY enter" => (refine' code_def ?zk1 ?zk2 ?zk3 ?zk4 ?zk5 ?zkA ?zkF ?zkK ?zk6 ?zk7 ?zk8 ?zk9 ?zkB ?_ ?zc2 ?zc3 ?zc4 ?zc5; (case zkA => exact rfl); (case zkF => exact rfl); (case zkK => k_asm); (case zk1 => k_asm); (case zk2 => k_asm); (case zk3 => k_asm); (case zk4 => k_asm); (case zk5 => k_asm); (case zk6 => k_is); (case zk7 => k_is); (case zk8 => ktr_room); (case zk9 => first | exact BindsTo.of_eq rfl | exact binds_K (by k_in) rfl (by k_is) rfl rfl rfl); (case zc5 => decide); (case zkB => exact locs rfl); (case zc2 => exact rfl); (case zc3 => exact rfl); (case zc4 => exact rfl); k_extra "M91c7")
  k_with "MY enterC" => (refine' code_defC ?zk1 ?zk2 ?zk3 ?zk4 ?zk5 ?zkA ?zkF ?zkK ?zk6 ?zk7 ?zk8 ?zk9 ?zkB ?zkD ?_ ?zc2 ?zc3 ?zc4; (case zkA => exact rfl); (case zkF => exact rfl); (case zkK => k_asm); (case zk1 => k_asm); (case zk2 => k_asm); (case zk3 => k_asm); (case zk4 => k_asm); (case zk5 => k_asm); (case zk6 => k_is); (case zk7 => k_is); (case zk8 => ktr_room); (case zk9 => first | exact BindsTo.of_eq rfl | exact binds_K (by k_in) rfl (by k_is) rfl rfl rfl); (case zkB => exact rfl); (case zkD => decide +kernel); (case zc2 => exact rfl); (case zc3 => exact rfl); (case zc4 => exact rfl); k_extra "M289d")
  k_with "MY fn" => (refine wpAny_call ?_; k_dflt (first | k_extra "MY enter" | k_extra "MY enterC"))
  k_with "MY cls" => (k_dflt (refine' call_cls ?zq1 ?zq2 ?zq3 ?zq4 ?zq5 ?zq6 ?_; (case zq1 => k_asm); (case zq2 => k_asm); (case zq3 => k_asm); (case zq4 => k_is); (case zq5 => k_is); (case zq6 => k_is); k_extra "M274b"))
  k_with "MY sub" => repeat' (first | exact List.forall_mem_nil _ | exact Mine.sub_refl | (refine Mine.sub_cons (by k_mem) ?_) | refine Mine.sub_tail ?_)
  k_with "callWith ref" => (k_here; k_dflt (first | refine' callWith_K ?zq1 ?zq2 ?_; (case zq1 => k_asm); (case zq2 => k_is); k_whole | (refine' callWith_K0 (Frag.In.keeps ?zq1 (Fr.keep ?zqF)) ?zq2 ?_; (case zqF => k_asm); (case zq1 => k_asm); (case zq2 => k_is); k_whole) | refine' callWith_K0 ?zq1 ?zq2 ?_; (case zq1 => k_in); (case zq2 => k_is); k_whole))
  k_with "MY lt" => first | assumption | exact Mine.mem_allLt (by assumption) | (refine Mine.mem_allLt ?_; simp only [*]; done)
  k_with "MY tl" => repeat' (with_reducible first | exact Mine.sub_refl | exact Mine.sub_appR | refine Mine.sub_tail ?_ | refine Mine.sub_left ?_)
  k_with "MY sl" => ((try (with_reducible exact Mine.sub_refl)); (repeat' (refine Mine.sub_cons (by k_mem) ?_)); (k_extra "MY tl"))
  k_with "MY mem" => first | (with_reducible (repeat (first | assumption | exact List.Mem.head _ | (refine List.Mem.tail _ ?_) | (refine List.mem_append_right _ ?_; assumption) | (refine List.mem_append_left _ ?_))); done) | repeat (first | assumption | exact List.Mem.head _ | (refine List.Mem.tail _ ?_) | (refine List.mem_append_right _ ?_; assumption) | (refine List.mem_append_left _ ?_))
  k_with "call ref" => (k_here; (with_reducible show wpAny _ _ (call (Value.ref 358) [Value.ref _, Value.int _ _]) _ _ _); k_dflt (refine' Mine.draw_c ?zqB ?zqF ?zqX ?zqN ?zqT ?zqhk ?zqU ?zqhc ?zqhi ?zqhl ?zqhle ?zqh0 ?zqh1 ?zqhm ?zqhd ?zqhu ?_; (case zqB => k_asm); (case zqF => k_asm); (case zqX => k_asm); (case zqN => k_asm); (case zqT => k_asm); (case zqhk => first | exact rfl | assumption); (case zqU => k_updF); (case zqhc => k_mem); (case zqhi => k_asm); (case zqhl => k_asm); (case zqhle => k_asm); (case zqh0 => first | decide | (first | k_extra "MY lo" | omega)); (case zqh1 => first | decide | (first | k_extra "MY lo" | omega)); (case zqhm => decide); (case zqhd => ktr_room); (case zqhu => ktr_units)); k_extra "M740c")
  k_with "call ref" => k_extra "MY ch0"
  k_with "MY ch0" => (k_here; (with_reducible show wpAny _ _ (call (Value.ref 346) _) _ _ _); k_dflt (refine' Mine.ch0 ?zqm ?zqi ?zqf ?zqc ?zql _ _ _ _ _ _ _ _ _ _ _ _ _ _ _ _ _ ?zqB ?zqF ?zqX ?zqN ?zqT ?zqk ?zqd ?zqu ?_; (case zqB => k_asm); (case zqF => k_asm); (case zqX => k_asm); (case zqN => k_asm); (case zqT => k_asm); (case zqk => first | exact rfl | assumption); (case zqd => ktr_room); (case zqu => ktr_units); (case zqm => k_mem); (case zqi => k_asm); (case zqf => k_asm); (case zqc => k_asm); (case zql => k_asm)); k_extra "M6683")
  k_with "call ref" => k_extra "MY mc0"
  k_with "MY mc0" => (k_here; (with_reducible show wpAny _ _ (call (Value.ref 94) _) _ _ _); k_dflt (refine' Mine.mc0 ?zq1 ?zq2 ?zz1 ?zz2 _ _ _ _ _ _ _ _ _ _ _ _ _ _ _ _ _ ?zqB ?zqF ?zqX ?zqN ?zqT ?zqk ?zqd ?zqu ?_; (case zqB => k_asm); (case zqF => k_asm); (case zqX => k_asm); (case zqN => k_asm); (case zqT => k_asm); (case zqk => first | exact rfl | assumption); (case zqd => ktr_room); (case zqu => ktr_units); (case zq1 => k_mem); (case zq2 => k_mem); (case zz1 => first | (first | k_extra "MY lo" | omega) | (rw [flat_rep_len]; (first | k_extra "MY lo" | omega))); (case zz2 => first | (first | k_extra "MY lo" | omega) | (rw [flat_rep_len]; (first | k_extra "MY lo" | omega)))); k_extra "Ma9a5")
  k_with "call ref" => k_extra "MY fo0"
  k_with "MY fo0" => (k_here; (with_reducible show wpAny _ _ (call (Value.ref 262) _) _ _ _); k_dflt (refine' Mine.fo0  _ _ _ _ _ _ _ _ _ _ _ _ _ _ _ _ _ ?zqB ?zqF ?zqX ?zqN ?zqT ?zqk ?zqd ?zqu ?_; (case zqB => k_asm); (case zqF => k_asm); (case zqX => k_asm); (case zqN => k_asm); (case zqT => k_asm); (case zqk => first | exact rfl | assumption); (case zqd => ktr_room); (case zqu => ktr_units)); k_extra "Mf687")
  k_with "call ref" => k_extra "MY na0"
  k_with "MY na0" => (k_here; (with_reducible show wpAny _ _ (call (Value.ref 269) _) _ _ _); k_dflt (refine' Mine.na0 ?y1 ?y2 ?y3 ?y4 ?y5 ?y6 ?y7 ?y8 ?y9 _ _ _ _ _ _ _ _ _ _ _ _ _ _ _ _ _ ?zqB ?zqF ?zqX ?zqN ?zqT ?zqk ?zqd ?zqu ?_; (case zqB => k_asm); (case zqF => k_asm); (case zqX => k_asm); (case zqN => k_asm); (case zqT => k_asm); (case zqk => first | exact rfl | assumption); (case zqd => ktr_room); (case zqu => ktr_units); (case y1 => k_extra "MY mem"); (case y2 => k_extra "MY mem"); (case y3 => k_extra "MY mem"); (case y4 => k_extra "MY mem"); (case y5 => k_extra "MY mem"); (case y6 => k_asm); (case y7 => k_asm); (case y8 => k_asm); (case y9 => k_asm)); k_extra "Mece5")
  k_with "call ref" => k_extra "MY sg0"
  k_with "MY sg0" => (k_here; (with_reducible show wpAny _ _ (call (Value.ref 283) _) _ _ _); k_dflt (refine' Mine.sg0 ?y1 ?y2 ?y3 ?y4 ?y5 ?y6 ?y7 ?y8 ?y9 _ _ _ _ _ _ _ _ _ _ _ _ _ _ _ _ _ ?zqB ?zqF ?zqX ?zqN ?zqT ?zqk ?zqd ?zqu ?_; (case zqB => k_asm); (case zqF => k_asm); (case zqX => k_asm); (case zqN => k_asm); (case zqT => k_asm); (case zqk => first | exact rfl | assumption); (case zqd => ktr_room); (case zqu => ktr_units); (case y1 => k_extra "MY mem"); (case y2 => k_extra "MY mem"); (case y3 => k_extra "MY mem"); (case y4 => k_extra "MY mem"); (case y5 => k_extra "MY mem"); (case y6 => k_asm); (case y7 => k_asm); (case y8 => k_asm); (case y9 => k_asm)); k_extra "Mece5")
  k_with "call ref" => k_extra "MY if1"
  k_with "MY if1" => (k_here; (with_reducible show wpAny _ _ (call (Value.ref 290) _) _ _ _); k_dflt (refine' Mine.if1 ?y1 ?y2 ?y3 ?y4 ?y5 ?y6 ?y7 ?y8 ?y9 _ _ _ _ _ _ _ _ _ _ _ _ _ _ _ _ _ ?zqB ?zqF ?zqX ?zqN ?zqT ?zqk ?zqd ?zqu ?_; (case zqB => k_asm); (case zqF => k_asm); (case zqX => k_asm); (case zqN => k_asm); (case zqT => k_asm); (case zqk => first | exact rfl | assumption); (case zqd => ktr_room); (case zqu => ktr_units); (case y1 => k_extra "MY mem"); (case y2 => k_extra "MY mem"); (case y3 => k_extra "MY mem"); (case y4 => k_extra "MY mem"); (case y5 => k_extra "MY mem"); (case y6 => k_asm); (case y7 => k_asm); (case y8 => k_asm); (case y9 => (first | k_extra "MY lo" | omega))); k_extra "M56a5")
  k_with "call ref" => k_extra "MY if2"
  k_with "MY if2" => (k_here; (with_reducible show wpAny _ _ (call (Value.ref 290) _) _ _ _); k_dflt (refine' Mine.if2 ?y1 ?y2 ?y3 ?y4 ?y5 ?y6 ?y7 ?y8 ?y9 _ _ _ _ _ _ _ _ _ _ _ _ _ _ _ _ _ ?zqB ?zqF ?zqX ?zqN ?zqT ?zqk ?zqd ?zqu ?_; (case zqB => k_asm); (case zqF => k_asm); (case zqX => k_asm); (case zqN => k_asm); (case zqT => k_asm); (case zqk => first | exact rfl | assumption); (case zqd => ktr_room); (case zqu => ktr_units); (case y1 => k_extra "MY mem"); (case y2 => k_extra "MY mem"); (case y3 => k_extra "MY mem"); (case y4 => k_extra "MY mem"); (case y5 => k_extra "MY mem"); (case y6 => k_asm); (case y7 => k_asm); (case y8 => k_asm); (case y9 => (first | k_extra "MY lo" | omega))); k_extra "M56a5")
  k_with "call ref" => k_extra "MY ga1"
  k_with "MY ga1" => (k_here; (with_reducible show wpAny _ _ (call (Value.ref 276) _) _ _ _); k_dflt (refine' Mine.ga1 ?y1 ?y2 ?y3 ?y4 ?y5 ?y6 ?y7 ?y8 ?y9 _ _ _ _ _ _ _ _ _ _ _ _ _ _ _ _ _ ?zqB ?zqF ?zqX ?zqN ?zqT ?zqk ?zqd ?zqu ?_; (case zqB => k_asm); (case zqF => k_asm); (case zqX => k_asm); (case zqN => k_asm); (case zqT => k_asm); (case zqk => first | exact rfl | assumption); (case zqd => ktr_room); (case zqu => ktr_units); (case y1 => k_extra "MY mem"); (case y2 => k_extra "MY mem"); (case y3 => k_extra "MY mem"); (case y4 => k_extra "MY mem"); (case y5 => k_extra "MY mem"); (case y6 => k_asm); (case y7 => k_asm); (case y8 => k_asm); (case y9 => (first | k_extra "MY lo" | omega))); k_extra "Mece5")
  k_with "call ref" => k_extra "MY ga2"
  k_with "MY ga2" => (k_here; (with_reducible show wpAny _ _ (call (Value.ref 276) _) _ _ _); k_dflt (refine' Mine.ga2 ?y1 ?y2 ?y3 ?y4 ?y5 ?y6 ?y7 ?y8 ?y9 _ _ _ _ _ _ _ _ _ _ _ _ _ _ _ _ _ ?zqB ?zqF ?zqX ?zqN ?zqT ?zqk ?zqd ?zqu ?_; (case zqB => k_asm); (case zqF => k_asm); (case zqX => k_asm); (case zqN => k_asm); (case zqT => k_asm); (case zqk => first | exact rfl | assumption); (case zqd => ktr_room); (case zqu => ktr_units); (case y1 => k_extra "MY mem"); (case y2 => k_extra "MY mem"); (case y3 => k_extra "MY mem"); (case y4 => k_extra "MY mem"); (case y5 => k_extra "MY mem"); (case y6 => k_asm); (case y7 => k_asm); (case y8 => k_asm); (case y9 => (first | k_extra "MY lo" | omega))); k_extra "Mece5")
  k_with "call ref" => k_extra "MY mt0"
  k_with "MY mt0" => (k_here; (with_reducible show wpAny _ _ (call (Value.ref 91) _) _ _ _); k_dflt (refine' Mine.mt0 ?zqm1 ?zqm2 _ _ _ _ _ _ _ _ _ _ _ _ _ _ _ _ _ ?zqB ?zqF ?zqX ?zqN ?zqT ?zqk ?zqd ?zqu ?_; (case zqB => k_asm); (case zqF => k_asm); (case zqX => k_asm); (case zqN => k_asm); (case zqT => k_asm); (case zqk => first | exact rfl | assumption); (case zqd => ktr_room); (case zqu => ktr_units); (case zqm1 => k_extra "MY mem"); (case zqm2 => k_extra "MY mem")); k_extra "Mdcf1")
  k_with "call ref" => k_extra "MY gt0"
  k_with "MY gt0" => (k_here; (with_reducible show wpAny _ _ (call (Value.ref 200) _) _ _ _); k_dflt (refine' Mine.gt0 ?zqg _ _ _ _ _ _ _ _ _ _ _ _ _ _ _ _ _ ?zqB ?zqF ?zqX ?zqN ?zqT ?zqk ?zqd ?zqu ?_; (case zqB => k_asm); (case zqF => k_asm); (case zqX => k_asm); (case zqN => k_asm); (case zqT => k_asm); (case zqk => first | exact rfl | assumption); (case zqd => ktr_room); (case zqu => ktr_units); (case zqg => first | exact GdefIn.mono (by assumption) (by k_extra "MY tl") | exact (show GdefIn _ [] _ _ from Mine.GdefIn.intro (kvs := []) (by k_mem) (by k_mem) (by k_mem) (by k_mem) (by k_mem) (by k_mem) (by k_mem) (by k_mem) (by k_mem) (by k_mem) (by k_mem) (by assumption) .nil (Nat.zero_le _) ⟨by assumption, by assumption⟩ (by assumption) (by assumption) (by assumption) (by assumption) (by assumption) (by assumption)))); k_extra "M67b0")
  k_with "getMethod ref" => (k_here; (with_reducible show wpAny _ _ (getMethod (Value.ref _) (Str.ofString "told") _) _ _ _); k_dflt (refine' Mine.gi_meth ?zqF ?zqN ?zqg ?zqs ?_ ?zqX; (case zqg => k_asm); (case zqF => k_asm); (case zqX => k_asm); (case zqN => k_asm); (case zqs => k_extra "MY tl")))
  k_with "call ref" => k_extra "MY cm0"
  k_with "MY cm0" => (k_here; (with_reducible show wpAny _ _ (call (Value.ref 343) _) _ _ _); k_dflt (refine' Mine.cm0 ?z1 ?z2 ?z3 ?z4 ?z5 ?z6 ?z7 _ _ _ _ _ _ _ _ _ _ _ _ _ _ _ _ _ ?zqB ?zqF ?zqX ?zqN ?zqT ?zqk ?zqd ?zqu ?_; (case zqB => k_asm); (case zqF => k_asm); (case zqX => k_asm); (case zqN => k_asm); (case zqT => k_asm); (case zqk => first | exact rfl | assumption); (case zqd => ktr_room); (case zqu => ktr_units); (case z1 => k_extra "MY mem"); (case z2 => k_extra "MY mem"); (case z3 => k_extra "MY mem"); (case z4 => k_asm); (case z5 => k_asm); (case z6 => k_asm); (case z7 => k_asm)); k_extra "M67b0")
  k_with "call builtin:len" => (k_here; (with_reducible show wpAny _ _ (call (Value.builtin "len") [Value.ref _]) _ _ _); k_dflt (refine' len_tuple (isTup_news ?zqN (List.Mem.tail _ ?zqm)) ?zqf ?_; (case zqN => k_asm); (case zqm => k_extra "MY mem"); (case zqf => (simp only [List.size_toArray]; (first | k_extra "MY lo" | omega)))))
  k_with "call ref" => k_extra "MY fc0"
  k_with "MY fc0" => (k_here; (with_reducible show wpAny _ _ (call (Value.ref 244) _) _ _ _); k_dflt (refine' Mine.fc0  _ _ _ _ _ _ _ _ _ _ _ _ _ _ _ _ _ ?zqB ?zqF ?zqX ?zqN ?zqT ?zqk ?zqd ?zqu ?_; (case zqB => k_asm); (case zqF => k_asm); (case zqX => k_asm); (case zqN => k_asm); (case zqT => k_asm); (case zqk => first | exact rfl | assumption); (case zqd => ktr_room); (case zqu => ktr_units)); k_extra "M5206")
  k_with "eval Dict" => (k_here; k_dflt (refine' Mine.Dict_tupd ?zq1 ?zqF ?zqN ?zqb ?zq2 ?zq3 ?zq4 ?zq5 ?_; (case zq1 => with_unfolding_all rfl); (case zqF => k_asm); (case zqN => k_asm); (case zqb => exact modules_low (Top.nolimit (by k_asm))); (case zq2 => with_unfolding_all rfl); (case zq3 => with_unfolding_all rfl); (case zq4 => exact List.cons_ne_nil _ _); (case zq5 => with_unfolding_all decide)); k_extra "Md995")
  k_with "call ref" => k_extra "MY ft0"
  k_with "MY ft0" => (k_here; (with_reducible show wpAny _ _ (call (Value.ref 241) _) _ _ _); k_dflt (refine' Mine.ft0 ?y01 ?y02 ?y03 ?y04 ?y05 ?y06 ?y07 ?y08 ?y09 ?y10 ?y11 ?y12 ?y13 ?y14 ?y15 _ _ _ _ _ _ _ _ _ _ _ _ _ _ _ _ _ ?zqB ?zqF ?zqX ?zqN ?zqT ?zqk ?zqd ?zqu ?_; (case zqB => k_asm); (case zqF => k_asm); (case zqX => k_asm); (case zqN => k_asm); (case zqT => k_asm); (case zqk => first | exact rfl | assumption); (case zqd => ktr_room); (case zqu => ktr_units); (case y01 => k_extra "MY mem"); (case y02 => k_extra "MY mem"); (case y03 => k_extra "MY mem"); (case y04 => k_extra "MY mem"); (case y05 => k_extra "MY mem"); (case y06 => k_asm); (case y07 => k_asm); (case y08 => k_asm); (case y09 => k_asm); (case y10 => k_extra "MY mem"); (case y11 => k_extra "MY mem"); (case y12 => k_extra "MY mem"); (case y13 => k_asm); (case y14 => k_asm); (case y15 => exact GdefIn.mono (by assumption) (by k_extra "MY tl"))); k_extra "M881b")
  k_with "call ref" => k_extra "MY fm0"
  k_with "MY fm0" => (k_here; (with_reducible show wpAny _ _ (call (Value.ref 241) _) _ _ _); k_dflt (refine' Mine.fm0 ?y01 ?y02 ?y03 ?y04 ?y05 ?y06 ?y07 ?y08 ?y09 ?y10 ?y11 ?y12 ?y13 _ _ _ _ _ _ _ _ _ _ _ _ _ _ _ _ _ ?zqB ?zqF ?zqX ?zqN ?zqT ?zqk ?zqd ?zqu ?_; (case zqB => k_asm); (case zqF => k_asm); (case zqX => k_asm); (case zqN => k_asm); (case zqT => k_asm); (case zqk => first | exact rfl | assumption); (case zqd => ktr_room); (case zqu => ktr_units); (case y01 => k_extra "MY mem"); (case y02 => k_extra "MY mem"); (case y03 => k_extra "MY mem"); (case y04 => k_extra "MY mem"); (case y05 => k_extra "MY mem"); (case y06 => k_asm); (case y07 => k_asm); (case y08 => k_asm); (case y09 => k_asm); (case y10 => k_extra "MY mem"); (case y11 => k_extra "MY mem"); (case y12 => exact KernAt.mono (by assumption) (by k_extra "MY tl")); (case y13 => exact GdefIn.mono (by assumption) (by k_extra "MY tl"))); k_extra "Mcebf")
  trivial
local macro_rules | `(tactic| k_extra "Mf641") => `(tactic| (intro x0 x1 x2 x3 x4 x5 x6 x7 x8 x9 x10 x11 x12 x13 x14 x15; (try dsimp only at x9 x15); (try simp only [List.forall_mem_cons, List.not_mem_nil, false_implies, implies_true, and_true] at x15); (try k_sweep)))
local macro_rules | `(tactic| k_extra "M6683") => `(tactic| (intro x0 x1 x2 x3 x4 x5 x6 x7 x8 x9 x10 x11 x12 x13 x14 x15 x16 x17 x18 x19; (try dsimp only [List.cons_append] at x11); (try k_lt x12); (try k_lt2 x13); (try k_lt2 x14); (try k_sweep)))
local macro_rules | `(tactic| k_extra "Ma9a5") => `(tactic| (intro x0 x1 x2 x3 x4 x5 x6 x7 x8 x9 x10 x11 x12 x13 x14 x15 x16 x17; (try dsimp only [List.cons_append] at x12); (try k_lt x13); (try k_lt2 x14); (try k_lt2 x15); (try k_lt2 x16); (try k_sweep)))
local macro_rules | `(tactic| k_extra "Mf687") => `(tactic| (intro x0 x1 x2 x3 x4 x5 x6 x7 x8 x9 x10 x11 x12 x13 x14 x15 x16 x17 x18 x19 x20 x21 x22; (try dsimp only [List.cons_append] at x15); (try k_lt x20); (try k_lt2 x21); (try k_lt2 x22); (try k_sweep)))
local macro_rules | `(tactic| k_extra "Mece5") => `(tactic| (intro x0 x1 x2 x3 x4; (try dsimp only [List.cons_append] at x4); (try k_sweep)))
local macro_rules | `(tactic| k_extra "M56a5") => `(tactic| (intro x0 x1 x2 x3; (try dsimp only [List.cons_append] at x3); (try k_sweep)))
local macro_rules | `(tactic| k_extra "M5206") => `(tactic| (intro x0 x1 x2 x3 x4 x5 x6 x7 x8 x9 x10 x11 x12 x13; (try dsimp only [List.cons_append] at x11); (try k_lt x12); (try k_lt2 x13); (try k_sweep)))
local macro_rules | `(tactic| k_extra "M881b") => `(tactic| (intro x0 x1 x2 x3 x4 x5 x6 x7 x8 x9 x10 x11 x12 x13 x14 x15; (try dsimp only [List.cons_append] at x9); (try k_sweep)))
local macro_rules | `(tactic| k_extra "Mcebf") => `(tactic| (intro x0 x1 x2 x3 x4 x5 x6 x7 x8 x9 x10 x11 x12 x13 x14 x15 x16 x17 x18 x19; (try dsimp only [List.cons_append] at x11); (try k_sweep)))
theorem ands4 {a b c d P : Prop} (h : a ∧ b ∧ c ∧ d) (k : a → b → c → d → P) : P := k h.1 h.2.1 h.2.2.1 h.2.2.2
theorem ands9 {a b c d e f g i j P : Prop} (h : a ∧ b ∧ c ∧ d ∧ e ∧ f ∧ g ∧ i ∧ j) (k : a → b → c → d → e → f → g → i → j → P) : P := k h.1 h.2.1 h.2.2.1 h.2.2.2.1 h.2.2.2.2.1 h.2.2.2.2.2.1 h.2.2.2.2.2.2.1 h.2.2.2.2.2.2.2.1 h.2.2.2.2.2.2.2.2
theorem ex4 {α β γ δ : Type} {p : α → β → γ → δ → Prop} {P : Prop} (h : ∃ a b c d, p a b c d) (k : ∀ a b c d, p a b c d → P) : P := by
  obtain ⟨a, b, c, d, h⟩ := h
  exact k a b c d h
theorem own2 {tp : Addr} {a : Addr × Obj} (h36 : @LT.lt Nat _ 360 tp) (h : @LT.lt Nat _ tp a.1) : ∀ b ∈ [tp, 360], a.1 ≠ b := ne_pair (Nat.ne_of_gt h) (Nat.ne_of_gt (Nat.lt_trans h36 h))
theorem own2l {tp : Addr} {l : List (Addr × Obj)} (h36 : @LT.lt Nat _ 360 tp) (h : ∀ p ∈ l, @LT.lt Nat _ tp p.1) : OwnOff l [tp, 360] := fun p hp => own2 h36 (h p hp)
theorem offl_app {a l : List (Addr × Obj)} {adr : List Addr} (h : OwnOff a adr) (r : OwnOff l adr) : OwnOff (a ++ l) adr := fun q hq => (List.mem_append.mp hq).elim (h q) (r q)
theorem ands11 {p0 p1 p2 p3 p4 p5 p6 p7 p8 p9 p10 P : Prop} (h : p0 ∧ p1 ∧ p2 ∧ p3 ∧ p4 ∧ p5 ∧ p6 ∧ p7 ∧ p8 ∧ p9 ∧ p10) (k : p0 → p1 → p2 → p3 → p4 → p5 → p6 → p7 → p8 → p9 → p10 → P) : P := k h.1 h.2.1 h.2.2.1 h.2.2.2.1 h.2.2.2.2.1 h.2.2.2.2.2.1 h.2.2.2.2.2.2.1 h.2.2.2.2.2.2.2.1 h.2.2.2.2.2.2.2.2.1 h.2.2.2.2.2.2.2.2.2.1 h.2.2.2.2.2.2.2.2.2.2
theorem ands11_mono {α : Type} {R R2 : List α} {p0 p1 p2 p3 p4 p5 p6 p7 p8 p9 p10 : α} (s : ∀ p ∈ R, p ∈ R2) (h : p0 ∈ R ∧ p1 ∈ R ∧ p2 ∈ R ∧ p3 ∈ R ∧ p4 ∈ R ∧ p5 ∈ R ∧ p6 ∈ R ∧ p7 ∈ R ∧ p8 ∈ R ∧ p9 ∈ R ∧ p10 ∈ R) : p0 ∈ R2 ∧ p1 ∈ R2 ∧ p2 ∈ R2 ∧ p3 ∈ R2 ∧ p4 ∈ R2 ∧ p5 ∈ R2 ∧ p6 ∈ R2 ∧ p7 ∈ R2 ∧ p8 ∈ R2 ∧ p9 ∈ R2 ∧ p10 ∈ R2 := ⟨s _ h.1, s _ h.2.1, s _ h.2.2.1, s _ h.2.2.2.1, s _ h.2.2.2.2.1, s _ h.2.2.2.2.2.1, s _ h.2.2.2.2.2.2.1, s _ h.2.2.2.2.2.2.2.1, s _ h.2.2.2.2.2.2.2.2.1, s _ h.2.2.2.2.2.2.2.2.2.1, s _ h.2.2.2.2.2.2.2.2.2.2⟩
theorem ands8 {p0 p1 p2 p3 p4 p5 p6 p7 P : Prop} (h : p0 ∧ p1 ∧ p2 ∧ p3 ∧ p4 ∧ p5 ∧ p6 ∧ p7) (k : p0 → p1 → p2 → p3 → p4 → p5 → p6 → p7 → P) : P := k h.1 h.2.1 h.2.2.1 h.2.2.2.1 h.2.2.2.2.1 h.2.2.2.2.2.1 h.2.2.2.2.2.2.1 h.2.2.2.2.2.2.2
theorem ex1 {α : Type} {p : α → Prop} {P : Prop} (h : ∃ a, p a) (k : ∀ a, p a → P) : P := h.elim k
theorem law_holds : PySem.Challenge.rw_nu0220_01.Holds := hd (by
  k_go0
  all_goals try k_fold
  repeat' ((fail_if_success (with_reducible show wpAny _ _ (eval (Expr.Call (Expr.Name (Str.ofString "dict") _) _ _ _) _) _ _ _)); (first | (k_unfold; (try dsimp only)) | (k_end; wrow_close) | walk1 | (dsimp only; walk1) | (leave1; walk_say "STEP leave1"; try dsimp only) | fail "no step"))
  rename_i wd s0 s1 _ _ _ _ _ _ _ _ _ _ _ _ _ qX _ _ _ _ _ _ _ _ _ _ _ _ _ qvs _ _ _ _ _ _ _ _ _ _ _ _ _ _ _ XG _ _ l0 lc vs ns cN _ _ iV v0 v24 l1a tp _ l1b _ oc dc Dw ws wn iT tT nT _ _ F1 N1 iW w0 w4 c0 c5 lD
  obtain ⟨lD1, lD2, lD3, lD4⟩ := lD
  replace lD1 : @Ne Nat tp Dw := lD1
  replace lD2 : @Ne Nat lc Dw := lD2
  replace lD3 : @Ne Nat _ Dw := lD3
  replace lD4 : @Ne Nat 360 Dw := lD4
  repeat' ((fail_if_success (with_reducible show wpAny _ _ (eval (Expr.ListComp _ _ _ _) _) _ _ _)); (first | (k_unfold; (try dsimp only)) | walk1 | (dsimp only; walk1) | fail "no step"))
  k_dflt (refine LCg.ListComp_U (F₀ := by k_asm) (by with_unfolding_all rfl) (by decide) (by rfl) (by decide) (by rfl) ?_)
  repeat' ((fail_if_success (with_reducible show LCg.CompSrc _ _ _ _ _ _ _ _ _ _ _ _ _ _)); (first | (k_unfold; (try dsimp only)) | walk1 | (dsimp only; walk1) | fail "no step"))
  rename_i rC _ ta2 n2 _ _ r0 r1 F2 N2 _ _ _ _ _ hR F3 N3 K3
  obtain ⟨hsm, hrs, hr3⟩ := range_facts r0 r1
  refine LCg.CompSrc.range (by rfl) (by k_asm) (by k_asm) hR hsm hrs (Nat.le_trans hr3 (Nat.le_of_ble_eq_true rfl)) ?_
  intro gg
  refine compRest_inv (CdInv (iK wd) tp lc (s1.heap.objs.size + 1) Dw oc vs ws cN (iT + 1)) ?_ ?_ _ 0 [] _ (Nat.zero_add _) ?_
  · rintro i ys news hi2 ⟨j, ta', n', tl, kvs, rfl, j0, j1, offt, hPr, hyl, hin⟩ v I oI C oC D m₂ h tk E' ⟨tv, rfl⟩ hC hx F' N' off ne
    clear F2 N2 F3 N3 K3 hR
    have off0 := off
    simp only [LCg.Off3] at off
    have hi3 : i < 3 := by (first | k_extra "MY lo" | omega)
    k_steps
    rename_i D1 _ FF NN lN
    refine cd_hit FF (drop2 NN) (intKind_is _ _ _ _) off0 ?_ (by (first | k_extra "MY lo" | omega)) (by (first | k_extra "MY lo" | omega)) offt hPr hyl hin
    · refine ⟨?_, ?_, ?_, ?_, ?_, ?_, ?_, ?_⟩ <;> (first | k_extra "MY lo" | omega)
  · rintro ys news ⟨j, ta', n', tl, kvs, rfl, j0, j1, offt, hPr, hyl, hin⟩ D h tk F' N' o1'
    clear F2 N2 F3 N3 K3 hR
    have hys : ys.length ≤ sizeLine := by rw [hyl]; exact Nat.le_trans hr3 (Nat.le_of_ble_eq_true rfl)
    repeat' ((fail_if_success (with_reducible show wpAny _ _ (call (Value.type "dict") _) _ _ _)); (first | (k_unfold; (try dsimp only)) | walk1 | (dsimp only; walk1) | fail "no step"))

    refine dl_call (knd := iK wd) (hh := rfl) (by k_asm) (by k_asm) (Top.nolimit (by k_asm)) (.head _) (hPr.mono fun p hp => by repeat (first | exact hp | apply List.Mem.tail)) hys ?_
    intro cd h4 o4 tk4 F4 N4 l4 lo4 hdo4
    obtain ⟨c, fl, hcl⟩ := flat_ints (ints_merged (kvs := []) (fun _ h => nomatch h) hin)
    have hc3 : c.length ≤ 3 := by
      have e1 := merged_length_le [] kvs
      have e2 := hPr.length
      rw [List.length_nil] at e1
      (first | k_extra "MY lo" | omega)
    have j9 : j ≤ 12 := by (first | k_extra "MY lo" | omega)
    generalize merged [] kvs = kv at hdo4 fl
    clear hPr hyl hin hcl offt
    have m4 := l4 (tp, _) (by k_mem)
    have m5 := l4 (Dw, _) (by k_mem)
    replace m4 : @LT.lt Nat _ tp cd := m4
    replace m5 : @LT.lt Nat _ Dw cd := m5
    replace N4 := news_sub N4 (sub_cons (.head _) (sub_cons (show (Dw, LCg.lst ws) ∈ _ by k_mem) (sub_cons (show (tp, _) ∈ _ by k_mem) (sub_cons (show (lc, _) ∈ _ by k_mem) (sub_cons (show (s1.heap.objs.size + 1, oc) ∈ _ by k_mem) (sub_cons (show (360, _) ∈ _ by k_mem) (List.forall_mem_nil _)))))))
    clear l4 N' F' o1'
    have wl := iW.length
    repeat' ((fail_if_success (with_reducible show wpAny _ _ (exec (Stmt.For _ _ _ _ _) _) _ _ _)); (first | (k_unfold; (try dsimp only)) | walk1 | (dsimp only; walk1) | fail "no step"))
    rename_i cm dm ec oe kve c2 j1t j2t _ _ ie fle hce look loe a1 a2 a3 lz _ a4 lq _ zz1 _ zz2 zz3 zz4 zz5 a5 mt md wt bt q1 q2 q3 q4 q5 _ _ a6 a7 a8 a9 a10 f df g0 kd0 gw ko k1 k2 k3 k4 k5 k6 _ _ gi em lok lg b1 b2 b3 h5 F5 N5
    have hlt : (@LT.lt Nat _ tp cd ∧ @LT.lt Nat _ tp mt ∧ @LT.lt Nat _ tp md ∧ @LT.lt Nat _ tp f ∧ @LT.lt Nat _ tp df ∧ @LT.lt Nat _ tp cm ∧ @LT.lt Nat _ tp dm ∧ @LT.lt Nat _ tp wt ∧ @LT.lt Nat _ tp ec ∧ @LT.lt Nat _ tp kd0) ∧ @LT.lt Nat _ md mt := by
      refine ⟨⟨?_, ?_, ?_, ?_, ?_, ?_, ?_, ?_, ?_, ?_⟩, ?_⟩ <;> (first | k_extra "MY lo" | omega)
    have h36 : @LT.lt Nat _ 360 tp := l1b.2.2
    have hce : @Ne Nat (s1.heap.objs.size + 1) 360 := by (first | k_extra "MY lo" | omega)
    have hltg : ∀ p ∈ gw, @LT.lt Nat _ tp p.1 := fun p hp => lg p hp (tp, _) (by k_mem)
    refine ex4 (p := fun R e1 e2 e3 => News (ghostOf s1.heap [(362, 360)]) s1.heap.objs.size h5 ((tp, listOf #[.ref lc, .int j ta'] n') :: (lc, listOf vs.toArray cN) :: (360, tabObj #[]) :: (Dw, LCg.lst ws) :: R) ∧ ((mt, instObj 94 md) ∈ R ∧ (md, dictOf [{ hash := PyData.keyHash wd.params (Str.ofString "units"), key := .str (Str.ofString "units") q1, val := .int 16 e1 }, { hash := PyData.keyHash wd.params (Str.ofString "ascent"), key := .str (Str.ofString "ascent") q2, val := .int 1 e2 }, { hash := PyData.keyHash wd.params (Str.ofString "descent"), key := .str (Str.ofString "descent") q3, val := .int (-1) e3 }, { hash := PyData.keyHash wd.params (Str.ofString "advances"), key := .str (Str.ofString "advances") q4, val := .ref wt }, { hash := PyData.keyHash wd.params (Str.ofString "bearings"), key := .str (Str.ofString "bearings") q5, val := .ref bt }] 5) ∈ R ∧ (f, instObj 244 df) ∈ R ∧ (df, dictOf [{ hash := PyData.keyHash wd.params (Str.ofString "charmap"), key := .str (Str.ofString "charmap") k1, val := .ref cm }, { hash := PyData.keyHash wd.params (Str.ofString "metrics"), key := .str (Str.ofString "metrics") k2, val := .ref mt }, { hash := PyData.keyHash wd.params (Str.ofString "gdef"), key := .str (Str.ofString "gdef") k3, val := .ref g0 }, { hash := PyData.keyHash wd.params (Str.ofString "gsub"), key := .str (Str.ofString "gsub") k4, val := .none }, { hash := PyData.keyHash wd.params (Str.ofString "gpos"), key := .str (Str.ofString "gpos") k5, val := .none }, { hash := PyData.keyHash wd.params (Str.ofString "kern"), key := .str (Str.ofString "kern") k6, val := .ref kd0 }] 6) ∈ R ∧ (cd, o4) ∈ R ∧ (s1.heap.objs.size + 1, oc) ∈ R ∧ (cm, instObj 346 dm) ∈ R ∧ (dm, dictOf [{ hash := PyData.keyHash wd.params (Str.ofString "codes"), key := .str (Str.ofString "codes") j1t, val := .ref ec }, { hash := PyData.keyHash wd.params (Str.ofString "variations"), key := .str (Str.ofString "variations") j2t, val := .none }] 2) ∈ R ∧ (kd0, ko) ∈ R ∧ (wt, tup ws) ∈ R ∧ (ec, oe) ∈ R) ∧ GdefIn wd [] g0 R ∧ OwnOff R [tp, 360]) ?exh ?_
    case exh =>
      refine' ⟨(mt, instObj 94 md) :: (md, dictOf [{ hash := PyData.keyHash wd.params (Str.ofString "units"), key := .str (Str.ofString "units") q1, val := .int 16 ?ee1 }, { hash := PyData.keyHash wd.params (Str.ofString "ascent"), key := .str (Str.ofString "ascent") q2, val := .int 1 ?ee2 }, { hash := PyData.keyHash wd.params (Str.ofString "descent"), key := .str (Str.ofString "descent") q3, val := .int (-1) ?ee3 }, { hash := PyData.keyHash wd.params (Str.ofString "advances"), key := .str (Str.ofString "advances") q4, val := .ref wt }, { hash := PyData.keyHash wd.params (Str.ofString "bearings"), key := .str (Str.ofString "bearings") q5, val := .ref bt }] 5) :: (f, instObj 244 df) :: (df, dictOf [{ hash := PyData.keyHash wd.params (Str.ofString "charmap"), key := .str (Str.ofString "charmap") k1, val := .ref cm }, { hash := PyData.keyHash wd.params (Str.ofString "metrics"), key := .str (Str.ofString "metrics") k2, val := .ref mt }, { hash := PyData.keyHash wd.params (Str.ofString "gdef"), key := .str (Str.ofString "gdef") k3, val := .ref g0 }, { hash := PyData.keyHash wd.params (Str.ofString "gsub"), key := .str (Str.ofString "gsub") k4, val := .none }, { hash := PyData.keyHash wd.params (Str.ofString "gpos"), key := .str (Str.ofString "gpos") k5, val := .none }, { hash := PyData.keyHash wd.params (Str.ofString "kern"), key := .str (Str.ofString "kern") k6, val := .ref kd0 }] 6) :: (cd, o4) :: (s1.heap.objs.size + 1, oc) :: (cm, instObj 346 dm) :: (dm, dictOf [{ hash := PyData.keyHash wd.params (Str.ofString "codes"), key := .str (Str.ofString "codes") j1t, val := .ref ec }, { hash := PyData.keyHash wd.params (Str.ofString "variations"), key := .str (Str.ofString "variations") j2t, val := .none }] 2) :: (kd0, ko) :: (wt, tup ws) :: (ec, oe) :: gw, ?ee1, ?ee2, ?ee3, news_sub N5 ?esub, ⟨.head _, .tail _ (.head _), .tail _ (.tail _ (.head _)), .tail _ (.tail _ (.tail _ (.head _))), .tail _ (.tail _ (.tail _ (.tail _ (.head _)))), .tail _ (.tail _ (.tail _ (.tail _ (.tail _ (.head _))))), .tail _ (.tail _ (.tail _ (.tail _ (.tail _ (.tail _ (.head _)))))), .tail _ (.tail _ (.tail _ (.tail _ (.tail _ (.tail _ (.tail _ (.head _))))))), .tail _ (.tail _ (.tail _ (.tail _ (.tail _ (.tail _ (.tail _ (.tail _ (.head _)))))))), .tail _ (.tail _ (.tail _ (.tail _ (.tail _ (.tail _ (.tail _ (.tail _ (.tail _ (.head _))))))))), .tail _ (.tail _ (.tail _ (.tail _ (.tail _ (.tail _ (.tail _ (.tail _ (.tail _ (.tail _ (.head _))))))))))⟩, gi.mono fun p hp => .tail _ (.tail _ (.tail _ (.tail _ (.tail _ (.tail _ (.tail _ (.tail _ (.tail _ (.tail _ (.tail _ (hp))))))))))), ?elts⟩
      case esub =>
        refine (sub_cons (by k_mem) (sub_cons (by k_mem) (sub_cons (by k_mem) (sub_cons (by k_mem) (sub_cons (by k_mem) (sub_cons (by k_mem) (sub_cons (by k_mem) (sub_cons (by k_mem) (sub_cons (by k_mem) (sub_cons (by k_mem) (sub_cons (by k_mem) (sub_cons (by k_mem) (sub_cons (by k_mem) (sub_cons (by k_mem) (sub_cons (by k_mem) (fun p hp => by repeat (first | exact hp | exact List.mem_append_right _ hp | refine List.Mem.tail _ ?_)))))))))))))))))
      case elts =>
        exact offl_cons (own2 h36 hlt.1.2.1) (offl_cons (own2 h36 hlt.1.2.2.1) (offl_cons (own2 h36 hlt.1.2.2.2.1) (offl_cons (own2 h36 hlt.1.2.2.2.2.1) (offl_cons (own2 h36 hlt.1.1) ((offl_cons (ne_pair (Nat.ne_of_lt l1b.2.1) hce) (offl_cons (own2 h36 hlt.1.2.2.2.2.2.1) (offl_cons (own2 h36 hlt.1.2.2.2.2.2.2.1) (offl_cons (own2 h36 hlt.1.2.2.2.2.2.2.2.2.2) (offl_cons (own2 h36 hlt.1.2.2.2.2.2.2.2.1) (offl_cons (own2 h36 hlt.1.2.2.2.2.2.2.2.2.1) (own2l h36 hltg))))))))))))
    intro R e1 e2 e3 hh
    refine ands4 hh ?_
    clear hh
    intro N6 hm giR hRo
    have hm2 := hm
    refine ands11 hm2 ?_
    clear hm2
    intro mmt mmd mf mdf mcd mce mcm mdm mkd mwt mec
    let MD : List DictEntry := [{ hash := PyData.keyHash wd.params (Str.ofString "units"), key := .str (Str.ofString "units") q1, val := .int 16 e1 }, { hash := PyData.keyHash wd.params (Str.ofString "ascent"), key := .str (Str.ofString "ascent") q2, val := .int 1 e2 }, { hash := PyData.keyHash wd.params (Str.ofString "descent"), key := .str (Str.ofString "descent") q3, val := .int (-1) e3 }, { hash := PyData.keyHash wd.params (Str.ofString "advances"), key := .str (Str.ofString "advances") q4, val := .ref wt }, { hash := PyData.keyHash wd.params (Str.ofString "bearings"), key := .str (Str.ofString "bearings") q5, val := .ref bt }]
    let FD : List DictEntry := [{ hash := PyData.keyHash wd.params (Str.ofString "charmap"), key := .str (Str.ofString "charmap") k1, val := .ref cm }, { hash := PyData.keyHash wd.params (Str.ofString "metrics"), key := .str (Str.ofString "metrics") k2, val := .ref mt }, { hash := PyData.keyHash wd.params (Str.ofString "gdef"), key := .str (Str.ofString "gdef") k3, val := .ref g0 }, { hash := PyData.keyHash wd.params (Str.ofString "gsub"), key := .str (Str.ofString "gsub") k4, val := .none }, { hash := PyData.keyHash wd.params (Str.ofString "gpos"), key := .str (Str.ofString "gpos") k5, val := .none }, { hash := PyData.keyHash wd.params (Str.ofString "kern"), key := .str (Str.ofString "kern") k6, val := .ref kd0 }]
    let DM : List DictEntry := [{ hash := PyData.keyHash wd.params (Str.ofString "codes"), key := .str (Str.ofString "codes") j1t, val := .ref ec }, { hash := PyData.keyHash wd.params (Str.ofString "variations"), key := .str (Str.ofString "variations") j2t, val := .none }]
    change (md, dictOf MD 5) ∈ R at mmd
    change (df, dictOf FD 6) ∈ R at mdf
    change (dm, dictOf DM 2) ∈ R at mdm
    change (mt, instObj 94 md) ∈ R ∧ (md, dictOf MD 5) ∈ R ∧ (f, instObj 244 df) ∈ R ∧ (df, dictOf FD 6) ∈ R ∧ (cd, o4) ∈ R ∧ (s1.heap.objs.size + 1, oc) ∈ R ∧ (cm, instObj 346 dm) ∈ R ∧ (dm, dictOf DM 2) ∈ R ∧ (kd0, ko) ∈ R ∧ (wt, tup ws) ∈ R ∧ (ec, oe) ∈ R at hm
    clear N5 gi lg hltg hce a1 a2 a3 a4 a5 a6 a7 a8 a9 a10 b1 b2 b3 zz1 zz2 zz3 zz4 zz5 lD2 lD3 m4 m5
    clear hsm hrs j1 hr3 r0 r1
    k_here
    (with_unfolding_all refine' For_invVF F5 ?k1 ?k2 ?_; (case k1 => exact rfl); (case k2 => exact rfl); k_whole)
    repeat' ((fail_if_success (with_reducible show wpAny _ _ (pyIter (Value.ref _)) _ _ _)); (first | (k_unfold; (try dsimp only)) | walk1 | (dsimp only; walk1) | fail "no step"))
    rename_i tT4 _ FT4 NT4 lT4
    refine tup2 (x := Str.ofString "code") (y := Str.ofString "code") (vs := [_, _, _, _]) (fun _ => True) rfl FT4 NT4 (.head _) (fun p hp => .tail _ hp) (fun p hp => Nat.ne_of_lt (mem_allLt (by first | exact lT4 | (simp only [AllLt, and_true]; exact lT4)) p hp)) ?_ ?_ ?_
    · intro v hv
      simp only [List.mem_cons, List.not_mem_nil, or_false] at hv
      rcases hv with rfl | rfl | rfl | rfl <;> exact ⟨_, _, rfl, trivial⟩
    · intro k tk1 u h1 tk2 own _ ho F1 N1
      clear FT4 NT4 lT4
      dsimp only [List.cons_append] at N1
      k_steps
      · rename (kdfLook _ _ _ ≠ _) => hne
        exact absurd (look _) hne
      · exact TurnPost.mk (by k_asm) (by k_asm) (fun p hp => hp) (by intro z g1 g2; simp only [if_neg g1])
    · intro u1 u2 h1 tk2 F1 N1
      clear FT4 NT4 lT4
      repeat' ((fail_if_success (with_reducible show wpAny _ _ (exec (Stmt.For _ _ _ _ _) _) _ _ _)); (first | (k_unfold; (try dsimp only)) | walk1 | (dsimp only; walk1) | fail "no step"))
      rename Fr _ _ _ _ => FX
      k_here
      (with_unfolding_all refine' For_invVF FX ?k1 ?k2 ?_; (case k1 => exact rfl); (case k2 => exact rfl); k_whole)
      repeat' ((fail_if_success (with_reducible show wpAny _ _ (pyIter (Value.ref _)) _ _ _)); (first | (k_unfold; (try dsimp only)) | walk1 | (dsimp only; walk1) | fail "no step"))
      rename_i hR FR NR KR
      obtain ⟨hsm2, hrs2⟩ := range_facts2 w0 w4
      refine rng2 (x := Str.ofString "glyph") (y := Str.ofString "is_there") rfl hR hsm2 hrs2 FR NR ?_ ?_
      · intro k tk3 u h3 tk4 own hk ho F3 N3
        clear FR NR KR hR hsm2 hrs2
        dsimp only [List.cons_append] at N3
        obtain ⟨hk0, hk1⟩ := hk
        by_cases g0 : 0 ≤ k
        · by_cases g1 : k < (wn.length : Int)
          · k_steps
            all_goals first | exact TurnPost.mk (by k_asm) (by k_asm) (fun p hp => hp) (by intro z q1 q2; simp only [if_neg q1, if_neg q2]) | (exfalso; rename_i hx; first | exact hx rfl | (rw [decide_eq_true g1] at hx; exact absurd hx (by decide)) | (rw [decide_eq_false g1] at hx; exact absurd hx (by decide)) | (rw [decide_eq_false g0] at hx; exact absurd hx (by decide)))
          · k_steps
            all_goals first | exact TurnPost.mk (by k_asm) (by k_asm) (fun p hp => hp) (by intro z q1 q2; simp only [if_neg q1, if_neg q2]) | (exfalso; rename_i hx; first | exact hx rfl | (rw [decide_eq_true g1] at hx; exact absurd hx (by decide)) | (rw [decide_eq_false g1] at hx; exact absurd hx (by decide)) | (rw [decide_eq_false g0] at hx; exact absurd hx (by decide)))
        · k_steps
          all_goals first | exact TurnPost.mk (by k_asm) (by k_asm) (fun p hp => hp) (by intro z q1 q2; simp only [if_neg q1, if_neg q2]) | (exfalso; rename_i hx; first | exact hx rfl | (rw [decide_eq_true g1] at hx; exact absurd hx (by decide)) | (rw [decide_eq_false g1] at hx; exact absurd hx (by decide)) | (rw [decide_eq_false g0] at hx; exact absurd hx (by decide)))
      · intro u3 u4 h3 tk4 F3 N3
        clear FR NR KR hR hsm2 hrs2
        have hws : ws.toArray.size = wn.length := by rw [List.size_toArray]; exact wl
        have hwsI : ((ws.toArray.size : Nat) : Int) = ((wn.length : Nat) : Int) := by rw [hws]
        repeat' ((fail_if_success (with_reducible show TupStores _ _ _ _ _ _ _ _)); (first | (k_unfold; (try dsimp only)) | ((with_reducible show wpAny _ _ (callWith _ (Prod.fst _) _ _ _) _ _ _); dsimp only) | ((with_reducible show wpAny _ _ (callWith _ (Value.ref _) _ (backTo _ (starEach [] _)) _) _ _ _); refine' callWith_K0 (Frag.In.keeps XG (Fr.keep ?zzf)) ?zq2 ?_; (case zzf => k_asm); (case zq2 => k_is); k_whole) | walk1 | (dsimp only; walk1) | fail "no step"))
        any_goals first | (rename_i hx; exact absurd (look _) hx) | (rename_i hx; exact absurd hwsI hx) | fail
        rename_i uc tw1 _ _ rc1 oc1 um _ _ om1 ug tw2 _ _ rg1 og1 ue _ oe1 ub _ ob1 _ kd ko2 _ lok2 ie2 lE lD b1k _ o1 b2k _ F8 N8 o2
        have hlt2 : @LT.lt Nat _ tp um ∧ @LT.lt Nat _ tp ue ∧ @LT.lt Nat _ tp ub ∧ @LT.lt Nat _ tp kd ∧ @LT.lt Nat _ tp b1k ∧ @LT.lt Nat _ tp b2k ∧ @LT.lt Nat _ kd b1k ∧ @LT.lt Nat _ kd b2k := by
          refine ⟨?_, ?_, ?_, ?_, ?_, ?_, ?_, ?_⟩ <;> (first | k_extra "MY lo" | omega)
        have hw1 : ∀ p ∈ tw1, @LT.lt Nat _ tp p.1 := fun p hp => oc1 p hp (tp, _) (by k_mem)
        have hw2 : ∀ p ∈ tw2, @LT.lt Nat _ tp p.1 := fun p hp => og1 p hp (tp, _) (by k_mem)
        k_dflt (refine' kern_set (a1 := b1k) (a2 := b2k) ?zku F8 N8 (.tail _ (.tail _ (.head _))) lok2 ie2 sl_b0 ?zko (.tail _ (.head _)) (.head _) ?_)
        (case zku => ktr_units)
        case zko =>
          intro p hp
          obtain ⟨v1, v2, v3, v4, v5, v6, v7, v8⟩ := hlt2
          rcases List.mem_cons.mp hp with rfl | hp
          · exact Nat.ne_of_gt v8
          rcases List.mem_cons.mp hp with rfl | hp
          · exact Nat.ne_of_gt v7
          · exact Nat.ne_of_lt (lE p hp)
        intro h8 ko3 tk8 F9 N9 K9
        clear N8 F8 lE lD o1 o2 ob1 oe1 og1 om1 oc1
        refine ex1 (p := fun R2 => News (ghostOf s1.heap [(362, 360)]) s1.heap.objs.size h8 ((ub, tup [.ref uc, .ref um, .ref ug, .none, .none, .ref ue]) :: (tp, listOf #[.ref lc, .int j ta'] n') :: (lc, listOf vs.toArray cN) :: (360, tabObj #[]) :: (Dw, LCg.lst ws) :: R2) ∧ (∀ p ∈ R, p ∈ R2) ∧ KernAt wd kd b1k b2k R2 ∧ ToldC c2 uc R2 ∧ GTold [] ug R2 ∧ (um, tup [.int 16 e1, .int 1 e2, .int (-1) e3, .ref wt, .ref bt]) ∈ R2 ∧ (ue, tup []) ∈ R2 ∧ OwnOff R2 [tp, 360]) ?exh ?_
        case exh =>
          refine' ⟨(kd, ko3) :: (b1k, tup [.int 2 _, .int 1 _]) :: (b2k, tup [.int 1 _, .int 5 _]) :: (um, tup [.int 16 e1, .int 1 e2, .int (-1) e3, .ref wt, .ref bt]) :: (ue, tup []) :: (R ++ tw1 ++ tw2), news_sub N9 ?esub, fun p hp => .tail _ (.tail _ (.tail _ (.tail _ (.tail _ (List.mem_append_left _ (List.mem_append_left _ hp)))))), K9.mono ?ekm, ToldC.mono rc1 fun p hp => .tail _ (.tail _ (.tail _ (.tail _ (.tail _ (List.mem_append_left _ (List.mem_append_right _ hp)))))), rg1.mono fun p hp => .tail _ (.tail _ (.tail _ (.tail _ (.tail _ (List.mem_append_right _ hp))))), .tail _ (.tail _ (.tail _ (.head _))), .tail _ (.tail _ (.tail _ (.tail _ (.head _)))), ?elts⟩
          case ekm => exact sub_cons (.head _) (sub_cons (by k_mem) (sub_cons (by k_mem) (List.forall_mem_nil _)))
          case esub => refine (sub_cons (by k_mem) (sub_cons (by k_mem) (sub_cons (by k_mem) (sub_cons (by k_mem) (sub_cons (by k_mem) (sub_cons (by k_mem) (sub_cons (by k_mem) (sub_cons (by k_mem) (sub_cons (by k_mem) (sub_cons (by k_mem) (fun p hp => by repeat (first | exact hp | refine List.Mem.tail _ ?_))))))))))))
          case elts => exact offl_cons (own2 h36 hlt2.2.2.2.1) (offl_cons (own2 h36 hlt2.2.2.2.2.1) (offl_cons (own2 h36 hlt2.2.2.2.2.2.1) (offl_cons (own2 h36 hlt2.1) (offl_cons (own2 h36 hlt2.2.1) (offl_app (offl_app hRo (own2l h36 hw1)) (own2l h36 hw2))))))
        intro R2 hh
        refine ands8 hh ?_
        clear hh
        intro N10 hs2 K10 rc10 rg10 mum mue hRo2
        have hmR2 := ands11_mono hs2 hm
        clear hm mmt mmd mf mdf mcd mce mcm mdm mkd mwt mec
        refine ands11 hmR2 ?_
        intro mmt mmd mf mdf mcd mce mcm mdm mkd mwt mec
        have giR2 := giR.mono hs2
        clear N9 K9 rc1 rg1 hw1 hw2 hRo giR hs2 hws hwsI ie2 lok2 hlt2 hmR2
        repeat' ((fail_if_success (with_reducible show wpAny _ _ (compareOp _ (Value.ref _) (Value.ref _)) _ _ _)); (first | (k_unfold; (try dsimp only)) | ((with_reducible show wpAny _ _ (callWith _ (Prod.fst _) _ _ _) _ _ _); dsimp only) | ((with_reducible show wpAny _ _ (callWith _ (Value.ref _) _ (backTo _ (starEach [] _)) _) _ _ _); refine' callWith_K0 (Frag.In.keeps XG (Fr.keep ?zzf)) ?zq2 ?_; (case zzf => k_asm); (case zq2 => k_is); k_whole) | walk1 | (dsimp only; walk1) | fail "no step"))
        rename_i xm dxm kk1 kk2 kk3 kk4 kk5 kk6 _ _ oX oX2 _ ft fc fm fg fe tw3 _ _ F11 N11 ft1 ft2 ft3 ft4 ft5 oft
        k_dflt (refine' bare_ne (tl := tw3) (tl' := R2) N11 ?zb1 ?zb2 ?zb3 (?zb1 _ ft1) (.tail _ (.tail _ (.head _))) ft2 rc10 (?zb1 _ ft3) (?zb2 _ mum) ft4 rg10 (?zb1 _ ft5) (?zb2 _ mue) ?_)
        (case zb1 => exact fun p hp => by repeat (first | exact List.mem_append_right _ hp | refine List.Mem.tail _ ?_))
        (case zb2 => exact fun p hp => by repeat (first | exact List.mem_append_left _ hp | refine List.Mem.tail _ ?_))
        (case zb3 => ktr_units)
        repeat' ((fail_if_success (with_reducible show wpAny _ _ (subscriptTail _ (Expr.Slice _ _ _ _) (Value.ref _) (Value.ref _)) _ _ _)); (first | (k_unfold; (try dsimp only)) | ((with_reducible show wpAny _ _ (callWith _ (Prod.fst _) _ _ _) _ _ _); dsimp only) | ((with_reducible show wpAny _ _ (callWith _ (Value.ref _) _ (backTo _ (starEach [] _)) _) _ _ _); refine' callWith_K0 (Frag.In.keeps XG (Fr.keep ?zzf)) ?zq2 ?_; (case zzf => k_asm); (case zq2 => k_is); k_whole) | walk1 | (dsimp only; walk1) | fail "no step"))
        rename_i gt gc gm gg1 gc2 gm2 ge tw4 _ _ F12 N12 fm1 fm2 fm3 fm4 fm5 fm6 fm7 ofm
        k_here
        (with_unfolding_all refine' slice_upto (b := 3) F12 N12 (isTup_news N12 (.tail _ (.tail _ (.head _)))) ?zsb ?_ (by with_unfolding_all rfl) (by intro _; with_unfolding_all rfl) (by size_fits))
        (case zsb => exact Nat.le_of_ble_eq_true rfl)
        intro sD h9 F13 N13 oS
        change News _ _ _ ((sD, tup [.ref uc, .ref um, .ref ug]) :: _) at N13
        k_lt oS
        k_sweep
        repeat' ((fail_if_success (with_reducible show wpAny _ _ (compareOp _ (Value.ref _) (Value.ref _)) _ _ _)); (first | (k_unfold; (try dsimp only)) | ((with_reducible show wpAny _ _ (callWith _ (Prod.fst _) _ _ _) _ _ _); dsimp only) | ((with_reducible show wpAny _ _ (callWith _ (Value.ref _) _ (backTo _ (starEach [] _)) _) _ _ _); refine' callWith_K0 (Frag.In.keeps XG (Fr.keep ?zzf)) ?zq2 ?_; (case zzf => k_asm); (case zq2 => k_is); k_whole) | walk1 | (dsimp only; walk1) | fail "no step"))
        rename_i a2b _ _ p2b _ _ a1b _ _ p1b _ _ te2 _ _ dt3 _ _ ds _ F14 N14 oDs
        change News _ _ _ ((ds, tup [.ref uc, .ref um, .ref ug, .ref uc, .ref um, .ref te2]) :: _) at N14
        k_dflt (refine' more_ne (tl := tw4) (tl' := R2) N14 ?zb1 ?zb2 ?zb3 (?zb1 _ fm1) (.head _) fm2 fm5 rc10 (?zb1 _ fm3) (?zb1 _ fm6) (?zb2 _ mum) fm4 rg10 (KernT.mono fm7 ?zb4) ⟨p1b, p2b, a1b, a2b, _, _, _, _, _, _, ?zb5, ?zb6, ?zb7, ?zb8, ?zb9⟩ ?_)
        (case zb1 => exact fun p hp => by repeat (first | exact List.mem_append_right _ hp | refine List.Mem.tail _ ?_))
        (case zb2 => exact fun p hp => by repeat (first | exact List.mem_append_left _ (List.mem_append_left _ hp) | refine List.Mem.tail _ ?_))
        (case zb3 => ktr_units)
        (case zb4 => exact fun p hp => by repeat (first | exact hp | refine List.Mem.tail _ ?_))
        (case zb5 => k_mem); (case zb6 => k_mem); (case zb7 => k_mem); (case zb8 => k_mem); (case zb9 => k_mem)
        repeat' ((fail_if_success (with_reducible show wpAny _ _ (call (Value.ref 368) _) _ _ _)); (first | (k_unfold; (try dsimp only)) | ((with_reducible show wpAny _ _ (callWith _ (Prod.fst _) _ _ _) _ _ _); dsimp only) | ((with_reducible show wpAny _ _ (callWith _ (Value.ref _) _ (backTo _ (starEach [] _)) _) _ _ _); refine' callWith_K0 (Frag.In.keeps XG (Fr.keep ?zzf)) ?zq2 ?_; (case zzf => k_asm); (case zq2 => k_is); k_whole) | walk1 | (dsimp only; walk1) | fail "no step"))
        rename News _ _ _ _ => NZ
        rename Fr _ _ _ _ => FZ
        have N20 : News _ _ _ ((tp, listOf #[.ref lc, .int j ta'] n') :: (lc, listOf vs.toArray cN) :: (360, tabObj #[]) :: (mt, instObj 94 md) :: (md, dictOf MD 5) :: R2) := news_sub NZ (sub_cons (by k_mem) (sub_cons (by k_mem) (sub_cons (by k_mem) (sub_cons (by k_mem) (sub_cons (by k_mem) (fun p hp => by repeat (first | exact hp | exact List.mem_append_left _ hp | exact List.mem_append_left _ (List.mem_append_left _ hp) | refine List.Mem.tail _ ?_)))))))
        clear NZ
        k_dflt (refine' rr iV v0 v24 j0 ?zr1 hRo2 l1a.2 l1b.1 ?zr2 ?zr3 ?zr4 (.inl rfl) _ _ _ _ _ _ _ _ _ _ _ _ _ _ _ _ _ ?zqB FZ ?zqX N20 ?zqT ?zqk ?zqd ?zqu ?_ ?zqc rfl ?zqY ?zqZ)
        (case zqB => k_asm); (case zqX => k_asm); (case zqT => k_asm); (case zqk => first | exact rfl | assumption); (case zqd => ktr_room); (case zqu => ktr_units); (case zqc => exact codeHd); (case zqY => k_asm); (case zqZ => k_asm)
        (case zr1 => (first | k_extra "MY lo" | omega)); (case zr2 => (first | k_extra "MY lo" | omega)); (case zr3 => (first | k_extra "MY lo" | omega)); (case zr4 => (first | k_extra "MY lo" | omega))
        intro j9 ta9 n9 c9 oc9 h10 tk10 jj0 jj1 F20 N21 tab9
        obtain ⟨nec, nec3⟩ := tabst_ne N21 tab9 (.tail _ (.tail _ (.tail _ (.tail _ (.tail _ (.head _)))))) (.head _) (.tail _ (.tail _ (.head _)))
        clear N20 FZ
        k_sweep
        repeat' ((fail_if_success (with_reducible show wpAny _ _ (call (Value.ref 375) _) _ _ _)); (first | (k_unfold; (try dsimp only)) | ((with_reducible show wpAny _ _ (callWith _ (Prod.fst _) _ _ _) _ _ _); dsimp only) | ((with_reducible show wpAny _ _ (callWith _ (Value.ref _) _ (backTo _ (starEach [] _)) _) _ _ _); refine' callWith_K0 (Frag.In.keeps XG (Fr.keep ?zzf)) ?zq2 ?_; (case zzf => k_asm); (case zq2 => k_is); k_whole) | walk1 | (dsimp only; walk1) | fail "no step"))

        rename_i rb tb9 _ _ _ _ rb0 rb1 F22 N22
        have N23 : News _ _ _ ((360, tabObj #[rawInt 151, rawInt 23, .ref c9]) :: (c9, oc9) :: R2) := news_sub N22 (sub_cons (by k_mem) (sub_cons (by k_mem) (fun p hp => by repeat (first | exact hp | refine List.Mem.tail _ ?_))))
        have off8 : OwnOff ((c9, oc9) :: R2) [360] := offl_cons (ne_one nec3) fun p hp b hb => hRo2 p hp b (List.mem_singleton.mp hb ▸ .tail _ (.head _))
        k_dflt (refine' wr0 rb0 rb1 (.tail _ (by assumption)) (.tail _ (by assumption)) (giR2.mono ?zr5) off8 (tab9.mono ?zr6) _ _ _ _ _ _ _ _ _ _ _ _ _ _ _ _ _ ?zqB F22 ?zqX N23 ?zqT ?zqk ?zqd ?zqu ?_ ?zqc)
        (case zqB => k_asm); (case zqX => k_asm); (case zqT => k_asm); (case zqk => first | exact rfl | assumption); (case zqd => ktr_room); (case zqu => ktr_units); (case zqc => exact codeHd)
        (case zr5 => exact fun p hp => .tail _ hp)
        (case zr6 => exact sub_cons (.head _) (List.forall_mem_nil _))
        intro ps9 h11 tk11 F23 N24
        clear N22 N23 F22
        k_sweep
        k_steps
  · exact ⟨_, _, _, [], [], rfl, by (first | k_extra "MY lo" | omega), by (first | k_extra "MY lo" | omega), fun _ h => (nomatch h), .nil, rfl, fun _ h => (nomatch h)⟩)
end Mine
theorem PySem.Challenge.cw_nu0220_01_holds : PySem.Challenge.rw_nu0220_01.Holds :=
  Mine.law_holds
