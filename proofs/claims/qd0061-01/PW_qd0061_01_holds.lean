import PyProof.Rows.All
import Wide.All
import OpenK.AllK
import Wide.FinOn
import Lean
import PySem.Challenge.RW_qd0061_01
open PySem PySem.W PyProof.Rows
set_option Elab.async false
set_option compiler.extract_closed false
set_option maxRecDepth 100000
set_option maxHeartbeats 8000000
set_option rowWalk.seconds 0
-- The rows 'name_quick' below: the kit's own command lays 210 names that 'open_top' would else give to quick twins of its
-- tables (and their equations); it then does without these twins. Nothing reads the names. Their one effect: the compiled
-- file is 45 MB smaller (the equations of the twins grow with the square of a table's length).
name_quick tw10010936943081839664 for PySem.W.S.findZ by PySem.W.S.findZ_eq
name_quick tw10073347824450446311 for PySem.W.S.findZ by PySem.W.S.findZ_eq
name_quick tw10317580896714288900 for PySem.W.S.findZ by PySem.W.S.findZ_eq
name_quick tw10470071008263537045 for PySem.W.S.findZ by PySem.W.S.findZ_eq
name_quick tw10528696920762540405 for PySem.W.S.findZ by PySem.W.S.findZ_eq
name_quick tw10833955939284561965 for PySem.W.S.findZ by PySem.W.S.findZ_eq
name_quick tw10942035263794033107 for PySem.W.S.findZ by PySem.W.S.findZ_eq
name_quick tw11130039905162102590 for PySem.W.S.findZ by PySem.W.S.findZ_eq
name_quick tw11186114360453789277 for PySem.W.S.findZ by PySem.W.S.findZ_eq
name_quick tw11277716924127702174 for PySem.W.S.findZ by PySem.W.S.findZ_eq
name_quick tw11636919720809706868 for PySem.W.S.findZ by PySem.W.S.findZ_eq
name_quick tw117213463901210413 for PySem.W.S.findZ by PySem.W.S.findZ_eq
name_quick tw11853533878840232495 for PySem.W.S.findZ by PySem.W.S.findZ_eq
name_quick tw11939915149646268982 for PySem.W.S.findZ by PySem.W.S.findZ_eq
name_quick tw11964429278604863157 for PySem.W.S.findZ by PySem.W.S.findZ_eq
name_quick tw12233582284571471492 for PySem.W.S.findZ by PySem.W.S.findZ_eq
name_quick tw12290603225136948437 for PySem.W.S.findZ by PySem.W.S.findZ_eq
name_quick tw12329403913580668285 for PySem.W.S.findZ by PySem.W.S.findZ_eq
name_quick tw12469489778152837 for PySem.W.S.findZ by PySem.W.S.findZ_eq
name_quick tw1258717718454355964 for PySem.W.S.findZ by PySem.W.S.findZ_eq
name_quick tw12635297910168745909 for PySem.W.S.findZ by PySem.W.S.findZ_eq
name_quick tw12734952128020822468 for PySem.W.S.findZ by PySem.W.S.findZ_eq
name_quick tw12813236842856870187 for PySem.W.S.findZ by PySem.W.S.findZ_eq
name_quick tw12825359941727978080 for PySem.W.S.findZ by PySem.W.S.findZ_eq
name_quick tw12832477231654346042 for PySem.W.S.findZ by PySem.W.S.findZ_eq
name_quick tw12850107946570832962 for PySem.W.S.findZ by PySem.W.S.findZ_eq
name_quick tw1307395114118428627 for PySem.W.S.findZ by PySem.W.S.findZ_eq
name_quick tw13180171748994924942 for PySem.W.S.findZ by PySem.W.S.findZ_eq
name_quick tw13236226663087606529 for PySem.W.S.findZ by PySem.W.S.findZ_eq
name_quick tw13254397897704925713 for PySem.W.S.findZ by PySem.W.S.findZ_eq
name_quick tw13317431791736044220 for PySem.W.S.findZ by PySem.W.S.findZ_eq
name_quick tw1333364371103165705 for PySem.W.S.findZ by PySem.W.S.findZ_eq
name_quick tw13512673800721320934 for PySem.W.S.findZ by PySem.W.S.findZ_eq
name_quick tw13559156169165276386 for PySem.W.S.findZ by PySem.W.S.findZ_eq
name_quick tw13615603153576403970 for PySem.W.S.findZ by PySem.W.S.findZ_eq
name_quick tw136631920214876835 for PySem.W.S.findZ by PySem.W.S.findZ_eq
name_quick tw13667205123737199278 for PySem.W.S.findZ by PySem.W.S.findZ_eq
name_quick tw13678640442995254988 for PySem.W.S.findZ by PySem.W.S.findZ_eq
name_quick tw13789449189825218787 for PySem.W.S.findZ by PySem.W.S.findZ_eq
name_quick tw13890744642731562755 for PySem.W.S.findZ by PySem.W.S.findZ_eq
name_quick tw13900631225919944168 for PySem.W.S.findZ by PySem.W.S.findZ_eq
name_quick tw13981391230805400906 for PySem.W.S.findZ by PySem.W.S.findZ_eq
name_quick tw1402947280878808549 for PySem.W.S.findZ by PySem.W.S.findZ_eq
name_quick tw14073706353221006472 for PySem.W.S.findZ by PySem.W.S.findZ_eq
name_quick tw14108194823987119177 for PySem.W.S.findZ by PySem.W.S.findZ_eq
name_quick tw14126943448341045398 for PySem.W.S.findZ by PySem.W.S.findZ_eq
name_quick tw1414301608579184545 for PySem.W.S.findZ by PySem.W.S.findZ_eq
name_quick tw14223099787259518943 for PySem.W.S.findZ by PySem.W.S.findZ_eq
name_quick tw14326252917377295143 for PySem.W.S.findZ by PySem.W.S.findZ_eq
name_quick tw14400365274747737836 for PySem.W.S.findZ by PySem.W.S.findZ_eq
name_quick tw14530364306720264245 for PySem.W.S.findZ by PySem.W.S.findZ_eq
name_quick tw14821650378409806113 for PySem.W.S.findZ by PySem.W.S.findZ_eq
name_quick tw14847034805825309785 for PySem.W.S.findZ by PySem.W.S.findZ_eq
name_quick tw14896874001708588922 for PySem.W.S.findZ by PySem.W.S.findZ_eq
name_quick tw14979626087600564940 for PySem.W.S.findZ by PySem.W.S.findZ_eq
name_quick tw1503297043503765363 for PySem.W.S.findZ by PySem.W.S.findZ_eq
name_quick tw15040288709643333888 for PySem.W.S.findZ by PySem.W.S.findZ_eq
name_quick tw15112985482279097393 for PySem.W.S.findZ by PySem.W.S.findZ_eq
name_quick tw15278061642289888581 for PySem.W.S.findZ by PySem.W.S.findZ_eq
name_quick tw15323854079317868165 for PySem.W.S.findZ by PySem.W.S.findZ_eq
name_quick tw15490439104401381959 for PySem.W.S.findZ by PySem.W.S.findZ_eq
name_quick tw15672971873811296575 for PySem.W.S.findZ by PySem.W.S.findZ_eq
name_quick tw1574873078441994576 for PySem.W.S.findZ by PySem.W.S.findZ_eq
name_quick tw15894407043143930727 for PySem.W.S.findZ by PySem.W.S.findZ_eq
name_quick tw15980859228951719591 for PySem.W.S.findZ by PySem.W.S.findZ_eq
name_quick tw16049961110935095269 for PySem.W.S.findZ by PySem.W.S.findZ_eq
name_quick tw16145008321745377990 for PySem.W.S.findZ by PySem.W.S.findZ_eq
name_quick tw16241802466949684156 for PySem.W.S.findZ by PySem.W.S.findZ_eq
name_quick tw16296994325663420285 for PySem.W.S.findZ by PySem.W.S.findZ_eq
name_quick tw16349308318094073859 for PySem.W.S.findZ by PySem.W.S.findZ_eq
name_quick tw16349804527192203551 for PySem.W.S.findZ by PySem.W.S.findZ_eq
name_quick tw16350708796919097252 for PySem.W.S.findZ by PySem.W.S.findZ_eq
name_quick tw16531745337717519161 for PySem.W.S.findZ by PySem.W.S.findZ_eq
name_quick tw16590896929057906003 for PySem.W.S.findZ by PySem.W.S.findZ_eq
name_quick tw16593013826814733010 for PySem.W.S.findZ by PySem.W.S.findZ_eq
name_quick tw16643379632663270332 for PySem.W.S.findZ by PySem.W.S.findZ_eq
name_quick tw16697116713213952808 for PySem.W.S.findZ by PySem.W.S.findZ_eq
name_quick tw16741492637210864865 for PySem.W.S.findZ by PySem.W.S.findZ_eq
name_quick tw16751136340355185061 for PySem.W.S.findZ by PySem.W.S.findZ_eq
name_quick tw16752143609539240740 for PySem.W.S.findZ by PySem.W.S.findZ_eq
name_quick tw16846860572762119324 for PySem.W.S.findZ by PySem.W.S.findZ_eq
name_quick tw16916688483869632129 for PySem.W.S.findZ by PySem.W.S.findZ_eq
name_quick tw16947794391021106201 for PySem.W.S.findZ by PySem.W.S.findZ_eq
name_quick tw16966814322356759819 for PySem.W.S.findZ by PySem.W.S.findZ_eq
name_quick tw16979880578912567463 for PySem.W.S.findZ by PySem.W.S.findZ_eq
name_quick tw17057272898397164401 for PySem.W.S.findZ by PySem.W.S.findZ_eq
name_quick tw1706496860858754268 for PySem.W.S.findZ by PySem.W.S.findZ_eq
name_quick tw17111948838632640456 for PySem.W.S.findZ by PySem.W.S.findZ_eq
name_quick tw17207729816335089435 for PySem.W.S.findZ by PySem.W.S.findZ_eq
name_quick tw17279654841073493023 for PySem.W.S.findZ by PySem.W.S.findZ_eq
name_quick tw17428874351420789250 for PySem.W.S.findZ by PySem.W.S.findZ_eq
name_quick tw17476080006546285661 for PySem.W.S.findZ by PySem.W.S.findZ_eq
name_quick tw17497748084772794779 for PySem.W.S.findZ by PySem.W.S.findZ_eq
name_quick tw1749818173716722547 for PySem.W.S.findZ by PySem.W.S.findZ_eq
name_quick tw1754064540070892767 for PySem.W.S.findZ by PySem.W.S.findZ_eq
name_quick tw17706762159258044697 for PySem.W.S.findZ by PySem.W.S.findZ_eq
name_quick tw17730428716208468724 for PySem.W.S.findZ by PySem.W.S.findZ_eq
name_quick tw17730448691065144110 for PySem.W.S.findZ by PySem.W.S.findZ_eq
name_quick tw17804436615005485693 for PySem.W.S.findZ by PySem.W.S.findZ_eq
name_quick tw17846936440860909165 for PySem.W.S.findZ by PySem.W.S.findZ_eq
name_quick tw17888162413812561239 for PySem.W.S.findZ by PySem.W.S.findZ_eq
name_quick tw17954471519018878134 for PySem.W.S.findZ by PySem.W.S.findZ_eq
name_quick tw17964007177503468958 for PySem.W.S.findZ by PySem.W.S.findZ_eq
name_quick tw17975652961387846372 for PySem.W.S.findZ by PySem.W.S.findZ_eq
name_quick tw18101931140130867144 for PySem.W.S.findZ by PySem.W.S.findZ_eq
name_quick tw18211773271919218964 for PySem.W.S.findZ by PySem.W.S.findZ_eq
name_quick tw18220123701641295943 for PySem.W.S.findZ by PySem.W.S.findZ_eq
name_quick tw18345786424863182364 for PySem.W.S.findZ by PySem.W.S.findZ_eq
name_quick tw18416463498863911781 for PySem.W.S.findZ by PySem.W.S.findZ_eq
name_quick tw1962928258387122110 for PySem.W.S.findZ by PySem.W.S.findZ_eq
name_quick tw1975554356029942138 for PySem.W.S.findZ by PySem.W.S.findZ_eq
name_quick tw219737044198020058 for PySem.W.S.findZ by PySem.W.S.findZ_eq
name_quick tw2283851925072248500 for PySem.W.S.findZ by PySem.W.S.findZ_eq
name_quick tw2334299552400917057 for PySem.W.S.findZ by PySem.W.S.findZ_eq
name_quick tw2422670821966735624 for PySem.W.S.findZ by PySem.W.S.findZ_eq
name_quick tw2447775223705975068 for PySem.W.S.findZ by PySem.W.S.findZ_eq
name_quick tw2478078296215019888 for PySem.W.S.findZ by PySem.W.S.findZ_eq
name_quick tw2627984346626558326 for PySem.W.S.findZ by PySem.W.S.findZ_eq
name_quick tw2660918139993853925 for PySem.W.S.findZ by PySem.W.S.findZ_eq
name_quick tw2711585505577850959 for PySem.W.S.findZ by PySem.W.S.findZ_eq
name_quick tw2905824091091238844 for PySem.W.S.findZ by PySem.W.S.findZ_eq
name_quick tw3039592710220408265 for PySem.W.S.findZ by PySem.W.S.findZ_eq
name_quick tw3094477031063562474 for PySem.W.S.findZ by PySem.W.S.findZ_eq
name_quick tw3152983702415266003 for PySem.W.S.findZ by PySem.W.S.findZ_eq
name_quick tw3264259588550801142 for PySem.W.S.findZ by PySem.W.S.findZ_eq
name_quick tw3282434896037501709 for PySem.W.S.findZ by PySem.W.S.findZ_eq
name_quick tw3362959441861295915 for PySem.W.S.findZ by PySem.W.S.findZ_eq
name_quick tw3424931102881643321 for PySem.W.S.findZ by PySem.W.S.findZ_eq
name_quick tw3442601649717412197 for PySem.W.S.findZ by PySem.W.S.findZ_eq
name_quick tw3560238982266916124 for PySem.W.S.findZ by PySem.W.S.findZ_eq
name_quick tw3577408171920636059 for PySem.W.S.findZ by PySem.W.S.findZ_eq
name_quick tw3619232141914619222 for PySem.W.S.findZ by PySem.W.S.findZ_eq
name_quick tw3698559305507148144 for PySem.W.S.findZ by PySem.W.S.findZ_eq
name_quick tw3764465048917985505 for PySem.W.S.findZ by PySem.W.S.findZ_eq
name_quick tw3891137856419664920 for PySem.W.S.findZ by PySem.W.S.findZ_eq
name_quick tw3972328310683599613 for PySem.W.S.findZ by PySem.W.S.findZ_eq
name_quick tw4039474712603431140 for PySem.W.S.findZ by PySem.W.S.findZ_eq
name_quick tw4075660801711882420 for PySem.W.S.findZ by PySem.W.S.findZ_eq
name_quick tw4090926877573551719 for PySem.W.S.findZ by PySem.W.S.findZ_eq
name_quick tw4319705520415482375 for PySem.W.S.findZ by PySem.W.S.findZ_eq
name_quick tw43969757491396457 for PySem.W.S.findZ by PySem.W.S.findZ_eq
name_quick tw4407734736301137906 for PySem.W.S.findZ by PySem.W.S.findZ_eq
name_quick tw4552823106982906706 for PySem.W.S.findZ by PySem.W.S.findZ_eq
name_quick tw4558998842232669794 for PySem.W.S.findZ by PySem.W.S.findZ_eq
name_quick tw4658958612460137192 for PySem.W.S.findZ by PySem.W.S.findZ_eq
name_quick tw4679858250743294509 for PySem.W.S.findZ by PySem.W.S.findZ_eq
name_quick tw4748654258956052638 for PySem.W.S.findZ by PySem.W.S.findZ_eq
name_quick tw4775785305629353868 for PySem.W.S.findZ by PySem.W.S.findZ_eq
name_quick tw5032809538720368765 for PySem.W.S.findZ by PySem.W.S.findZ_eq
name_quick tw505943868828395459 for PySem.W.S.findZ by PySem.W.S.findZ_eq
name_quick tw5135500740108067664 for PySem.W.S.findZ by PySem.W.S.findZ_eq
name_quick tw5268983451555188008 for PySem.W.S.findZ by PySem.W.S.findZ_eq
name_quick tw5345256250457102556 for PySem.W.S.findZ by PySem.W.S.findZ_eq
name_quick tw5349121933718820234 for PySem.W.S.findZ by PySem.W.S.findZ_eq
name_quick tw5357591511691535388 for PySem.W.S.findZ by PySem.W.S.findZ_eq
name_quick tw5396446701170858492 for PySem.W.S.findZ by PySem.W.S.findZ_eq
name_quick tw5529568453561195837 for PySem.W.S.findZ by PySem.W.S.findZ_eq
name_quick tw5701610774189311196 for PySem.W.S.findZ by PySem.W.S.findZ_eq
name_quick tw5732905514179830355 for PySem.W.S.findZ by PySem.W.S.findZ_eq
name_quick tw5882768191206486792 for PySem.W.S.findZ by PySem.W.S.findZ_eq
name_quick tw6059929106960060952 for PySem.W.S.findZ by PySem.W.S.findZ_eq
name_quick tw6070266971409104853 for PySem.W.S.findZ by PySem.W.S.findZ_eq
name_quick tw6122645084068987007 for PySem.W.S.findZ by PySem.W.S.findZ_eq
name_quick tw6245536207120538393 for PySem.W.S.findZ by PySem.W.S.findZ_eq
name_quick tw6363645014702824404 for PySem.W.S.findZ by PySem.W.S.findZ_eq
name_quick tw6589095468515690095 for PySem.W.S.findZ by PySem.W.S.findZ_eq
name_quick tw662354867322794072 for PySem.W.S.findZ by PySem.W.S.findZ_eq
name_quick tw6683783046931543321 for PySem.W.S.findZ by PySem.W.S.findZ_eq
name_quick tw6711915476519705758 for PySem.W.S.findZ by PySem.W.S.findZ_eq
name_quick tw6792406925840432001 for PySem.W.S.findZ by PySem.W.S.findZ_eq
name_quick tw6929956602132211858 for PySem.W.S.findZ by PySem.W.S.findZ_eq
name_quick tw704327219915372674 for PySem.W.S.findZ by PySem.W.S.findZ_eq
name_quick tw7275051467321613617 for PySem.W.S.findZ by PySem.W.S.findZ_eq
name_quick tw7276740287692124622 for PySem.W.S.findZ by PySem.W.S.findZ_eq
name_quick tw7299303143086499733 for PySem.W.S.findZ by PySem.W.S.findZ_eq
name_quick tw7299951869573292228 for PySem.W.S.findZ by PySem.W.S.findZ_eq
name_quick tw7392212959928792091 for PySem.W.S.findZ by PySem.W.S.findZ_eq
name_quick tw7397068168572129948 for PySem.W.S.findZ by PySem.W.S.findZ_eq
name_quick tw7496433998918960881 for PySem.W.S.findZ by PySem.W.S.findZ_eq
name_quick tw7650934615059315214 for PySem.W.S.findZ by PySem.W.S.findZ_eq
name_quick tw7745614565497352828 for PySem.W.S.findZ by PySem.W.S.findZ_eq
name_quick tw785904758220388488 for PySem.W.S.findZ by PySem.W.S.findZ_eq
name_quick tw7892128664451923741 for PySem.W.S.findZ by PySem.W.S.findZ_eq
name_quick tw8017206721242287953 for PySem.W.S.findZ by PySem.W.S.findZ_eq
name_quick tw8075568018651887793 for PySem.W.S.findZ by PySem.W.S.findZ_eq
name_quick tw8098380416015320538 for PySem.W.S.findZ by PySem.W.S.findZ_eq
name_quick tw8206430501311747189 for PySem.W.S.findZ by PySem.W.S.findZ_eq
name_quick tw8400853705098224536 for PySem.W.S.findZ by PySem.W.S.findZ_eq
name_quick tw8537084889766193716 for PySem.W.S.findZ by PySem.W.S.findZ_eq
name_quick tw8579058602437062094 for PySem.W.S.findZ by PySem.W.S.findZ_eq
name_quick tw8603108125212654177 for PySem.W.S.findZ by PySem.W.S.findZ_eq
name_quick tw8693227569615203950 for PySem.W.S.findZ by PySem.W.S.findZ_eq
name_quick tw8703263022893421829 for PySem.W.S.findZ by PySem.W.S.findZ_eq
name_quick tw8727135674562949291 for PySem.W.S.findZ by PySem.W.S.findZ_eq
name_quick tw8796240567053077481 for PySem.W.S.findZ by PySem.W.S.findZ_eq
name_quick tw900395245841561262 for PySem.W.S.findZ by PySem.W.S.findZ_eq
name_quick tw912392155897948271 for PySem.W.S.findZ by PySem.W.S.findZ_eq
name_quick tw9136488742655976645 for PySem.W.S.findZ by PySem.W.S.findZ_eq
name_quick tw923604117134886902 for PySem.W.S.findZ by PySem.W.S.findZ_eq
name_quick tw9315938663221665524 for PySem.W.S.findZ by PySem.W.S.findZ_eq
name_quick tw932993149863042379 for PySem.W.S.findZ by PySem.W.S.findZ_eq
name_quick tw9407582987413476825 for PySem.W.S.findZ by PySem.W.S.findZ_eq
name_quick tw9458956999447867950 for PySem.W.S.findZ by PySem.W.S.findZ_eq
name_quick tw9467589175468403638 for PySem.W.S.findZ by PySem.W.S.findZ_eq
name_quick tw9501820088010722379 for PySem.W.S.findZ by PySem.W.S.findZ_eq
name_quick tw9594665118957945026 for PySem.W.S.findZ by PySem.W.S.findZ_eq
name_quick tw9763268239775435451 for PySem.W.S.findZ by PySem.W.S.findZ_eq
name_quick tw9800571698397750058 for PySem.W.S.findZ by PySem.W.S.findZ_eq
name_quick tw9951705424602377420 for PySem.W.S.findZ by PySem.W.S.findZ_eq
name_quick tw9979284746773624096 for PySem.W.S.findZ by PySem.W.S.findZ_eq
namespace Mine
open_top hd for PySem.Challenge.rw_qd0061_01
example : True := by w_top off; trivial
open PySem.Calls PySem.Spec

theorem pick0 {g r : Prop} (h : g ∧ r) : g := h.1
theorem pick1 {p0 g r : Prop} (h : p0 ∧ g ∧ r) : g := h.2.1
theorem last1 {p0 g : Prop} (h : p0 ∧ g) : g := h.2
theorem pick2 {p0 p1 g r : Prop} (h : p0 ∧ p1 ∧ g ∧ r) : g := h.2.2.1
theorem last2 {p0 p1 g : Prop} (h : p0 ∧ p1 ∧ g) : g := h.2.2
theorem pick3 {p0 p1 p2 g r : Prop} (h : p0 ∧ p1 ∧ p2 ∧ g ∧ r) : g := h.2.2.2.1
theorem last3 {p0 p1 p2 g : Prop} (h : p0 ∧ p1 ∧ p2 ∧ g) : g := h.2.2.2
theorem pick4 {p0 p1 p2 p3 g r : Prop} (h : p0 ∧ p1 ∧ p2 ∧ p3 ∧ g ∧ r) : g := h.2.2.2.2.1
theorem last4 {p0 p1 p2 p3 g : Prop} (h : p0 ∧ p1 ∧ p2 ∧ p3 ∧ g) : g := h.2.2.2.2
theorem pick5 {p0 p1 p2 p3 p4 g r : Prop} (h : p0 ∧ p1 ∧ p2 ∧ p3 ∧ p4 ∧ g ∧ r) : g := h.2.2.2.2.2.1
theorem last5 {p0 p1 p2 p3 p4 g : Prop} (h : p0 ∧ p1 ∧ p2 ∧ p3 ∧ p4 ∧ g) : g := h.2.2.2.2.2
theorem pick6 {p0 p1 p2 p3 p4 p5 g r : Prop} (h : p0 ∧ p1 ∧ p2 ∧ p3 ∧ p4 ∧ p5 ∧ g ∧ r) : g := h.2.2.2.2.2.2.1
theorem last6 {p0 p1 p2 p3 p4 p5 g : Prop} (h : p0 ∧ p1 ∧ p2 ∧ p3 ∧ p4 ∧ p5 ∧ g) : g := h.2.2.2.2.2.2
theorem last7 {p0 p1 p2 p3 p4 p5 p6 g : Prop} (h : p0 ∧ p1 ∧ p2 ∧ p3 ∧ p4 ∧ p5 ∧ p6 ∧ g) : g := h.2.2.2.2.2.2.2
theorem room1 {d n k lim : Nat} (h : d + n < lim) (hk : k + 1 ≤ n) : d + 1 + k < lim := by omega
theorem room0 {d n k lim : Nat} (h : d + n < lim) (hk : k ≤ n) : d + k < lim := by omega
theorem row_lt0 {N i : Nat} {r : Int} (h : N < 800) (h1 : r < 4) (h2 : i < r.toNat) : N + 1 + 4 * i < 1000 := by omega
theorem row_lt1 {N i : Nat} {r : Int} (h : N < 800) (h1 : r < 4) (h2 : i < r.toNat) : N + 1 + 4 * i + 1 < 900 := by omega
theorem row_le1 {n : Nat} {r : Int} (h : n = r.toNat) (h1 : r < 4) : n ≤ 1000 := by omega
theorem row_le2 {n l k : Nat} {r : Int} (h : n = r.toNat) (h1 : r < 4) (h2 : n = l) (h3 : l = k) : k ≤ 3 := by omega
theorem row_le3 {N : Nat} {r : Int} (h1 : r < 4) : N + 1 + 4 * r.toNat ≤ N + 13 := by omega
theorem grow_n1 {m : Int} {c r c' : Nat} (h : c' = c + r) (h2 : (c' : Int) < m) : (m - c).toNat - (r + 1) < (m - c).toNat - r := by omega
theorem grow_n2 {m : Int} {c r c' : Nat} (h : c' = c + r) (h2 : (c' : Int) < m) : r + 1 ≤ (m - c).toNat := by omega
theorem grow_n3 {m : Int} {c r c' : Nat} (h : c' = c + r) (h2 : ¬ (c' : Int) < m) (h3 : r ≤ (m - c).toNat) : r = (m - c).toNat := by omega
theorem put_n3 {c : Nat} {b la : Int} {R : Nat} (e : (b + la + 1 - c).toNat = R) {a0 a : Int} (h1 : -a0 ≤ b) (h : a0 ≤ a) (h' : a ≤ la) : 0 ≤ b + a ∧ b + a < (c + R : Nat) := by omega
theorem lt_of_len {o a b : Nat} (h : o < a) (e : b = a) : o < b := by omega
theorem le_th {o a : Nat} (h : o < a) (e : a ≤ 100) : (o : Int) ≤ 1000 := by omega
theorem toNat_lt9 {z : Int} {n m : Nat} (h : 0 ≤ z ∧ z < (n : Int)) (e : m = n) : z.toNat < m := by omega
theorem toNat_ne8 {b a q : Int} {n m : Nat} (h : 0 ≤ b + a ∧ b + a < (n : Int)) (h' : 0 ≤ b + q ∧ b + q < (m : Int)) (e : ¬ q = a) : (b + a).toNat ≠ (b + q).toNat := by omega
theorem toNat_ne9 {z : Int} {j n : Nat} (h : 0 ≤ z ∧ z < (n : Int)) (e : z ≠ (j : Int)) : z.toNat ≠ j := by omega
/-- the heap keeps all but the named places -/
def Keep (X : List Addr) (h h' : Heap) : Prop := ∀ b o, h.get? b = some o → b ∉ X → h'.get? b = some o
/-- made since -/
def Fresh (h h' : Heap) (l : List (Addr × Obj)) : Prop := ∀ p ∈ l, h'.get? p.1 = some p.2 ∧ h.get? p.1 = none

theorem Keep.refl {X : List Addr} {h : Heap} : Keep X h h := fun _ _ e _ => e
theorem Keep.trans {X : List Addr} {a b c : Heap} (h1 : Keep X a b) (h2 : Keep X b c) : Keep X a c := fun x o e n => h2 x o (h1 x o e n) n
theorem Keep.mono {X Y : List Addr} {a b : Heap} (h : Keep X a b) (s : ∀ x ∈ X, x ∈ Y) : Keep Y a b := fun x o e n => h x o e fun m => n (s x m)
theorem Keep.stays {X : List Addr} {b₀ a b : Heap} (h : Keep X a b) (S : b₀.StaysIn a) (hX : ∀ x ∈ X, b₀.get? x = none) : b₀.StaysIn b :=
  fun x o e => h x o (S x o e) fun m => by rw [hX x m] at e; cases e

section
variable {h₀ h h' : Heap} {L : Addr} {m : Str → Option Value} {news : List (Addr × Obj)} {X : List Addr}
theorem fr_keep (F : Fr h₀ L h m) (K : Keep X h h') (hL : L ∉ X) (h0 : ∀ a ∈ X, h₀.get? a = none) : Fr h₀ L h' m := by
  obtain ⟨⟨o, es, ep, ho, r⟩, k, a⟩ := F
  exact ⟨⟨o, es, ep, K _ _ ho hL, r⟩, fun b o e => K b o (k b o e) (fun q => by rw [h0 b q] at e; cases e), a⟩
theorem news_keep (N : News h₀ L h news) (K : Keep X h h') (hn : ∀ p ∈ news, p.1 ∉ X) : News h₀ L h' news :=
  fun p hp => ⟨K _ _ (N p hp).1 (hn p hp), (N p hp).2⟩
theorem news_fresh {new : List (Addr × Obj)} (F : Fr h₀ L h m) (n : Fresh h h' new) : News h₀ L h' new := fun p hp => by
  obtain ⟨e1, e2⟩ := n p hp
  refine ⟨e1, fun q => ?_, ?_⟩
  · obtain ⟨o, _, _, ho, _⟩ := F.ns
    rw [q, ho] at e2; cases e2
  · cases e : h₀.get? p.1 with
    | none => rfl
    | some o => rw [F.keep _ _ e] at e2; cases e2
theorem news_app {a b : List (Addr × Obj)} (N : News h₀ L h a) (N' : News h₀ L h b) : News h₀ L h (a ++ b) :=
  fun p hp => (List.mem_append.mp hp).elim (N p) (N' p)
theorem news_cons {p : Addr × Obj} {b : List (Addr × Obj)} (e : h.get? p.1 = some p.2) (hL : p.1 ≠ L) (h0 : h₀.get? p.1 = none) (N' : News h₀ L h b) : News h₀ L h (p :: b) :=
  fun q hq => by rcases List.mem_cons.mp hq with rfl | hq; exact ⟨e, hL, h0⟩; exact N' q hq
theorem news_sub {a b : List (Addr × Obj)} (N : News h₀ L h a) (hs : ∀ p ∈ b, p ∈ a) : News h₀ L h b := fun p hp => N p (hs p hp)
end

/-- what stands at a def's entry: everything but the named objects is the ground -/
structure Grd (s : Heap) (X : List Addr) (g : Heap) : Prop where
  of : ∀ b o, s.get? b = some o → b ∉ X → g.get? b = some o
  back : ∀ b o, g.get? b = some o → s.get? b = some o
  off : ∀ b ∈ X, g.get? b = none
theorem Grd.fresh {s g : Heap} {X : List Addr} (G : Grd s X g) {b : Addr} (e : g.get? b = none) (n : b ∉ X) : s.get? b = none := by
  cases q : s.get? b with
  | none => rfl
  | some o => rw [G.of b o q n] at e; cases e

section
variable {prog : Program} {w : World} {A : Around} {s : Shared} {b₀ : Heap} {K : Frag} {p : Program} {loose : List Str} {mean : ExcName → Option Value} {mg mb : Str → Option Value}
  {name qual : Str} {params : Arguments} {body : List Stmt} {scope : Scope} {dV kV doc pm cdv ct oc : Value} {an od : Option Addr} {osl : Array (Option Value)} {f : Addr} {args : List Value} {binds : List (Str × Value)}
  {mt : List (Addr × Obj)} {Q : Value → Shared → Prop} {E : Value → Shared → Prop}

theorem grd_hide (s : Heap) (X : List Addr) : Grd s X (hideAll s X) :=
  ⟨fun _ _ e n => hideAll_get _ e n, fun _ _ e => of_hideAll _ e, fun _ m => hideAll_none _ m⟩

theorem enterP (X₀ : K.In b₀) (T₀ : Top p loose mean mg mb b₀) (S : b₀.StaysIn s.heap) (hM : ∀ q ∈ mt, s.heap.get? q.1 = some q.2 ∧ b₀.get? q.1 = none)
    (ho : K.lookup f = some ⟨oc, od, .func (fnOf name qual params body scope dV kV doc pm an cdv ct), osl⟩) (hcd : codeIn K cdv qual = true) (hroom : A.depth < recursionLimit)
    (hbind : BindsTo s (fnOf name qual params body scope dV kV doc pm an cdv ct) ⟨args, []⟩ binds) (hloc : ∀ y ∈ binds, scope.names.lookup y.1 = some .local)
    (hco : scope.isCoroutine = false) (hgen : scope.isGenerator = false) (hk : scope.kind = .function) (hcell : ∀ x ∈ scope.names, x.2 ≠ .cell)
    (h : ∀ g L' h₁ tk, Grd s.heap (mt.map (·.1)) g → Fr g L' h₁ (fun y => binds.reverse.lookup y) → News g L' h₁ mt → K.In g → Top p loose mean mg mb g → (∀ b o, s.heap.get? b = some o → h₁.get? b = some o) → (s.heap.get? L' = none) →
      wpAny (model prog w) (A.deeper (envOf qual scope L' f cdv)) (execs body (envOf qual scope L' f cdv))
        (fun fl s' => Q (match fl with | .ret v => v | _ => .none) s') (fun _ _ => False)
        { s with heap := h₁, toks := tk }) :
    wpAny (model prog w) A (call (.ref f) args) Q E s := by
  have st : b₀.StaysIn (hideAll s.heap (mt.map (·.1))) := fun b o e => hideAll_get _ (S b o e) fun q => by
    obtain ⟨r, hr, rfl⟩ := List.mem_map.mp q
    rw [(hM r hr).2] at e; cases e
  refine wpAny_call (codeAny_call_def (fd := fnOf name qual params body scope dV kV doc pm an cdv ct) (body := body) (binds := binds) hroom (S _ _ (X₀ _ _ ho)) rfl (T₀.nolimit.keeps S) (codeRec_of (X₀.keeps S) hcd) rfl hbind hcell hloc (fun h₁ hns hk₁ => ?_) hco hgen hk)
  refine wpAny_mono (h _ s.heap.objs.size h₁ _ (grd_hide _ _) ⟨hns, fun b o e => hk₁ b o (of_hideAll _ e), Nat.le_of_eq (hideAll_size _ _)⟩
    (fun q hq => ⟨hk₁ _ _ (hM q hq).1, Nat.ne_of_lt (Heap.lt_size (hM q hq).1), hideAll_none _ (List.mem_map_of_mem hq)⟩) (X₀.keeps st) (T₀.keeps st) hk₁ (Heap.get?_none_of_le (Nat.le_refl _))) (fun fl s' hl => hl) fun _ _ y => y.elim

theorem enterC (X₀ : K.In b₀) (T₀ : Top p loose mean mg mb b₀) (S : b₀.StaysIn s.heap) (hM : ∀ q ∈ mt, s.heap.get? q.1 = some q.2 ∧ b₀.get? q.1 = none)
    (ho : K.lookup f = some ⟨oc, od, .func (fnOf name qual params body scope dV kV doc pm an cdv ct), osl⟩) (hcd : codeIn K cdv qual = true) (hroom : A.depth < recursionLimit)
    (hbind : BindsTo s (fnOf name qual params body scope dV kV doc pm an cdv ct) ⟨args, []⟩ binds)
    (hkind : (binds.all fun y => scope.names.lookup y.1 == some .local || scope.names.lookup y.1 == some .cell) = true)
    (hnd : ((cellsFrom 0 scope.names []).map (·.1)).Nodup)
    (hco : scope.isCoroutine = false) (hgen : scope.isGenerator = false) (hk : scope.kind = .function)
    (h : ∀ g L' h₁ tk cells, Grd s.heap (mt.map (·.1)) g → Fr g L' h₁ (bindL (envOfC qual scope L' f cdv).kindOf binds fun _ => none) → News g L' h₁ (cells ++ mt) →
      CellsAre (bindC (envOfC qual scope L' f cdv).kindOf binds fun _ => none) (cellsFrom (L' + 1) scope.names []) cells → K.In g → Top p loose mean mg mb g → (∀ b o, s.heap.get? b = some o → h₁.get? b = some o) → (s.heap.get? L' = none) → (∀ q ∈ cells, s.heap.get? q.1 = none) → (∀ q ∈ mt, q.1 < L') →
      wpAny (model prog w) (A.deeper (envOfC qual scope L' f cdv)) (execs body (envOfC qual scope L' f cdv))
        (fun fl s' => Q (match fl with | .ret v => v | _ => .none) s') (fun _ _ => False)
        { s with heap := h₁, toks := tk }) :
    wpAny (model prog w) A (call (.ref f) args) Q E s := by
  have st : b₀.StaysIn (hideAll s.heap (mt.map (·.1))) := fun b o e => hideAll_get _ (S b o e) fun q => by
    obtain ⟨r, hr, rfl⟩ := List.mem_map.mp q
    rw [(hM r hr).2] at e; cases e
  refine wpAny_call (codeAny_call_function (fd := fnOf name qual params body scope dV kV doc pm an cdv ct) (body := body) hroom (S _ _ (X₀ _ _ ho)) rfl hco hgen rfl (codeRec_of (X₀.keeps S) hcd) (hbind _ _ _ _ ?_))
  refine wpAny_newFunctionEnv_cells hk (kindsX hkind _) fun env' he s' x => ?_
  subst he
  refine ⟨(T₀.nolimit.keeps S).keeps x.toInCall.keep, codeAny_func ?_⟩
  obtain ⟨h₁, tk, rfl, _⟩ := x.done
  have hk₁ := x.toInCall.keep
  obtain ⟨cells, NC, Y⟩ := Cl.news (h₀ := s.heap) (Nat.le_refl _) fun n c hm => ⟨x.cell n c (lookup_of_mem_nodup (cellsFrom_names scope.names 0 (s.heap.objs.size + 1) [] [] rfl ▸ hnd) hm), x.above n c hm⟩
  refine wpAny_mono (h _ s.heap.objs.size h₁ tk cells (grd_hide _ _) ⟨x.toInCall.ns, fun b o e => hk₁ b o (of_hideAll _ e), Nat.le_of_eq (hideAll_size _ _)⟩ (fun q hq => ?_) Y (X₀.keeps st) (T₀.keeps st) hk₁ (Heap.get?_none_of_le (Nat.le_refl _)) (fun q hq => (NC q hq).2.2) (fun q hq => Heap.lt_size (hM q hq).1)) (fun fl s' hl => hl) fun _ _ y => y.elim
  rcases List.mem_append.mp hq with hq | hq
  · refine ⟨(NC q hq).1, (NC q hq).2.1, ?_⟩
    cases e : (hideAll s.heap (mt.map (·.1))).get? q.1 with
    | none => rfl
    | some o => have := of_hideAll _ e; rw [(NC q hq).2.2] at this; cases this
  · exact ⟨hk₁ _ _ (hM q hq).1, Nat.ne_of_lt (Heap.lt_size (hM q hq).1), hideAll_none _ (List.mem_map_of_mem hq)⟩
end

section
variable {prog : Program} {w : World} {A : Around} {E : Value → Shared → Prop} {s : Shared} {h₀ : Heap} {L D : Addr} {m : Str → Option Value} {news news' : List (Addr × Obj)} {vs : List Value} {n : Nat} {k : Int} {t : Tok} {v : Value}
theorem setAt_led {Q : Unit → Shared → Prop} (F : Fr h₀ L s.heap m) (N : News h₀ L s.heap news) (U : Upd D (listOf vs.toArray n) (listOf (vs.set k.toNat v).toArray n) news news') (h0 : 0 ≤ k) (h1 : k < vs.length) (hfit : k < 2 ^ 63)
    (h : ∀ h', Fr h₀ L h' m → News h₀ L h' news' → Q () { s with heap := h' }) :
    wpAny (model prog w) A (setItem (.ref D) (.int k t) v) Q E s := by
  obtain ⟨pre, post, rfl, rfl, a, b⟩ := U.split
  have z := N (D, listOf vs.toArray n) (List.mem_append.mpr (.inr (.head _)))
  have hs : vs.toArray.size = vs.length := by rw [List.size_toArray]
  refine ki_setAt z.1 h0 hfit (by rw [hs]; exact h1) (h _ (F.change (Heap.SameBut.update ..) z.2.1 z.2.2) (ki_turn _ N a b ?_ ?_))
  · show vs.toArray.setIfInBounds k.toNat v = (vs.set k.toNat v).toArray
    apply Array.toList_inj.mp
    simp
  · simp
end

theorem keep_of {s g h' : Heap} {X : List Addr} {L : Addr} {m : Str → Option Value} (G : Grd s X g) (F : Fr g L h' m) : Keep X s h' := fun b o e n => F.keep b o (G.of b o e n)

theorem not_two {a t c : Addr} (h1 : a ≠ t) (h2 : a ≠ c) : a ∉ [t, c] := fun m => by
  rcases List.mem_cons.mp m with e | m
  · exact h1 e
  · exact h2 (List.mem_singleton.mp m)

theorem news_two {h₀ h h' : Heap} {L t c : Addr} {news : List (Addr × Obj)} {ot oc ot' oc' : Obj} {g1 : Obj → List (Addr × Obj)} {g2 : Obj → Obj → List (Addr × Obj)} (N : News h₀ L h news) (U1 : UpdF t ot news g1) (U2 : ∀ o, UpdF c oc (g1 o) (g2 o))
    (K : Keep [t, c] h h') (ht : h'.get? t = some ot') (hc : h'.get? c = some oc') : News h₀ L h' (g2 ot' oc') := by
  obtain ⟨pre, post, rfl, e1, a1, b1⟩ := U1.split
  obtain ⟨pre2, post2, e2, e3, a2, b2⟩ := (U2 ot').split
  have hc0 : ∀ q, q = (c, oc) → q ∈ g1 ot' := fun q e => by rw [e2, e]; simp
  rw [e3]
  have old : ∀ q ∈ g1 ot', q.1 ≠ c → h'.get? q.1 = some q.2 ∧ q.1 ≠ L ∧ h₀.get? q.1 = none := fun q hq n => by
    rw [e1] at hq
    rcases List.mem_append.mp hq with hq | hq
    · have z := N q (by simp [hq])
      exact ⟨K _ _ z.1 (not_two (a1 q hq) n), z.2⟩
    · rcases List.mem_cons.mp hq with rfl | hq
      · exact ⟨ht, (N (t, ot) (by simp)).2⟩
      · have z := N q (by simp [hq])
        exact ⟨K _ _ z.1 (not_two (b1 q hq) n), z.2⟩
  intro q hq
  rcases List.mem_append.mp hq with hq | hq
  · exact old q (by rw [e2]; simp [hq]) (a2 q hq)
  · rcases List.mem_cons.mp hq with rfl | hq
    · refine ⟨hc, ?_⟩
      have z := hc0 (c, oc) rfl
      rw [e1] at z
      rcases List.mem_append.mp z with z | z
      · exact (N (c, oc) (by simp [z])).2
      · rcases List.mem_cons.mp z with z | z
        · have := N (t, ot) (by simp)
          obtain rfl : c = t := congrArg Prod.fst z
          exact this.2
        · exact (N (c, oc) (by simp [z])).2
    · exact old q (by rw [e2]; simp [hq]) (b2 q hq)


/-- around a call of ours: nothing handled -/
abbrev ar (dp un : Nat) (fr : Option (List Env)) (gd : Option (List Code)) : Around := { handled := none, depth := dp, frames := fr, guards := gd, units := un }
local macro_rules | `(tactic| k_ne) => `(tactic| (refine neN ?_; with_reducible first | assumption | exact Ne.symm (by assumption) | exact Nat.ne_of_lt (by assumption) | exact Nat.ne_of_gt (by assumption) | exact pick0 (by assumption) | exact pick1 (by assumption) | exact last1 (by assumption) | exact pick2 (by assumption) | exact last2 (by assumption) | exact pick3 (by assumption) | exact last3 (by assumption) | exact pick4 (by assumption) | exact last4 (by assumption) | exact pick5 (by assumption) | exact last5 (by assumption) | exact pick6 (by assumption) | exact last6 (by assumption) | exact last7 (by assumption) | exact Ne.symm (pick0 (by assumption)) | exact Ne.symm (pick1 (by assumption)) | exact Ne.symm (last1 (by assumption)) | exact Ne.symm (pick2 (by assumption)) | exact Ne.symm (last2 (by assumption)) | exact Ne.symm (pick3 (by assumption)) | exact Ne.symm (last3 (by assumption)) | exact Ne.symm (pick4 (by assumption)) | exact Ne.symm (last4 (by assumption)) | exact Ne.symm (pick5 (by assumption)) | exact Ne.symm (last5 (by assumption)) | exact Ne.symm (pick6 (by assumption)) | exact Ne.symm (last6 (by assumption)) | exact Ne.symm (last7 (by assumption)) | exact Nat.ne_of_lt (pick0 (by assumption)) | exact Nat.ne_of_lt (pick1 (by assumption)) | exact Nat.ne_of_lt (last1 (by assumption)) | exact Nat.ne_of_lt (pick2 (by assumption)) | exact Nat.ne_of_lt (last2 (by assumption)) | exact Nat.ne_of_lt (pick3 (by assumption)) | exact Nat.ne_of_lt (last3 (by assumption)) | exact Nat.ne_of_lt (pick4 (by assumption)) | exact Nat.ne_of_lt (last4 (by assumption)) | exact Nat.ne_of_lt (pick5 (by assumption)) | exact Nat.ne_of_lt (last5 (by assumption)) | exact Nat.ne_of_lt (pick6 (by assumption)) | exact Nat.ne_of_lt (last6 (by assumption)) | exact Nat.ne_of_lt (last7 (by assumption)) | exact Nat.ne_of_gt (pick0 (by assumption)) | exact Nat.ne_of_gt (pick1 (by assumption)) | exact Nat.ne_of_gt (last1 (by assumption)) | exact Nat.ne_of_gt (pick2 (by assumption)) | exact Nat.ne_of_gt (last2 (by assumption)) | exact Nat.ne_of_gt (pick3 (by assumption)) | exact Nat.ne_of_gt (last3 (by assumption)) | exact Nat.ne_of_gt (pick4 (by assumption)) | exact Nat.ne_of_gt (last4 (by assumption)) | exact Nat.ne_of_gt (pick5 (by assumption)) | exact Nat.ne_of_gt (last5 (by assumption)) | exact Nat.ne_of_gt (pick6 (by assumption)) | exact Nat.ne_of_gt (last6 (by assumption)) | exact Nat.ne_of_gt (last7 (by assumption)) | fail "none in hand"))
local macro_rules | `(tactic| k_all) => `(tactic| assumption)
local macro_rules | `(tactic| lcg_off) => `(tactic| assumption)
local macro_rules | `(tactic| lcg_sub) => `(tactic| first | exact List.forall_mem_nil _ | refine List.forall_mem_cons.mpr ⟨by k_mem, by lcg_sub⟩ | (intro _ h9; (repeat (first | exact h9 | apply List.mem_cons_of_mem)); done))
section
end
section
example : True := by w_top off; trivial
theorem fillTop {P : Params} {h : Heap} (X : (hd.heap_39 P).In h) (e : PySem.Challenge.rw_qd0061_01 = PySem.Challenge.rw_qd0061_01) : (hd.heap_39 P).In h ∧ PySem.Challenge.rw_qd0061_01 = PySem.Challenge.rw_qd0061_01 := by
  k_fill
  exact ⟨X, e⟩

/-- the tray: a list of the cells' list and the turn -/
def TrayO (c : Addr) (ot oc : Obj) (N : Nat) : Prop :=
  ∃ (turn : Int) (tk n₁ : Nat) (vs : List Value) (n₂ : Nat) (ns : List Int),
    ot = listOf #[.ref c, .int turn tk] n₁ ∧ oc = listOf vs.toArray n₂ ∧ IntsAre vs ns ∧ (∀ x ∈ ns, 0 ≤ x) ∧ 0 ≤ turn ∧ turn ≤ N ∧ ns.length ≤ 40
theorem TrayO.mono {c : Addr} {ot oc : Obj} {N M : Nat} (h : TrayO c ot oc N) (l : N ≤ M) : TrayO c ot oc M := by
  obtain ⟨a, b, c', d, e, f, g, i, j, k, l', m, n⟩ := h
  exact ⟨a, b, c', d, e, f, g, i, j, k, l', by omega, n⟩

theorem getD_nonneg {ns : List Int} (h : ∀ x ∈ ns, 0 ≤ x) (i : Nat) : 0 ≤ ns.getD i 0 := by
  rw [List.getD_eq_getElem?_getD]
  cases e : ns[i]? with
  | none => simp
  | some v => exact h v (List.mem_of_getElem? e)
theorem set_nonneg {ns : List Int} (h : ∀ x ∈ ns, 0 ≤ x) (i : Nat) {v : Int} (hv : 0 ≤ v) : ∀ x ∈ ns.set i v, 0 ≤ x := fun x hx => by
  rcases List.mem_or_eq_of_mem_set hx with hx | rfl
  · exact h x hx
  · exact hv

variable {prog : Program} {w : World} {b₀ : Heap} {p : Program} {loose : List Str} {mean : ExcName → Option Value} {mg mb : Str → Option Value}

theorem pour_spec (X : (hd.heap_39 w.params).In b₀) (T : Top p loose mean mg mb b₀) {dp un : Nat} {fr : Option (List Env)} {gd : Option (List Code)} {s : Shared} {t c : Addr} {N : Nat} {many : Int} {tm : Tok} {Q E : Value → Shared → Prop}
    (hd : dp + 10 < recursionLimit) (hu : un + 100 < cLine) (S : b₀.StaysIn s.heap) {ot oc : Obj} (ht0 : b₀.get? t = none) (hc0 : b₀.get? c = none) (htc : t ≠ c) (hgt : s.heap.get? t = some ot) (hgc : s.heap.get? c = some oc) (Y : TrayO c ot oc N) (hN : N < 1000) (h1 : 1 ≤ many) (h2 : many ≤ 2 ^ 40)
    (hq : ∀ h' tk r tr ot' oc', Keep [t, c] s.heap h' → h'.get? t = some ot' → h'.get? c = some oc' → TrayO c ot' oc' (N + 1) → 0 ≤ r → r < many → Q (.int r tr) { s with heap := h', toks := tk }) :
    wpAny (model prog w) (ar dp un fr gd) (call (.ref 363) [.ref t, .int many tm]) Q E s := by
  obtain ⟨turn, tk, n₁, vs, n₂, ns, rfl, rfl, hI, hpos, hz, hN', hlen⟩ := Y
  refine enterP X T S (mt := [(t, listOf #[.ref c, .int turn tk] n₁), (c, listOf vs.toArray n₂)]) ?hM (by k_is) (by k_is) (by show dp < recursionLimit; omega) (BindsTo.of_eq (binds := [("tray", .ref t), ("many", .int many tm)]) rfl) (locs rfl) rfl rfl rfl (by decide) ?_
  case hM =>
    intro q hq
    rcases List.mem_cons.mp hq with rfl | hq
    · exact ⟨hgt, ht0⟩
    · rcases List.mem_cons.mp hq with rfl | hq
      · exact ⟨hgc, hc0⟩
      · cases hq
  replace htc := neN htc
  intro g L' h₁ tk₁ G F N K' T' hk₁ hL'
  have hlog : many.natAbs.log2 < 9000 := by
    refine (Nat.log2_lt (by omega)).mpr (Nat.lt_of_le_of_lt (m := 2 ^ 40) (by omega) (Nat.pow_lt_pow_right (by decide) (by decide)))
  have hm0 : many ≠ 0 := by omega
  k_steps
  · refine floordiv_int hm0 ?_ (Or.inl (PyProof.noPylong_of_log2 hlog))
    k_steps
    dsimp only
    exact hq _ _ _ _ _ _ (keep_of G (by assumption)) (News.get (by assumption) (by k_mem)) (News.get (by assumption) (by k_mem)) ⟨_, _, _, _, _, _, rfl, rfl, by assumption, set_nonneg hpos _ (Int.fdiv_nonneg (getD_nonneg hpos _) (by omega)), by omega, by omega, by omega⟩ (Int.fmod_nonneg_of_pos _ (by omega)) (Int.fmod_lt_of_pos _ (by omega))
  · exact hq _ _ _ _ _ _ (keep_of G (by assumption)) (News.get (by assumption) (by k_mem)) (News.get (by assumption) (by k_mem)) ⟨_, _, _, _, _, _, rfl, rfl, hI, hpos, by omega, by omega, hlen⟩ (Int.fmod_nonneg_of_pos _ (by omega)) (Int.fmod_lt_of_pos _ (by omega))
  · exfalso
    have : ns = [] := List.length_eq_zero_iff.mp (by omega)
    simp_all
  · refine floordiv_int hm0 ?_ (Or.inl (PyProof.noPylong_of_log2 hlog))
    k_steps
    dsimp only
    exact hq _ _ _ _ _ _ (keep_of G (by assumption)) (News.get (by assumption) (by k_mem)) (News.get (by assumption) (by k_mem)) ⟨_, _, _, _, _, _, rfl, rfl, by assumption, set_nonneg hpos _ (Int.fdiv_nonneg (getD_nonneg hpos _) (by omega)), by omega, by omega, by omega⟩ (Int.fmod_nonneg_of_pos _ (by omega)) (Int.fmod_lt_of_pos _ (by omega))
  · exact hq _ _ _ _ _ _ (keep_of G (by assumption)) (News.get (by assumption) (by k_mem)) (News.get (by assumption) (by k_mem)) ⟨_, _, _, _, _, _, rfl, rfl, hI, hpos, by omega, by omega, hlen⟩ (Int.fmod_nonneg_of_pos _ (by omega)) (Int.fmod_lt_of_pos _ (by omega))

theorem pour_led (X : (hd.heap_39 w.params).In b₀) (T : Top p loose mean mg mb b₀) {dp un : Nat} {fr : Option (List Env)} {gd : Option (List Code)} {s : Shared} {t c L : Addr} {m : Str → Option Value} {news : List (Addr × Obj)} {N : Nat} {many : Int} {tm : Tok} {Q E : Value → Shared → Prop}
    {ot oc : Obj} {g1 : Obj → List (Addr × Obj)} {g2 : Obj → Obj → List (Addr × Obj)} (F : Fr b₀ L s.heap m) (Nw : News b₀ L s.heap news) (Y : TrayO c ot oc N) (U1 : UpdF t ot news g1) (U2 : ∀ o, UpdF c oc (g1 o) (g2 o)) (htc : t ≠ c)
    (hd : dp + 10 < recursionLimit) (hu : un + 100 < cLine) (hN : N < 1000) (h1 : 1 ≤ many) (h2 : many ≤ 2 ^ 40)
    (hq : ∀ h' tk r tr ot' oc', Fr b₀ L h' m → News b₀ L h' (g2 ot' oc') → TrayO c ot' oc' (N + 1) → 0 ≤ r → r < many → Q (.int r tr) { s with heap := h', toks := tk }) :
    wpAny (model prog w) (ar dp un fr gd) (call (.ref 363) [.ref t, .int many tm]) Q E s := by
  obtain ⟨pre, post, e0, e1, a1, b1⟩ := U1.split
  obtain ⟨pre2, post2, e2, e3, a2, b2⟩ := (U2 ot).split
  have zt := Nw (t, ot) (by rw [e0]; simp)
  have zc := Nw (c, oc) (by rw [e0, ← e1, e2]; simp)
  refine pour_spec X T hd hu F.keep zt.2.2 zc.2.2 htc zt.1 zc.1 Y hN h1 h2 fun h' tk r tr ot' oc' K ht hc Y' r0 r1 => ?_
  refine hq h' tk r tr ot' oc' (fr_keep F K (not_two (Ne.symm zt.2.1) (Ne.symm zc.2.1)) fun a ha => ?_) (news_two Nw U1 U2 K ht hc) Y' r0 r1
  rcases List.mem_cons.mp ha with rfl | ha
  · exact zt.2.2
  · rw [List.mem_singleton.mp ha]; exact zc.2.2
end
section
local macro_rules | `(tactic| walk_at "call ref") => `(tactic| (k_here; (with_reducible show wpAny _ _ (call (Value.ref 363) [Value.ref _, Value.int _ _]) _ _ _); k_dflt (refine' pour_led ?X ?T ?F ?N ?Y ?U1 ?U2 ?ne ?hd ?hu ?hN ?h1 ?h2 ?_; (case X => k_asm); (case T => k_asm); (case F => k_asm); (case N => k_asm); (case Y => k_asm); (case U1 => k_updF); (case U2 => intro o'; k_updF); (case ne => assumption); (case hd => (dsimp only [ar, Around.deeper]; first | exact room1 (by assumption) (by decide) | exact room0 (by assumption) (by decide) | omega)); (case hu => (dsimp only [ar, Around.deeper]; first | exact room0 (by assumption) (by decide) | omega)); (case hN => first | exact row_lt0 (by assumption) (by assumption) (by assumption) | exact row_lt1 (by assumption) (by assumption) (by assumption) | omega); (case h1 => decide); (case h2 => decide)); intro h' tk' r' tr' ot' oc' F' N' Y' r0' r1'; (try k_sweep)))
section
example : True := by w_top off; trivial
variable {prog : Program} {w : World} {b₀ : Heap} {p : Program} {loose : List Str} {mean : ExcName → Option Value} {mg mb : Str → Option Value}

theorem number_spec (X : (hd.heap_39 w.params).In b₀) (T : Top p loose mean mg mb b₀) {dp un : Nat} {fr : Option (List Env)} {gd : Option (List Code)} {s : Shared} {t c : Addr} {N : Nat} {Q E : Value → Shared → Prop}
    (hd : dp + 20 < recursionLimit) (hu : un + 200 < cLine) (S : b₀.StaysIn s.heap) {ot oc : Obj} (ht0 : b₀.get? t = none) (hc0 : b₀.get? c = none) (htc : t ≠ c) (hgt : s.heap.get? t = some ot) (hgc : s.heap.get? c = some oc) (Y : TrayO c ot oc N) (hN : N < 900)
    (hq : ∀ h' tk r tr ot' oc', Keep [t, c] s.heap h' → h'.get? t = some ot' → h'.get? c = some oc' → TrayO c ot' oc' (N + 3) → Q (.int r tr) { s with heap := h', toks := tk }) :
    wpAny (model prog w) (ar dp un fr gd) (call (.ref 370) [.ref t]) Q E s := by
  refine enterP X T S (mt := [(t, ot), (c, oc)]) ?hM (by k_is) (by k_is) (by show dp < recursionLimit; omega) (BindsTo.of_eq (binds := [("tray", .ref t)]) rfl) (locs rfl) rfl rfl rfl (by decide) ?_
  case hM =>
    intro q hq
    rcases List.mem_cons.mp hq with rfl | hq
    · exact ⟨hgt, ht0⟩
    · rcases List.mem_cons.mp hq with rfl | hq
      · exact ⟨hgc, hc0⟩
      · cases hq
  replace htc := neN htc
  intro g L' h₁ tk₁ G F N K' T' hk₁ hL'
  k_steps
  all_goals exact hq _ _ _ _ _ _ (keep_of G (by assumption)) (News.get (by assumption) (by k_mem)) (News.get (by assumption) (by k_mem)) (TrayO.mono (by assumption) (by omega))

theorem number_led (X : (hd.heap_39 w.params).In b₀) (T : Top p loose mean mg mb b₀) {dp un : Nat} {fr : Option (List Env)} {gd : Option (List Code)} {s : Shared} {t c L : Addr} {m : Str → Option Value} {news : List (Addr × Obj)} {N : Nat} {Q E : Value → Shared → Prop}
    {ot oc : Obj} {g1 : Obj → List (Addr × Obj)} {g2 : Obj → Obj → List (Addr × Obj)} (F : Fr b₀ L s.heap m) (Nw : News b₀ L s.heap news) (Y : TrayO c ot oc N) (U1 : UpdF t ot news g1) (U2 : ∀ o, UpdF c oc (g1 o) (g2 o)) (htc : t ≠ c)
    (hd : dp + 20 < recursionLimit) (hu : un + 200 < cLine) (hN : N < 900)
    (hq : ∀ h' tk r tr ot' oc', Fr b₀ L h' m → News b₀ L h' (g2 ot' oc') → TrayO c ot' oc' (N + 3) → Q (.int r tr) { s with heap := h', toks := tk }) :
    wpAny (model prog w) (ar dp un fr gd) (call (.ref 370) [.ref t]) Q E s := by
  obtain ⟨pre, post, e0, e1, a1, b1⟩ := U1.split
  obtain ⟨pre2, post2, e2, e3, a2, b2⟩ := (U2 ot).split
  have zt := Nw (t, ot) (by rw [e0]; simp)
  have zc := Nw (c, oc) (by rw [e0, ← e1, e2]; simp)
  refine number_spec X T hd hu F.keep zt.2.2 zc.2.2 htc zt.1 zc.1 Y hN fun h' tk r tr ot' oc' K ht hc Y' => ?_
  refine hq h' tk r tr ot' oc' (fr_keep F K (not_two (Ne.symm zt.2.1) (Ne.symm zc.2.1)) fun a ha => ?_) (news_two Nw U1 U2 K ht hc) Y'
  rcases List.mem_cons.mp ha with rfl | ha
  · exact zt.2.2
  · rw [List.mem_singleton.mp ha]; exact zc.2.2
end
section
example : True := by w_top off; trivial
/-- behind one element of a comprehension -/
def CPost (s : Shared) (h₀ : Heap) (L : Addr) (m : Str → Option Value) (I : Addr) (oI : Obj) (C : Addr) (oC : Obj) (D : Addr) (ys : List Value) (S : List (Addr × Obj) → Prop) (Inv : List Value → List (Addr × Obj) → Prop) (y : Value) (s₂ : Shared) : Prop :=
  ∃ h' tk' news', s₂ = { s with heap := h', toks := tk' } ∧ Fr h₀ L h' m ∧ News h₀ L h' ((I, oI) :: (C, oC) :: (D, LCg.lst ys) :: news') ∧ LCg.Off3 I C D news' ∧ S news' ∧ Inv (ys ++ [y]) news'
theorem CPost.intro {s : Shared} {h₀ : Heap} {L : Addr} {m : Str → Option Value} {I : Addr} {oI : Obj} {C : Addr} {oC : Obj} {D : Addr} {ys : List Value} {S : List (Addr × Obj) → Prop} {Inv : List Value → List (Addr × Obj) → Prop} {y : Value} {h' : Heap} {tk' : Nat} {all : List (Addr × Obj)}
    (F : Fr h₀ L h' m) (N : News h₀ L h' all) (news' : List (Addr × Obj)) (sub : ∀ p ∈ (I, oI) :: (C, oC) :: (D, LCg.lst ys) :: news', p ∈ all) (off : LCg.Off3 I C D news') (hS : S news') (hI : Inv (ys ++ [y]) news') :
    CPost s h₀ L m I oI C oC D ys S Inv y { s with heap := h', toks := tk' } := ⟨h', tk', news', rfl, F, news_sub N sub, off, hS, hI⟩
section
variable {prog : Program} {w : World} {A : Around} {s : Shared} {h₀ : Heap} {L : Addr} {m : Str → Option Value} {env : Env} {elt : Expr} {x : Str} {scope : Scope} {cl : List (Str × Addr)}
  {S : List (Addr × Obj) → Prop} {P : Nat → Value → Prop} {Fin : List Value → List (Addr × Obj) → Prop} {n : Nat}
/-- a comprehension by what holds of its items and its ledger -/
theorem compRest_inv (Inv : Nat → List Value → List (Addr × Obj) → Prop)
    (step : ∀ i ys news v I oI C oC D m₂ h tk (E' : Value → Shared → Prop), i < n → Inv i ys news → P i v → LCg.NsObj oC m₂ → m₂ x = some v → Fr h₀ L h m → News h₀ L h ((I, oI) :: (C, oC) :: (D, LCg.lst ys) :: news) → LCg.Off3 I C D news → ((@Ne Nat I C) ∧ (@Ne Nat I D) ∧ (@Ne Nat C D)) →
      wpAny (model prog w) A (eval elt (compEnvC scope cl C env)) (CPost s h₀ L m I oI C oC D ys S (Inv (i + 1))) E' { s with heap := h, toks := tk })
    (fin : ∀ ys news, Inv n ys news → Fin ys news) : ∀ k i ys news, i + k = n → Inv i ys news → LCg.CompRest prog w A h₀ L m env elt x scope cl s S P Fin k i ys news := by
  intro k
  induction k with
  | zero => intro i ys news e hI; exact LCg.CompRest.zero (fin ys news (by rw [← e, Nat.add_zero]; exact hI))
  | succ k ih =>
    intro i ys news e hI
    refine LCg.CompRest.succ fun v I oI C oC D m₂ h tk E' hP hC hx F N off ne => ?_
    refine wpAny_mono (step i ys news v I oI C oC D m₂ h tk E' (by omega) hI hP hC hx F N off ne) (fun y s₂ hy => ?_) fun _ _ e => e
    obtain ⟨h', tk', news', rfl, F', N', off', hS, hI'⟩ := hy
    exact ⟨h', tk', news', rfl, F', N', off', hS, ih (i + 1) _ _ (by omega) hI'⟩
end
theorem range_sz {r : Int} (h : 0 ≤ r) : Builtin.Range.rangeSize 0 r 1 = ((r.toNat : Nat) : Int) := by rw [rangeSize_one]; split <;> omega
theorem range_sm {r : Int} (h0 : 0 ≤ r) (h : r ≤ 2 ^ 40) : Builtin.Range.small 0 r 1 = true := small_one (by decide) (by decide) (by omega) (by omega)
/-- a stop of my own -/
def Stop (P : Prop) : Prop := P
theorem Stop.in {P : Prop} (h : Stop P) : P := h

inductive All2 {α β : Type} (R : α → β → Prop) : List α → List β → Prop
  | nil : All2 R [] []
  | cons {a : α} {b : β} {l : List α} {r : List β} : R a b → All2 R l r → All2 R (a :: l) (b :: r)
theorem All2.mono {α β : Type} {R R' : α → β → Prop} {l : List α} {r : List β} (h : All2 R l r) (k : ∀ a b, R a b → R' a b) : All2 R' l r := by
  induction h with
  | nil => exact .nil
  | cons h _ ih => exact .cons (k _ _ h) ih
theorem All2.snoc {α β : Type} {R : α → β → Prop} {l : List α} {r : List β} {a : α} {b : β} (h : All2 R l r) (x : R a b) : All2 R (l ++ [a]) (r ++ [b]) := by
  induction h with
  | nil => exact .cons x .nil
  | cons h _ ih => exact .cons h ih
theorem All2.length {α β : Type} {R : α → β → Prop} {l : List α} {r : List β} (h : All2 R l r) : l.length = r.length := by
  induction h with
  | nil => rfl
  | cons _ _ ih => simp [ih]
theorem All2.get {α β : Type} {R : α → β → Prop} {l : List α} {r : List β} (h : All2 R l r) : ∀ (i : Nat) (a : α), l[i]? = some a → ∃ b, r[i]? = some b ∧ R a b := by
  induction h with
  | nil => intro i a e; simp at e
  | cons x _ ih =>
    intro i a e
    cases i with
    | zero => exact ⟨_, rfl, by simp at e; exact e ▸ x⟩
    | succ i => simpa using ih i a (by simpa using e)
theorem All2.get' {α β : Type} {R : α → β → Prop} {l : List α} {r : List β} (h : All2 R l r) : ∀ (i : Nat) (b : β), r[i]? = some b → ∃ a, l[i]? = some a ∧ R a b := by
  induction h with
  | nil => intro i a e; simp at e
  | cons x _ ih =>
    intro i a e
    cases i with
    | zero => exact ⟨_, rfl, by simp at e; exact e ▸ x⟩
    | succ i => simpa using ih i a (by simpa using e)

/-- a world: what stands where -/
abbrev Wd := Addr → Obj → Prop
def inL (l : List (Addr × Obj)) : Wd := fun a o => (a, o) ∈ l
def inH (h : Heap) : Wd := fun a o => h.get? a = some o
abbrev tupOf (vs : List Value) (n : Nat) : Obj := { cls := .type "tuple", data := .seq vs.toArray n }
/-- a pair of ints, as a tuple -/
def PairAt (M : Wd) (y : Value) (kv : Int × Int) : Prop := ∃ a tk tv n, y = .ref a ∧ M a (tupOf [.int kv.1 tk, .int kv.2 tv] n)
theorem PairAt.mono {M M' : Wd} {y : Value} {kv : Int × Int} (h : PairAt M y kv) (k : ∀ a o, M a o → M' a o) : PairAt M' y kv := by
  obtain ⟨a, tk, tv, n, e, h⟩ := h
  exact ⟨a, tk, tv, n, e, k _ _ h⟩
theorem off3_mem {I C D : Addr} {l : List (Addr × Obj)} (h : ∀ p ∈ l, p.1 ≠ I ∧ p.1 ≠ C ∧ p.1 ≠ D) : LCg.Off3 I C D l := LCg.Off3.of h

theorem allLt_ne {d : Addr} {l : List (Addr × Obj)} (h : AllLt d l) : ∀ p ∈ l, @Ne Nat p.1 d := by
  induction l with
  | nil => intro p hp; cases hp
  | cons a r ih =>
    intro p hp
    rcases List.mem_cons.mp hp with rfl | hp
    · exact Nat.ne_of_lt h.1
    · exact ih h.2 p hp
theorem allNe_cons {d : Addr} {p : Addr × Obj} {l : List (Addr × Obj)} (h : @Ne Nat p.1 d) (k : ∀ q ∈ l, @Ne Nat q.1 d) : ∀ q ∈ p :: l, @Ne Nat q.1 d := fun q hq => by
  rcases List.mem_cons.mp hq with rfl | hq
  · exact h
  · exact k q hq

end
section
example : True := by w_top off; trivial

section
variable {prog : Program} {w : World} {A : Around} {s : Shared} {h₀ : Heap} {L : Addr} {m : Str → Option Value} {env : Env} {ct : Expr} {x : Str} {px : Pos} {scope : Scope} {cl : List (Str × Addr)}
  {S : List (Addr × Obj) → Prop} {Fin : List Value → List (Addr × Obj) → Prop} {news : List (Addr × Obj)} {its : Array Value} {ns : List Int}
/-- [x for x in xs if test]: the ints for which p holds -/
theorem compRestT_filter (p : Int → Bool) (hI : IntsAre its.toList ns) (hS : S news)
    (hk : (compEnvC scope cl 0 env).scope.kind = .function) (hl : (compEnvC scope cl 0 env).kindOf x = some .local) (hd : (x == ("__debug__" : Str)) = false)
    (test : ∀ v t I oI C oC D ys m₂ h tk (Q' : Bool → Shared → Prop) (E' : Value → Shared → Prop), LCg.NsObj oC m₂ → m₂ x = some (.int v t) → Fr h₀ L h m → News h₀ L h ((I, oI) :: (C, oC) :: (D, LCg.lst ys) :: news) → (∀ tk', Q' (p v) { s with heap := h, toks := tk' }) →
      wpAny (model prog w) A (isTrue ct (compEnvC scope cl C env) (eval ct (compEnvC scope cl C env))) Q' E' { s with heap := h, toks := tk })
    (fin : ∀ ys, IntsAre ys (ns.filter p) → Fin ys news) : LCt.CompRestT prog w A h₀ L m env ct (.Name x px) x scope cl s S (fun i v => its[i]? = some v) Fin its.size 0 [] news := by
  have key : ∀ k i ys, i + k = its.size → IntsAre ys ((ns.take i).filter p) → LCt.CompRestT prog w A h₀ L m env ct (.Name x px) x scope cl s S (fun i v => its[i]? = some v) Fin k i ys news := by
    have hlen : its.size = ns.length := by have := hI.length; simpa using this
    intro k
    induction k with
    | zero =>
      intro i ys e hy
      refine LCt.CompRestT.zero (fin ys ?_)
      rw [List.take_of_length_le (by omega)] at hy
      exact hy
    | succ k ih =>
      intro i ys e hy
      refine LCt.CompRestT.succ fun v I oI C oC D m₂ h tk E' hP hC hx F N off ne => ?_
      obtain ⟨n, t, rfl, hn⟩ := hI.at i v (by rw [Array.getElem?_toList]; exact hP)
      refine test n t I oI C oC D ys m₂ h tk _ E' hC hx F N fun tk' => ?_
      have hs : (ns.take (i + 1)).filter p = (ns.take i).filter p ++ (if p n then [n] else []) := by
        rw [List.take_add_one, hn, List.filter_append]
        cases hb : p n <;> simp [hb]
      cases hp : p n with
      | false =>
        rw [if_neg (by decide)]
        refine ⟨h, tk', news, rfl, F, N, off, hS, ih (i + 1) ys (by omega) ?_⟩
        rw [hs, hp]
        simpa using hy
      | true =>
        rw [if_pos rfl]
        refine LCgL.ld_own N (by exact List.mem_cons_of_mem _ List.mem_cons_self) hC hx ?_ hk hl hd
        refine ⟨h, tk', news, rfl, F, N, off, hS, ih (i + 1) _ (by omega) ?_⟩
        rw [hs, hp]
        exact IntsAre.append hy (.cons _ _ .nil)
  exact key its.size 0 [] (Nat.zero_add _) .nil
theorem compRestT_due {b m' : Int} (hI : IntsAre its.toList ns) (hS : S news)
    (hk : (compEnvC scope cl 0 env).scope.kind = .function) (hl : (compEnvC scope cl 0 env).kindOf x = some .local) (hd : (x == ("__debug__" : Str)) = false)
    (test : ∀ v t I oI C oC D ys m₂ h tk (Q' : Bool → Shared → Prop) (E' : Value → Shared → Prop), LCg.NsObj oC m₂ → m₂ x = some (.int v t) → Fr h₀ L h m → News h₀ L h ((I, oI) :: (C, oC) :: (D, LCg.lst ys) :: news) → (∀ tk', Q' (decide (v < b) || decide (m' < v)) { s with heap := h, toks := tk' }) →
      wpAny (model prog w) A (isTrue ct (compEnvC scope cl C env) (eval ct (compEnvC scope cl C env))) Q' E' { s with heap := h, toks := tk })
    (fin : ∀ ys, IntsAre ys (ns.filter fun v => decide (v < b) || decide (m' < v)) → Fin ys news) : LCt.CompRestT prog w A h₀ L m env ct (.Name x px) x scope cl s S (fun i v => its[i]? = some v) Fin its.size 0 [] news :=
  compRestT_filter (fun v => decide (v < b) || decide (m' < v)) hI hS hk hl hd test fin
end
end
section
example : True := by w_top off; trivial
theorem keys_list_none : typeLookup (.type "list") (Str.ofString "keys") = pure none := am_miss_of_fast (by decide +kernel)

theorem getAttrQ_miss_list {prog : Program} {w : World} {A : Around} {E : Value → Shared → Prop} {s : Shared} {a : Addr} {o : Obj} {xs : Array Value} {k : Nat} {name : Str} {Q : Option Value → Shared → Prop}
    (hx : s.heap.get? a = some o) (hc : o.cls = .type "list") (hdat : o.data = .seq xs k) (hd : o.dict = none) (hmiss : typeLookup (.type "list") name = pure none) (hname : (["__module__", "__name__", "__qualname__", "__doc__", "__annotations__"] : List Str).contains name = false) (hA : A.handled = none)
    (h : ∀ h' tk, (∀ b o, s.heap.get? b = some o → h'.get? b = some o) → Q none { s with heap := h', toks := tk }) (hsz : name.length + 100 ≤ sizeLine := by size_fits) :
    wpAny (model prog w) A (getAttr? (.ref a) name) Q E s := by
  obtain ⟨c, dct, dat, sl⟩ := o
  simp only at hc hdat hd
  subst hc hdat hd
  obtain ⟨hp, g, d, tk, os⟩ := s
  have hT : ∀ tk', (⟨hp, g, d, tk', os⟩ : Shared).TypeIs (.ref a) "list" := fun _ => ⟨_, hx, rfl⟩
  have f1 := sub_AttributeError
  have f3 := F.slot_list_getattribute.lookup
  have f4 := F.slot_list_getattribute.bind (.ref a)
  have f5 := am_list_getattr_none
  unfold getAttr? getAttrBy? getAttrBy
  repeat (any_goals (first | assumption | exact hT _ | ((with_reducible show wpAny _ _ (call (Value.builtin "list.__getattribute__") _ _) _ _ _); refine call_meets F.slot_list_getattribute (hT _) am_entry_list_getattribute (F.args_list_getattribute_2 _ _) (meets_getattribute_miss_list a xs k sl name _ hmiss hname hsz) ⟨hx, hA, fun h' tk' e hx' => ?_⟩) | wp_step))
  obtain ⟨t', u', he⟩ := hx'.there
  show wpAny _ _ (getattributeRaised _ _ _ _ _ _ _) _ _ _
  unfold getattributeRaised
  repeat (any_goals (first | assumption | wp_step))
  exact h _ _ hx'.keeps

end
section
example : True := by w_top off; trivial
def PairV (M : Wd) (y : Value) (kv : Int × Value) : Prop := ∃ a tk n, y = .ref a ∧ M a (tupOf [.int kv.1 tk, kv.2] n)
theorem PairV.mono {M M' : Wd} {y : Value} {kv : Int × Value} (h : PairV M y kv) (k : ∀ a o, M a o → M' a o) : PairV M' y kv := by
  obtain ⟨a, tk, n, e, h⟩ := h
  exact ⟨a, tk, n, e, k _ _ h⟩
theorem entry_dict_loop : entryFor table "dict.update.loop" = some Builtin.«dict.update.loop» := entryFor_of_tree (by kernel_rfl)
theorem sub_tuple_any : True := trivial

section
variable {prog : Program} {w : World} {A : Around} {E : Value → Shared → Prop}
theorem pairItems_tuple {s : Shared} {a : Addr} {l : List Value} {n : Nat} {Q : List Value → Shared → Prop} (ha : s.heap.get? a = some (tupOf l n)) (h : Q l s) :
    wpAny (model prog w) A (Builtin.Dict.pairItems (.ref a)) Q E s := by
  unfold Builtin.Dict.pairItems
  refine wpAny_bind (wpAny_typeOf (show s.TypeIs (.ref a) "tuple" from ⟨_, ha, rfl⟩) ?_)
  show wpAny _ _ (if (Value.type "tuple" == .type "list" || Value.type "tuple" == .type "tuple") = true then _ else _) _ _ _
  rw [if_pos (by decide)]
  refine wpAny_bind (wpAny_seqItems ha rfl (wpAny_pure ?_))
  exact h

theorem dict_loop {it D d : Addr} {ys : List Value} {kvs : List (Int × Value)} {R : Result → Shared → Prop} (hh : A.handled = none) (hDI : D ≠ it) (hdI : d ≠ it) (hdD : d ≠ D) {M : Wd} (hp : All2 (PairV M) ys kvs) (hM : ∀ a o, M a o → a ≠ d ∧ a ≠ it) (hsz : ys.length ≤ 1000) :
    ∀ (k i : Nat) (s : Shared) (acc : List (Int × Value)), i + k = ys.length → (s.heap.IsListIter it D i ∧ s.heap.IsList D ys.toArray) → s.heap.DictOf (intKind prog w) d acc → acc = merged [] (kvs.take i) → (∀ a o, M a o → s.heap.get? a = some o) →
      (∀ h' tk, (∀ b o, b ≠ d → b ≠ it → s.heap.get? b = some o → h'.get? b = some o) → h'.DictOf (intKind prog w) d (merged [] kvs) → R (.ok (.ret .none)) { s with heap := h', toks := tk }) →
      codeAny (model prog w) A (.builtin "dict.update.loop" ⟨[.ref d, .ref it, .int i 0, .none], []⟩) R s := by
  have W := Walks.list (prog := prog) (w := w) (A := A.under (.builtin "dict.update.loop" ⟨[.ref d, .ref it, .int 0 0, .none], []⟩)) hh it D hDI ys.toArray
  have hlen := hp.length
  intro k
  induction k with
  | zero =>
    intro i s acc hi hst hd hacc hm hR
    have hi' : i = ys.toArray.size := by simpa using hi
    refine codeAny_builtin entry_dict_loop ?_
    unfold Builtin.«dict.update.loop»
    refine wpAny_bind (W.done s _ _ (hi' ▸ hst) fun h' tk hk => ?_)
    refine wpAny_bind (m := Builtin.Dict.addKeywords d []) (wpAny_pure (wpAny_pure ?_))
    have e : kvs.take i = kvs := by rw [List.take_of_length_le]; omega
    rw [e] at hacc
    subst hacc
    refine hR h' tk (fun b o hb1 hb2 e => hk b o (by simpa using hb2) e) ?_
    obtain ⟨o, es, ep, ho, r⟩ := hd
    exact ⟨o, es, ep, hk d o (by simpa using hdI) ho, r⟩
  | succ k ih =>
    intro i s acc hi hst hd hacc hm hR
    have hi' : i < ys.toArray.size := by simp; omega
    refine codeAny_builtin entry_dict_loop ?_
    unfold Builtin.«dict.update.loop»
    refine wpAny_bind (W.item i s _ _ hi' hst fun v h₁ tk₁ hv hst₁ hk => ?_)
    have hv' : ys[i]? = some v := by simpa using hv
    obtain ⟨kv, hkv, a, ta, na, rfl, hMa⟩ := hp.get i v hv'
    have ha : h₁.get? a = some (tupOf [.int kv.1 ta, kv.2] na) := hk a _ (by simpa using (hM _ _ hMa).2) (hm _ _ hMa)
    dsimp only
    refine wpAny_bind (wpAny_holding (wpAny_bind ?_))
    refine wpAny_tryCatch (m := Builtin.Dict.pairItems (.ref a)) ?_
    refine pairItems_tuple (s := { s with heap := h₁, toks := tk₁ }) ha ?_
    dsimp only
    refine wpAny_holding ?_
    unfold dictSet
    refine wpAny_holding (wpAny_bind (wpAny_pyHash_int ?_))
    have hd₁ : h₁.DictOf (intKind prog w) d acc := by
      obtain ⟨o, es, ep, ho, r⟩ := hd
      exact ⟨o, es, ep, hk d o (by simpa using hdI) ho, r⟩
    refine wpAny_dictSetHashed_pairs (knd := intKind prog w) (k := kv.1) (by simp [intKind, Value.isInt]) hd₁ (fun h₂ hd₂ hs₂ => ?_) ?_
    · refine wpAny_pure ⟨Code.quiet_builtin _ (by decide +kernel), ?_⟩
      have e2 : stored acc kv.1 kv.2 = merged [] (kvs.take (i + 1)) := by rw [hacc]; exact (merged_take_succ [] kvs i kv hkv).symm
      have old : ∀ b o, b ≠ d → b ≠ it → s.heap.get? b = some o → h₂.get? b = some o := fun b o hb1 hb2 e => (hs₂.2 b hb1).trans (hk b o (by simpa using hb2) e)
      have hst₂ : (h₂.IsListIter it D (i + 1) ∧ h₂.IsList D ys.toArray) := W.frame _ _ _ hst₁ fun b hb o e => (hs₂.2 b (by
        simp only [List.mem_cons, List.not_mem_nil, or_false] at hb
        rcases hb with rfl | rfl
        · exact Ne.symm hdI
        · exact Ne.symm hdD)).trans e
      refine ih (i + 1) _ _ (by omega) hst₂ hd₂ e2 (fun a o m => old a o (hM _ _ m).1 (hM _ _ m).2 (hm _ _ m)) fun h' tk hk' hd' => ?_
      exact hR h' tk (fun b o hb1 hb2 e => hk' b o hb1 hb2 (old b o hb1 hb2 e)) hd'
    · rw [hacc]
      have e1 := merged_length_le ([] : List (Int × Value)) (kvs.take i)
      have e2 : (kvs.take i).length ≤ kvs.length := List.length_take_le' ..
      simp only [List.length_nil] at e1
      rw [sizeLine_eq]
      omega

theorem call_dict_pairs {s : Shared} {D : Addr} {ys : List Value} {nD : Nat} {kvs : List (Int × Value)} {Q : Value → Shared → Prop} (hh : A.handled = none)
    (hD : s.heap.get? D = some (listOf ys.toArray nD)) (hp : All2 (PairV (inH s.heap)) ys kvs) (hsz : ys.length ≤ 1000)
    (h : ∀ r h' tk, r = s.heap.objs.size → (∀ b o, s.heap.get? b = some o → h'.get? b = some o) → s.heap.get? r = none → h'.DictOf (intKind prog w) r (merged [] kvs) → Q (.ref r) { s with heap := h', toks := tk }) :
    wpAny (model prog w) A (call (.type "dict") [.ref D]) Q E s := by
  refine callType_codes (Q₁ := fun obj s₁ => obj = .ref s.heap.objs.size ∧ s₁ = { s with heap := s.heap.push { cls := .type "dict", data := .dict #[] } }) F.kt_called_dict (F.kt_typeCall_dict_1 _) F.entry_dict_init (kt_code_dict_new _ ⟨rfl, rfl⟩) ?_
  rintro obj s₁ ⟨rfl, rfl⟩
  have hnew : (s.heap.push { cls := .type "dict", data := .dict #[] }).DictOf (intKind prog w) s.heap.objs.size [] := Heap.DictOf.new s.heap
  have hD' : (s.heap.push { cls := .type "dict", data := .dict #[] }).get? D = some (listOf ys.toArray nD) := Heap.get?_push_of_some _ hD
  refine ⟨hnew.typeIs, F.args_dict_init_2 _ _, ?_⟩
  unfold Builtin.«dict.__init__»
  refine wpAny_bind ?_
  unfold Builtin.Dict.selfAndRest
  refine wpAny_bind (wpAny_notOrdered_dict hnew.typeIs ?_)
  show wpAny _ _ (pure (s.heap.objs.size, [Value.ref D])) _ _ _
  refine wpAny_pure ?_
  show wpAny _ _ (Builtin.Dict.updateFrom "dict.__init__" s.heap.objs.size (.ref D) [] .none) _ _ _
  unfold Builtin.Dict.updateFrom
  refine wpAny_bind (wpAny_typeOf (show Shared.TypeIs { s with heap := s.heap.push { cls := .type "dict", data := .dict #[] } } (.ref D) "list" from ⟨_, hD', rfl⟩) ?_)
  rw [if_pos (by decide)]
  refine wpAny_bind (getAttrQ_miss_list hD' rfl rfl rfl keys_list_none (by decide) hh (fun h₁ tk₁ k₁ => ?_) (by rw [sizeLine_eq]; decide))
  simp only [Option.isNone_none, if_true]
  refine wpAny_bind (wpAny_rule (wpAny_bind ?_))
  have hD₁ := k₁ _ _ hD'
  refine wpAny_pyIter_list (PySem.IsL.isList (n := nD) hD₁) ?_
  have k₂ : ∀ b o, s.heap.get? b = some o → (h₁.push { cls := .type "list_iterator", data := .fields #[.ref D, .int 0 0] }).get? b = some o := fun b o e => Heap.get?_push_of_some _ (k₁ _ _ (Heap.get?_push_of_some _ e))
  have hlt : s.heap.objs.size < h₁.objs.size := by
    have := k₁ s.heap.objs.size _ (Heap.get?_push_size _ rfl)
    exact Heap.lt_size this
  have hDlt : D < s.heap.objs.size := Heap.lt_size hD
  have hfr : s.heap.get? s.heap.objs.size = none := Heap.get?_none_of_le (Nat.le_refl _)
  refine wpAny_pure ⟨Code.quiet_builtin _ (by decide +kernel), ?_⟩
  refine dict_loop (A := A.in1) (ys := ys) (kvs := kvs) (M := inH s.heap) (show A.in1.handled = none from hh) (Nat.ne_of_lt (Nat.lt_trans hDlt hlt)) (Nat.ne_of_lt hlt) (Nat.ne_of_gt hDlt) hp (fun a o m => ⟨Nat.ne_of_lt (Heap.lt_size m), Nat.ne_of_lt (Nat.lt_trans (Heap.lt_size m) hlt)⟩) hsz ys.length 0 _ [] (Nat.zero_add _)
    ?_ ?_ (by simp [merged]) ?_ fun h' tk hk hd => ?_
  · exact ⟨⟨_, Heap.get?_push_size _ rfl, rfl, rfl⟩, PySem.IsL.isList (n := nD) (Heap.get?_push_of_some _ hD₁)⟩
  · obtain ⟨o, es, ep, ho, r⟩ := hnew
    exact ⟨o, es, ep, Heap.get?_push_of_some _ (k₁ _ _ ho), r⟩
  · exact k₂
  · refine ⟨rfl, h _ _ _ rfl (fun b o e => hk b o ?_ ?_ (k₂ b o e)) hfr hd⟩
    · exact Nat.ne_of_lt (Heap.lt_size e)
    · exact Nat.ne_of_lt (Nat.lt_trans (Heap.lt_size e) hlt)
end

/-- a row: a dict from ints to ints -/
def ValR (kv : Int × Value) (q : Int × Int) : Prop := kv.1 = q.1 ∧ ∃ t, kv.2 = .int q.2 t
def RowO (prog : Program) (w : World) (o : Obj) (r : List (Int × Int)) : Prop := ∃ kvs, o.IsDictOf (intKind prog w) kvs ∧ All2 ValR kvs r
def RowI (r : List (Int × Int)) : Prop := (r.map (·.1)).Nodup ∧ (∀ q ∈ r, 0 ≤ q.1 ∧ q.1 < 5) ∧ r.length ≤ 3

theorem All2.keys {l : List (Int × Value)} {r : List (Int × Int)} (h : All2 ValR l r) : l.map (·.1) = r.map (·.1) := by
  induction h with
  | nil => rfl
  | cons x _ ih => simp [ih, x.1]
theorem ints_of {l : List (Int × Value)} (h : ∀ kv ∈ l, ∃ i t, kv.2 = .int i t) : ∃ r, All2 ValR l r := by
  induction l with
  | nil => exact ⟨[], .nil⟩
  | cons a l ih =>
    obtain ⟨r, hr⟩ := ih fun kv m => h kv (List.mem_cons_of_mem _ m)
    obtain ⟨i, t, e⟩ := h a List.mem_cons_self
    exact ⟨(a.1, i) :: r, .cons ⟨rfl, t, e⟩ hr⟩
theorem stored_mem {l : List (Int × Value)} {k : Int} {v : Value} {kv : Int × Value} (h : kv ∈ stored l k v) : (kv.1 = k ∨ ∃ a ∈ l, a.1 = kv.1) ∧ (kv.2 = v ∨ ∃ a ∈ l, a.2 = kv.2) := by
  unfold stored at h
  split at h
  · obtain ⟨a, ha, rfl⟩ := List.mem_map.mp h
    by_cases e : a.1 = k
    · rw [if_pos e]; exact ⟨.inl e, .inl rfl⟩
    · rw [if_neg e]; exact ⟨.inr ⟨a, ha, rfl⟩, .inr ⟨a, ha, rfl⟩⟩
  · rcases List.mem_append.mp h with h | h
    · exact ⟨.inr ⟨kv, h, rfl⟩, .inr ⟨kv, h, rfl⟩⟩
    · rw [List.mem_singleton.mp h]; exact ⟨.inl rfl, .inl rfl⟩
theorem merged_mem (P : Int → Prop) (V : Value → Prop) : ∀ (l acc : List (Int × Value)), (∀ a ∈ acc, P a.1 ∧ V a.2) → (∀ a ∈ l, P a.1 ∧ V a.2) → ∀ kv ∈ merged acc l, P kv.1 ∧ V kv.2 := by
  intro l
  induction l with
  | nil => intro acc h _ kv hk; exact h kv hk
  | cons x l ih =>
    intro acc h1 h2 kv hk
    refine ih (stored acc x.1 x.2) (fun a ha => ?_) (fun a ha => h2 a (List.mem_cons_of_mem _ ha)) kv hk
    obtain ⟨p, q⟩ := stored_mem ha
    have hx := h2 x List.mem_cons_self
    refine ⟨?_, ?_⟩
    · rcases p with p | ⟨b, hb, e⟩
      · exact p ▸ hx.1
      · exact e ▸ (h1 b hb).1
    · rcases q with p | ⟨b, hb, e⟩
      · exact p ▸ hx.2
      · exact e ▸ (h1 b hb).2
theorem pairV_of {M : Wd} {ys : List Value} {kvs : List (Int × Int)} (h : All2 (PairAt M) ys kvs) : ∃ l, All2 (PairV M) ys l ∧ All2 ValR l kvs := by
  induction h with
  | nil => exact ⟨[], .nil, .nil⟩
  | @cons y kv _ _ x _ ih =>
    obtain ⟨l, h1, h2⟩ := ih
    obtain ⟨a, tk, tv, n, e, m⟩ := x
    exact ⟨(kv.1, .int kv.2 tv) :: l, .cons ⟨a, tk, n, e, m⟩ h1, .cons ⟨rfl, tv, rfl⟩ h2⟩
theorem keep_fresh {X : List Addr} {h h' : Heap} {r : Addr} (K : Keep X h h') (hX : ∀ a ∈ X, h'.get? a ≠ none) (e : h'.get? r = none) : h.get? r = none := by
  cases q : h.get? r with
  | none => rfl
  | some o =>
    by_cases m : r ∈ X
    · exact absurd e (hX r m)
    · rw [K r o q m] at e; cases e
theorem row_of_merged {prog : Program} {w : World} {o : Obj} {l : List (Int × Value)} {kvs : List (Int × Int)} (hd : o.IsDictOf (intKind prog w) (merged [] l)) (hv : All2 ValR l kvs) (hk : ∀ kv ∈ kvs, 0 ≤ kv.1 ∧ kv.1 < 5) (hl : kvs.length ≤ 3) :
    ∃ r, RowO prog w o r ∧ RowI r := by
  have hm := merged_mem (fun k => 0 ≤ k ∧ k < 5) (fun v => ∃ i t, v = .int i t) l [] (by simp) (fun a ha => by
    obtain ⟨i, hi⟩ := List.mem_iff_getElem?.mp ha
    obtain ⟨b, hb, e, t, e'⟩ := hv.get i a hi
    exact ⟨e ▸ hk b (List.mem_of_getElem? hb), _, t, e'⟩)
  obtain ⟨r, hr⟩ := ints_of (l := merged [] l) fun kv m => (hm kv m).2
  refine ⟨r, ⟨_, hd, hr⟩, ?_, fun q hq => ?_, ?_⟩
  · rw [← hr.keys]
    obtain ⟨_, _, _, _, _, _, hn⟩ := hd
    exact hn
  · obtain ⟨i, hi⟩ := List.mem_iff_getElem?.mp hq
    obtain ⟨b, hb, e, _⟩ := hr.get' i q hi
    exact e ▸ (hm b (List.mem_of_getElem? hb)).1
  · have e1 := merged_length_le ([] : List (Int × Value)) l
    have e2 := hr.length
    have e3 := hv.length
    simp only [List.length_nil] at e1
    omega
end
section
example : True := by w_top off; trivial
variable {prog : Program} {w : World} {b₀ : Heap} {p : Program} {loose : List Str} {mean : ExcName → Option Value} {mg mb : Str → Option Value}
local macro_rules | `(tactic| walk_at "call ref") => `(tactic| (k_here; (with_reducible show wpAny _ _ (call (Value.ref 370) [Value.ref _]) _ _ _); k_dflt (refine' number_led ?X ?T ?F ?N ?Y ?U1 ?U2 ?ne ?hd ?hu ?hN ?_; (case X => k_asm); (case T => k_asm); (case F => k_asm); (case N => k_asm); (case Y => k_asm); (case U1 => k_updF); (case U2 => intro o'; k_updF); (case ne => assumption); (case hd => (dsimp only [ar, Around.deeper]; first | exact room1 (by assumption) (by decide) | exact room0 (by assumption) (by decide) | omega)); (case hu => (dsimp only [ar, Around.deeper]; first | exact room0 (by assumption) (by decide) | omega)); (case hN => first | exact row_lt0 (by assumption) (by assumption) (by assumption) | exact row_lt1 (by assumption) (by assumption) (by assumption) | omega)); intro h' tk' r' tr' ot' oc' F' N' Y'; (try k_sweep)))

local macro_rules | `(tactic| walk_at "CompSrc") => `(tactic| refine Stop.in ?_)
theorem row_spec (X : (hd.heap_39 w.params).In b₀) (T : Top p loose mean mg mb b₀) {dp un : Nat} {fr : Option (List Env)} {gd : Option (List Code)} {s : Shared} {t c : Addr} {N : Nat} {Q E : Value → Shared → Prop}
    (hd : dp + 30 < recursionLimit) (hu : un + 300 < cLine) (S : b₀.StaysIn s.heap) {ot oc : Obj} (ht0 : b₀.get? t = none) (hc0 : b₀.get? c = none) (htc : t ≠ c) (hgt : s.heap.get? t = some ot) (hgc : s.heap.get? c = some oc) (Y : TrayO c ot oc N) (hN : N < 800)
    (hq : ∀ h' tk a o r ot' oc', Keep [t, c] s.heap h' → h'.get? t = some ot' → h'.get? c = some oc' → TrayO c ot' oc' (N + 13) → h'.get? a = some o → s.heap.get? a = none → (a == sysModules) = false → RowO prog w o r → RowI r → Q (.ref a) { s with heap := h', toks := tk }) :
    wpAny (model prog w) (ar dp un fr gd) (call (.ref 380) [.ref t]) Q E s := by
  refine enterC X T S (mt := [(t, ot), (c, oc)]) ?hM (by k_is) (by k_is) (by show dp < recursionLimit; omega) (BindsTo.of_eq (binds := [("tray", .ref t)]) rfl) (by rfl) (by decide +kernel) rfl rfl rfl ?_
  case hM =>
    intro q hq
    rcases List.mem_cons.mp hq with rfl | hq
    · exact ⟨hgt, ht0⟩
    · rcases List.mem_cons.mp hq with rfl | hq
      · exact ⟨hgc, hc0⟩
      · cases hq
  replace htc := neN htc
  intro g L' h₁ tk₁ cells G F N Yc K' T' hk₁ hL' hcl l1
  k_lt l1
  k_cells Yc
  try simp only [List.cons_append, List.nil_append] at N
  k_steps
  unfold Stop
  rename (_ : Int) < 4 => hr4
  rename 0 ≤ (_ : Int) => hr0
  rename TrayO _ _ _ _ => Y1
  refine LCg.CompSrc.range (news := [(t, _), (c, _), (L' + 1, _)]) (by rfl) (by k_asm) (news_sub (by assumption) (by lcg_sub)) (by assumption) (range_sm hr0 (by omega)) (range_sz hr0) (by rw [sizeLine_eq]; omega) ?_
  intro gh
  refine compRest_inv (Inv := fun i ys news => ∃ ot oc new kvs, news = (t, ot) :: (c, oc) :: (L' + 1, _) :: new ∧ TrayO c ot oc (N + 1 + 4 * i) ∧ ys.length = i ∧ All2 (PairAt (inL new)) ys kvs ∧ (∀ kv ∈ kvs, 0 ≤ kv.1 ∧ kv.1 < 5) ∧ (∀ p ∈ new, @Ne Nat p.1 t) ∧ (∀ p ∈ new, @Ne Nat p.1 c) ∧ (∀ p ∈ new, @Ne Nat p.1 (L' + 1))) ?step ?fin _ 0 [] _ (Nat.zero_add _) ⟨_, _, [], [], rfl, Y1, rfl, .nil, by simp, by simp, by simp, by simp⟩
  case step =>
    rintro i ys news v I oI C oC D m₂ h tk E' hi ⟨ot2, oc2, new, kvs, rfl, Y2, hyl, hA, hkv, n1, n2, n3⟩ ⟨tv, rfl⟩ hC hx F2 N2 off ne
    obtain ⟨ne1, ne2, ne3⟩ := ne
    simp only [LCg.Off3] at off
    obtain ⟨⟨off1, off11, off12⟩, ⟨off2, off21, off22⟩, ⟨off3, off31, off32⟩, off4⟩ := off
    k_steps
    rename TrayO c _ _ (N + 1 + 4 * i + 1 + 3) => Y5
    rename (_ : Int) < 5 => hr5
    rename 0 ≤ (_ : Int) => hr6
    refine CPost.intro (by k_asm) (by assumption) ((t, _) :: (c, _) :: (L' + 1, _) :: (_, _) :: new) (by lcg_sub) (by lcg_off) trivial ⟨_, _, (_, _) :: new, kvs ++ [(_, _)], rfl, Y5, by simp [hyl], (hA.mono fun _ _ q => q.mono fun _ _ z => List.mem_cons_of_mem _ z).snoc ⟨_, _, _, _, rfl, List.mem_cons_self⟩, ?_, allNe_cons (by k_ne) n1, allNe_cons (by k_ne) n2, allNe_cons (by k_ne) n3⟩
    intro kv hk
    rcases List.mem_append.mp hk with hk | hk
    · exact hkv kv hk
    · obtain rfl := List.mem_singleton.mp hk
      exact ⟨hr6, hr5⟩
  intro ys news hI
  obtain ⟨ot2, oc2, new, kvs, rfl, Y2, hyl, hA, hkv, n1, n2, n3⟩ := hI
  k_steps
  rename News _ _ _ (_ :: _ :: _ :: _ :: new) => N9
  obtain ⟨l, hl1, hl2⟩ := pairV_of hA
  have hlen := hl1.length
  have hlen2 := hl2.length
  refine call_dict_pairs rfl (N9.get (by k_mem)) (hl1.mono fun _ _ q => q.mono fun a o m => (N9 (a, o) (by exact List.mem_cons_of_mem _ (List.mem_cons_of_mem _ (List.mem_cons_of_mem _ (List.mem_cons_of_mem _ m))))).1) (row_le1 hyl hr4) ?_
  intro r h9 tk9 er9 k9 f9 d9
  have lo9 : (r == sysModules) = false := by
    rw [er9]
    exact Fr.notModules (h₀ := g) (L := L') (by assumption) (modules_low T'.nolimit)
  obtain ⟨o9, ho9, hd9⟩ := Heap.dictOf_iff.mp d9
  obtain ⟨rw, hR, hRI⟩ := row_of_merged hd9 hl2 hkv (row_le2 hyl hr4 hlen hlen2)
  have K9 := keep_of G (by assumption)
  have ht9 := N9.get (show (t, ot2) ∈ _ by k_mem)
  have hc9 := N9.get (show (c, oc2) ∈ _ by k_mem)
  refine hq _ _ r o9 rw ot2 oc2 (fun b o e n => k9 b o (K9 b o e n)) (k9 _ _ ht9) (k9 _ _ hc9) (Y2.mono (row_le3 hr4)) ho9 (keep_fresh K9 (fun a ha => ?_) f9) lo9 hR hRI
  rcases List.mem_cons.mp ha with rfl | ha
  · rw [ht9]; simp
  · rw [List.mem_singleton.mp ha, hc9]; simp
end
end
section
example : True := by w_top off; trivial
variable {prog : Program} {w : World} {b₀ : Heap} {p : Program} {loose : List Str} {mean : ExcName → Option Value} {mg mb : Str → Option Value}

def kindOf (ns : List Int) : Str × Int :=
  if ns.all (fun x => decide (-127 ≤ x) && decide (x ≤ 127)) then (Str.ofString "int8", 1)
  else if ns.all (fun x => decide (0 ≤ x) && decide (x ≤ 255)) then (Str.ofString "uint8", 1)
  else if ns.all (fun x => decide (-32767 ≤ x) && decide (x ≤ 32767)) then (Str.ofString "int16", 2)
  else if ns.all (fun x => decide (0 ≤ x) && decide (x ≤ 65535)) then (Str.ofString "uint16", 2)
  else (Str.ofString "int32", 4)
def kindB (lo hi : Int) : Str × Int :=
  if -127 ≤ lo ∧ hi ≤ 127 then (Str.ofString "int8", 1)
  else if 0 ≤ lo ∧ hi ≤ 255 then (Str.ofString "uint8", 1)
  else if -32767 ≤ lo ∧ hi ≤ 32767 then (Str.ofString "int16", 2)
  else if 0 ≤ lo ∧ hi ≤ 65535 then (Str.ofString "uint16", 2)
  else (Str.ofString "int32", 4)
theorem all_of_bounds {ns : List Int} {lo hi : Int} (h2 : ∀ a ∈ ns ++ [0], lo ≤ a) (h4 : ∀ a ∈ ns ++ [0], a ≤ hi) (h1 : lo ∈ ns ++ [0]) (h3 : hi ∈ ns ++ [0]) (a b : Int) (ha : a ≤ 0) (hb : 0 ≤ b) :
    (ns.all (fun x => decide (a ≤ x) && decide (x ≤ b)) = true) = (a ≤ lo ∧ hi ≤ b) := by
  apply propext
  constructor
  · intro h
    have h' : ∀ x ∈ ns ++ [0], a ≤ x ∧ x ≤ b := fun x hx => by
      rcases List.mem_append.mp hx with hx | hx
      · have := List.all_eq_true.mp h x hx
        simpa using this
      · rw [List.mem_singleton.mp hx]; exact ⟨ha, hb⟩
    exact ⟨(h' lo h1).1, (h' hi h3).2⟩
  · rintro ⟨p, q⟩
    refine List.all_eq_true.mpr fun x hx => ?_
    have m : x ∈ ns ++ [0] := List.mem_append_left _ hx
    have := h2 x m
    have := h4 x m
    simp only [Bool.and_eq_true, decide_eq_true_eq]
    omega
theorem kind_of_bounds {ns : List Int} {lo hi : Int} (h2 : ∀ a ∈ ns ++ [0], lo ≤ a) (h4 : ∀ a ∈ ns ++ [0], a ≤ hi) (h1 : lo ∈ ns ++ [0]) (h3 : hi ∈ ns ++ [0]) : kindOf ns = kindB lo hi := by
  unfold kindOf kindB
  have k := all_of_bounds h2 h4 h1 h3
  simp only [k (-127) 127 (by decide) (by decide), k 0 255 (by decide) (by decide), k (-32767) 32767 (by decide) (by decide), k 0 65535 (by decide) (by decide)]
/-- a tuple of a text and an int -/
def TupSI (M : Wd) (a : Addr) (k : Str × Int) : Prop := ∃ t t' n, M a (tupOf [.str k.1 t, .int k.2 t'] n)
theorem TupSI.of {M : Wd} {a : Addr} {k : Str × Int} {x : Str} {i : Int} {t t' n : Nat} (e : k = (x, i)) (m : M a (tupOf [.str x t, .int i t'] n)) : TupSI M a k := ⟨t, t', n, by rw [e]; exact m⟩

theorem kind_spec (X : (hd.heap_39 w.params).In b₀) (T : Top p loose mean mg mb b₀) {dp un : Nat} {fr : Option (List Env)} {gd : Option (List Code)} {s : Shared} {l : Addr} {vs : List Value} {ns : List Int} {Q E : Value → Shared → Prop}
    (hd : dp + 10 < recursionLimit) (hu : un + 100 < cLine) (S : b₀.StaysIn s.heap) (hl : s.heap.IsList l vs.toArray) (hI : IntsAre vs ns) (hlen : ns.length ≤ 1000)
    (hq : ∀ h' tk a, Keep [] s.heap h' → s.heap.get? a = none → TupSI (inH h') a (kindOf ns) → Q (.ref a) { s with heap := h', toks := tk }) :
    wpAny (model prog w) (ar dp un fr gd) (call (.ref 338) [.ref l]) Q E s := by
  refine enterP X T S (mt := []) (fun _ h => nomatch h) (by k_is) (by k_is) (by show dp < recursionLimit; omega) (BindsTo.of_eq (binds := [("numbers", .ref l)]) rfl) (locs rfl) rfl rfl rfl (by decide) ?_
  intro g L' h₁ tk₁ G F N K' T' hk₁ hL'
  have hlg : g.IsList l vs.toArray := by obtain ⟨o, ho, r⟩ := hl; exact ⟨o, G.of _ _ ho (fun h => nomatch h), r⟩
  k_steps
  all_goals
    have e9 := kind_of_bounds (ns := ns) (by assumption) (by assumption) (by assumption) (by assumption)
    refine hq _ _ _ (keep_of G (by assumption)) (G.fresh (News.fresh (by assumption) List.mem_cons_self) (fun h => nomatch h)) (TupSI.of (e9.trans ?_) (News.get (by assumption) List.mem_cons_self))
    unfold kindB
    (repeat' split) <;> first | rfl | (exfalso; omega)
end
section
example : True := by w_top off; trivial
variable {prog : Program} {w : World} {b₀ : Heap} {p : Program} {loose : List Str} {mean : ExcName → Option Value} {mg mb : Str → Option Value}

abbrev dueF (ns : List Int) (B M : Int) : Bool := decide (ns.filter (fun v => decide (v < B) || decide (M < v)) = [])
theorem dueF_all {ns : List Int} {B M : Int} (a b : Int) (hB : B = a) (hM : M = b) : dueF ns B M = ns.all (fun x => decide (a ≤ x) && decide (x ≤ b)) := by
  subst hB hM
  rw [Bool.eq_iff_iff]
  simp only [dueF, decide_eq_true_eq, List.filter_eq_nil_iff, List.all_eq_true, Bool.or_eq_true, Bool.and_eq_true, not_or, Int.not_lt]
section
variable {ns : List Int}
theorem due_k1 (h : dueF ns (0 - (2 ^ Int.toNat (8 * 1 - 1) - 1)) (2 ^ Int.toNat (8 * 1 - 1) - 1) = true) : kindOf ns = (Str.ofString "int8", 1) := by
  rw [dueF_all (-127) 127 (by decide) (by decide)] at h
  unfold kindOf; rw [if_pos h]
theorem due_k2 (h : dueF ns (0 - (2 ^ Int.toNat (8 * 1 - 1) - 1)) (2 ^ Int.toNat (8 * 1 - 1) - 1) = false) (h2 : dueF ns 0 (2 ^ Int.toNat (8 * 1) - 1) = true) : kindOf ns = (Str.ofString "uint8", 1) := by
  rw [dueF_all (-127) 127 (by decide) (by decide)] at h
  rw [dueF_all 0 255 (by decide) (by decide)] at h2
  unfold kindOf; rw [if_neg (by simp [h]), if_pos h2]
theorem due_k3 (h : dueF ns (0 - (2 ^ Int.toNat (8 * 1 - 1) - 1)) (2 ^ Int.toNat (8 * 1 - 1) - 1) = false) (h2 : dueF ns 0 (2 ^ Int.toNat (8 * 1) - 1) = false) (h3 : dueF ns (0 - (2 ^ Int.toNat (8 * 2 - 1) - 1)) (2 ^ Int.toNat (8 * 2 - 1) - 1) = true) : kindOf ns = (Str.ofString "int16", 2) := by
  rw [dueF_all (-127) 127 (by decide) (by decide)] at h
  rw [dueF_all 0 255 (by decide) (by decide)] at h2
  rw [dueF_all (-32767) 32767 (by decide) (by decide)] at h3
  unfold kindOf; rw [if_neg (by simp [h]), if_neg (by simp [h2]), if_pos h3]
theorem due_k4 (h : dueF ns (0 - (2 ^ Int.toNat (8 * 1 - 1) - 1)) (2 ^ Int.toNat (8 * 1 - 1) - 1) = false) (h2 : dueF ns 0 (2 ^ Int.toNat (8 * 1) - 1) = false) (h3 : dueF ns (0 - (2 ^ Int.toNat (8 * 2 - 1) - 1)) (2 ^ Int.toNat (8 * 2 - 1) - 1) = false)
    (h4 : dueF ns 0 (2 ^ Int.toNat (8 * 2) - 1) = true) : kindOf ns = (Str.ofString "uint16", 2) := by
  rw [dueF_all (-127) 127 (by decide) (by decide)] at h
  rw [dueF_all 0 255 (by decide) (by decide)] at h2
  rw [dueF_all (-32767) 32767 (by decide) (by decide)] at h3
  rw [dueF_all 0 65535 (by decide) (by decide)] at h4
  unfold kindOf; rw [if_neg (by simp [h]), if_neg (by simp [h2]), if_neg (by simp [h3]), if_pos h4]
theorem due_k5 (h : dueF ns (0 - (2 ^ Int.toNat (8 * 1 - 1) - 1)) (2 ^ Int.toNat (8 * 1 - 1) - 1) = false) (h2 : dueF ns 0 (2 ^ Int.toNat (8 * 1) - 1) = false) (h3 : dueF ns (0 - (2 ^ Int.toNat (8 * 2 - 1) - 1)) (2 ^ Int.toNat (8 * 2 - 1) - 1) = false)
    (h4 : dueF ns 0 (2 ^ Int.toNat (8 * 2) - 1) = false) : kindOf ns = (Str.ofString "int32", 4) := by
  rw [dueF_all (-127) 127 (by decide) (by decide)] at h
  rw [dueF_all 0 255 (by decide) (by decide)] at h2
  rw [dueF_all (-32767) 32767 (by decide) (by decide)] at h3
  rw [dueF_all 0 65535 (by decide) (by decide)] at h4
  unfold kindOf; rw [if_neg (by simp [h]), if_neg (by simp [h2]), if_neg (by simp [h3]), if_neg (by simp [h4])]
end
local macro_rules | `(tactic| walk_at "ite") => `(tactic| (k_closed; k_dflt (first | refine ite_pos (by decide +kernel) ?_ | refine ite_neg (by decide +kernel) ?_)))
local macro_rules | `(tactic| walk_at "eval ListComp") => `(tactic| (k_here; k_dflt (refine LCt.ListComp_T (F₀ := by k_asm) (by with_unfolding_all rfl) (by decide) (by rfl) (by decide) (by rfl) ?_)))
theorem due_or1 {v b m : Int} {Q' : Bool → Shared → Prop} {f : Nat → Shared} {k : Nat} (h : v < b) (hQ : ∀ tk', Q' (decide (v < b) || decide (m < v)) (f tk')) : Q' true (f k) := by
  have := hQ k
  rwa [decide_eq_true h, Bool.true_or] at this
theorem due_or2 {v b m : Int} {Q' : Bool → Shared → Prop} {f : Nat → Shared} {k : Nat} (h : ¬ v < b) (h2 : m < v) (hQ : ∀ tk', Q' (decide (v < b) || decide (m < v)) (f tk')) : Q' true (f k) := by
  have := hQ k
  rwa [decide_eq_true h2, Bool.or_true] at this
theorem due_or3 {v b m : Int} {Q' : Bool → Shared → Prop} {f : Nat → Shared} {k : Nat} (h : ¬ v < b) (h2 : ¬ m < v) (hQ : ∀ tk', Q' (decide (v < b) || decide (m < v)) (f tk')) : Q' false (f k) := by
  have := hQ k
  rwa [decide_eq_false h, decide_eq_false h2, Bool.false_or] at this
local macro_rules | `(tactic| walk_at "CompSrcT") => `(tactic| (
  refine LCt.CompSrcT.base (by rfl) (by k_asm) (by k_asm) (by assumption) (by assumption) ?_
  intro gh
  refine' compRestT_due (by assumption) (Or.inl (by assumption)) (by rfl) (by rfl) (by decide) ?test ?_
  case test =>
    intro v t I oI C oC D ys m₂ h tk Q' E' hC hx F N hQ
    k_steps
    rotate_left
    rotate_left
    exact due_or3 (by assumption) (by assumption) hQ
    exact due_or1 (by assumption) hQ
    exact due_or2 (by assumption) (by assumption) hQ
  intro ys9 hy9
  try dsimp only))
theorem due_spec (X : (hd.heap_39 w.params).In b₀) (T : Top p loose mean mg mb b₀) {dp un : Nat} {fr : Option (List Env)} {gd : Option (List Code)} {s : Shared} {l : Addr} {vs : List Value} {ns : List Int} {Q E : Value → Shared → Prop}
    (hd : dp + 10 < recursionLimit) (hu : un + 100 < cLine) (S : b₀.StaysIn s.heap) (hl : s.heap.IsList l vs.toArray) (hI : IntsAre vs ns) (hlen : ns.length ≤ 1000)
    (hq : ∀ h' tk a, Keep [] s.heap h' → s.heap.get? a = none → TupSI (inH h') a (kindOf ns) → Q (.ref a) { s with heap := h', toks := tk }) :
    wpAny (model prog w) (ar dp un fr gd) (call (.ref 375) [.ref l]) Q E s := by
  refine enterC X T S (mt := []) (fun _ h => nomatch h) (by k_is) (by k_is) (by show dp < recursionLimit; omega) (BindsTo.of_eq (binds := [("numbers", .ref l)]) rfl) (by rfl) (by decide +kernel) rfl rfl rfl ?_
  intro g L' h₁ tk₁ cells G F N Yc K' T' hk₁ hL' hcl l1
  k_cells Yc
  try simp only [List.cons_append, List.nil_append] at N
  have hlg : g.IsList l vs.toArray := by obtain ⟨o, ho, r⟩ := hl; exact ⟨o, G.of _ _ ho (fun h => nomatch h), r⟩
  have hsz9 : vs.toArray.size ≤ sizeLine := by rw [List.size_toArray, hI.length, sizeLine_eq]; omega
  k_steps
  all_goals
    refine hq _ _ _ (keep_of G (by assumption)) (G.fresh (News.fresh (by assumption) List.mem_cons_self) (fun h => nomatch h)) (TupSI.of (by first | exact due_k1 (by assumption) | exact due_k2 (by assumption) (by assumption) | exact due_k3 (by assumption) (by assumption) (by assumption) | exact due_k4 (by assumption) (by assumption) (by assumption) (by assumption) | exact due_k5 (by assumption) (by assumption) (by assumption) (by assumption)) (News.get (by assumption) List.mem_cons_self))
end
section
example : True := by w_top off; trivial
/-- a row, where it stands -/
def RowAt (prog : Program) (w : World) (M : Wd) (y : Value) (r : List (Int × Int)) : Prop := ∃ a o, y = .ref a ∧ M a o ∧ (a == sysModules) = false ∧ RowO prog w o r ∧ RowI r
theorem RowAt.mono {prog : Program} {w : World} {M M' : Wd} {y : Value} {r : List (Int × Int)} (h : RowAt prog w M y r) (k : ∀ a o, M a o → M' a o) : RowAt prog w M' y r := by
  obtain ⟨a, o, e, m, x⟩ := h
  exact ⟨a, o, e, k _ _ m, x⟩
theorem ints_by : ∀ {vs : List Value} {ns : List Int}, vs.length = ns.length → (∀ (i : Nat) (v : Value), vs[i]? = some v → ∃ k t, v = .int k t ∧ ns[i]? = some k) → IntsAre vs ns := by
  intro vs
  induction vs with
  | nil => intro ns e _; cases ns with | nil => exact .nil | cons a l => cases e
  | cons v vs ih =>
    intro ns e h
    cases ns with
    | nil => cases e
    | cons n ns =>
      obtain ⟨k, t, rfl, e2⟩ := h 0 v rfl
      obtain rfl : n = k := by simpa using e2
      exact .cons _ _ (ih (by simpa using e) fun i u hu => h (i + 1) u (by simpa using hu))
section
variable {prog : Program} {w : World} {A : Around} {E : Value → Shared → Prop} {s : Shared} {h₀ : Heap} {L d : Addr} {m : Str → Option Value} {news : List (Addr × Obj)} {o : Obj} {r : List (Int × Int)} {Q : Value → Shared → Prop}
theorem sort_list {D : Addr} {vs : List Value} {ns : List Int} (F : Fr h₀ L s.heap m) (N : News h₀ L s.heap ((D, listOf vs.toArray 0) :: news)) (hne : ∀ q ∈ news, @Ne Nat q.1 D) (hI : IntsAre vs ns) (h64 : vs.length < 64)
    (h : ∀ h' vs' ns' e, Fr h₀ L h' m → News h₀ L h' ((D, listOf vs'.toArray e) :: news) → IntsAre vs' ns' → ns'.Perm ns → ns'.Pairwise (· ≤ ·) → Q .none { s with heap := h' }) :
    wpAny (model prog w) A (call (.builtin "list.sort") [.ref D]) Q E s := by
  have z := N _ List.mem_cons_self
  refine wpAny_call_entry slot_list_sort ⟨_, z.1, rfl⟩ entry_list_sort (list_sort_tree z.1 hI h64 fun out ns' a1 a2 a3 => ⟨_, rfl, ?_⟩) (args_list_sort _)
  obtain ⟨e, he⟩ := sortedHeap_at (out := out) z.1
  have old : ∀ b o, b ≠ D → s.heap.get? b = some o → (sortedHeap s.heap D vs out).get? b = some o := fun b o n q => (sortedHeap_old n (Heap.lt_size q)).trans q
  refine h _ out.toList ns' e ?_ ?_ a1 a2 a3
  · obtain ⟨⟨oL, es, ep, ho, r⟩, k, a⟩ := F
    refine ⟨⟨oL, es, ep, old _ _ (Ne.symm z.2.1) ho, r⟩, fun b o q => old b o (fun c => ?_) (k b o q), a⟩
    rw [c, z.2.2] at q; cases q
  · intro q hq
    rcases List.mem_cons.mp hq with rfl | hq
    · exact ⟨he, z.2⟩
    · have y := N q (List.mem_cons_of_mem _ hq)
      exact ⟨old _ _ (hne q hq) y.1, y.2⟩
theorem sorted_row (hh : A.handled = none) (F : Fr h₀ L s.heap m) (N : News h₀ L s.heap news) (hd : s.heap.get? d = some o) (hR : RowO prog w o r) (hI : RowI r) (lo : (d == sysModules) = false)
    (h : ∀ D h' tk vs ns e, Fr h₀ L h' m → News h₀ L h' ((D, listOf vs.toArray e) :: news) → (∀ q ∈ news, q.1 < D) → IntsAre vs ns → ns.Perm (r.map (·.1)) → ns.Pairwise (· ≤ ·) → Q (.ref D) { s with heap := h', toks := tk }) :
    wpAny (model prog w) A (call (.builtin "sorted") [.ref d]) Q E s := by
  obtain ⟨kvs, hk, hv⟩ := hR
  obtain ⟨ep, hat⟩ := (Heap.dictOf_iff.mpr ⟨o, hd, hk⟩ : s.heap.DictOf (intKind prog w) d kvs).dictAt
  have hlen := hv.length
  refine kdu_sorted (kdl_dict (knd := intKind prog w) (kvs := kvs) (ep := ep) lo) hh F N hat (by rw [sizeLine_eq]; have := hI.2.2; omega) fun D h' tk vs F' N' lt hl hP => ?_
  have hints : IntsAre vs (kvs.map (·.1)) := ints_by (by simp [hl]) fun j v hv => by
    obtain ⟨k, x, e1, e2⟩ := hP j v hv
    obtain ⟨t, rfl⟩ := Value.isInt_shape e2
    exact ⟨k, t, rfl, by rw [List.getElem?_map, e1]; rfl⟩
  refine sort_list (A := A.in1) F' N' (fun q hq => Nat.ne_of_lt (lt q hq)) hints (by have := hI.2.2; omega) fun h'' vs' ns' e F'' N'' i1 p1 o1 => ?_
  exact h D h'' tk vs' ns' e F'' N'' lt i1 (hv.keys ▸ p1) o1
end
end
section
example : True := by w_top off; trivial
variable {prog : Program} {w : World} {b₀ : Heap} {p : Program} {loose : List Str} {mean : ExcName → Option Value} {mg mb : Str → Option Value}
/-- a row's key, where it stands -/
def KeyAt (M : Wd) (a : Addr) (k : List (Int × Int)) : Prop := ∃ ys n, M a (tupOf ys n) ∧ All2 (PairAt M) ys k
theorem KeyAt.mono {M M' : Wd} {a : Addr} {k : List (Int × Int)} (h : KeyAt M a k) (m : ∀ a o, M a o → M' a o) : KeyAt M' a k := by
  obtain ⟨ys, n, e, x⟩ := h
  exact ⟨ys, n, m _ _ e, x.mono fun _ _ q => q.mono m⟩
theorem nodup_key {r : List (Int × Int)} (h : (r.map (·.1)).Nodup) {x y : Int × Int} (hx : x ∈ r) (hy : y ∈ r) (e : x.1 = y.1) : x = y := by
  obtain ⟨i, hi⟩ := List.mem_iff_getElem?.mp hx
  obtain ⟨j, hj⟩ := List.mem_iff_getElem?.mp hy
  have h1 : (r.map (·.1))[i]? = some x.1 := by rw [List.getElem?_map, hi]; rfl
  have h2 : (r.map (·.1))[j]? = some x.1 := by rw [List.getElem?_map, hj, e]; rfl
  have : i = j := (List.getElem?_inj (List.getElem?_eq_some_iff.mp h1).1 h).mp (h1.trans h2.symm)
  subst this
  rw [hi] at hj
  exact Option.some.inj hj
theorem same_of {k r : List (Int × Int)} (h : (r.map (·.1)).Nodup) {ns : List Int} (hp : ns.Perm (r.map (·.1))) (hk : k.map (·.1) = ns) (hm : ∀ x ∈ k, x ∈ r) (x : Int × Int) : x ∈ k ↔ x ∈ r := by
  refine ⟨hm x, fun hx => ?_⟩
  have : x.1 ∈ k.map (·.1) := hk ▸ hp.mem_iff.mpr (List.mem_map_of_mem hx)
  obtain ⟨y, hy, e⟩ := List.mem_map.mp this
  exact nodup_key h hx (hm y hy) e.symm ▸ hy
/-- the key of a row -/
def KeyOf (r k : List (Int × Int)) : Prop := (∀ x, x ∈ k ↔ x ∈ r) ∧ k.Pairwise (fun a b => a.1 < b.1)
theorem sorted_eq : ∀ {k k' : List (Int × Int)}, k.Pairwise (fun a b => a.1 < b.1) → k'.Pairwise (fun a b => a.1 < b.1) → (∀ x, x ∈ k ↔ x ∈ k') → k = k' := by
  intro k
  induction k with
  | nil =>
    intro k' _ _ h
    cases k' with
    | nil => rfl
    | cons b t => exact nomatch (h b).mpr List.mem_cons_self
  | cons a t ih =>
    intro k' p q h
    cases k' with
    | nil => exact nomatch (h a).mp List.mem_cons_self
    | cons b t' =>
      rw [List.pairwise_cons] at p q
      have e : a = b := by
        rcases List.mem_cons.mp ((h a).mp List.mem_cons_self) with e | e
        · exact e
        · rcases List.mem_cons.mp ((h b).mpr List.mem_cons_self) with e' | e'
          · exact e'.symm
          · have h1 := q.1 a e
            have h2 := p.1 b e'
            omega
      subst e
      congr 1
      refine ih p.2 q.2 fun x => ⟨fun hx => ?_, fun hx => ?_⟩
      · rcases List.mem_cons.mp ((h x).mp (List.mem_cons_of_mem _ hx)) with e | e
        · have := p.1 x hx
          rw [e] at this; omega
        · exact e
      · rcases List.mem_cons.mp ((h x).mpr (List.mem_cons_of_mem _ hx)) with e | e
        · have := q.1 x hx
          rw [e] at this; omega
        · exact e
theorem KeyOf.eq {r r' k k' : List (Int × Int)} (h : KeyOf r k) (h' : KeyOf r' k') (e : ∀ x, x ∈ r ↔ x ∈ r') : k = k' :=
  sorted_eq h.2 h'.2 fun x => (h.1 x).trans ((e x).trans (h'.1 x).symm)
theorem lt_of_le_nodup : ∀ {l : List Int}, l.Pairwise (· ≤ ·) → l.Nodup → l.Pairwise (· < ·)
  | [], _, _ => .nil
  | a :: l, p, q => by
    rw [List.pairwise_cons] at p
    rw [List.nodup_cons] at q
    refine .cons (fun x hx => ?_) (lt_of_le_nodup p.2 q.2)
    have h1 := p.1 x hx
    have h2 : a ≠ x := fun e => q.1 (e ▸ hx)
    omega
section
variable {A : Around} {E : Value → Shared → Prop} {s : Shared} {d : Addr} {o : Obj} {r : List (Int × Int)} {Q : Value → Shared → Prop}
theorem row_valueAt {kvs : List (Int × Value)} {c x : Int} (hn : (kvs.map (·.1)).Nodup) (hv : All2 ValR kvs r) (hj : (c, x) ∈ r) : ∃ tv, valueAt kvs c = some (.int x tv) := by
  obtain ⟨j, hj⟩ := List.mem_iff_getElem?.mp hj
  obtain ⟨kv, e1, e2, tv, e3⟩ := hv.get' j _ hj
  exact ⟨tv, valueAt_of_get hn (i := j) (by rw [e1, ← e3, ← show kv.1 = c from e2])⟩
theorem row_item {value slice : PySem.Expr} {c x : Int} {tc : Tok} (hd : s.heap.get? d = some o) (hR : RowO prog w o r) (hj : (c, x) ∈ r) (h : ∀ tv, Q (.int x tv) { s with toks := s.toks + 1 })
    (hs : subscripted slice false (.ref d) (.int c tc) = operate [.ref d, (.int c tc)] (getItem (.ref d) (.int c tc)) := by with_unfolding_all rfl) (hg : ∀ r, letTemporaryGo value (.ref d) r = pure () := by intro _; with_unfolding_all rfl) :
    wpAny (model prog w) A (subscriptTail value slice (.ref d) (.int c tc)) Q E s := by
  obtain ⟨kvs, hk, hv⟩ := hR
  have hD : s.heap.DictOf (intKind prog w) d kvs := Heap.dictOf_iff.mpr ⟨o, hd, hk⟩
  obtain ⟨_, _, _, _, _, _, hn⟩ := hk
  obtain ⟨tv, hl⟩ := row_valueAt hn hv hj
  exact subscriptTail_builtin hD.typeIs slot_dict_getitem.lookup (wpAny_getItem_of (by simp [intKind, Value.isInt]) hD.mapOf hl (h tv)) hs hg
end
local macro_rules | `(tactic| walk_at "CompSrc") => `(tactic| refine Stop.in ?_)
local macro_rules | `(tactic| walk_at "eval ListComp") => `(tactic| (k_here; k_dflt (refine LCg.ListComp_U (F₀ := by k_asm) (by with_unfolding_all rfl) (by decide) (by rfl) (by decide) (by rfl) ?_)))
local macro_rules | `(tactic| walk_at "call builtin:sorted") => `(tactic| (k_here; k_dflt (refine' sorted_row (by rfl) (by k_asm) (by k_asm) (by first | assumption | exact Fr.keep (by assumption) _ _ (by assumption)) (by assumption) (by assumption) (by assumption) ?_); intro D' h' tk' vs' ns' e' F' N' l1 i' p' o'; k_lt l1))
local macro_rules | `(tactic| walk_at "subscriptTail") => `(tactic| (k_here; k_dflt (refine' row_item (by first | assumption | exact Fr.keep (by assumption) _ _ (by assumption)) (by assumption) (by assumption) ?_); intro tv'))
theorem row_key_spec (X : (hd.heap_39 w.params).In b₀) (T : Top p loose mean mg mb b₀) {dp un : Nat} {fr : Option (List Env)} {gd : Option (List Code)} {s : Shared} {d : Addr} {o : Obj} {r : List (Int × Int)} {Q E : Value → Shared → Prop}
    (hd : dp + 10 < recursionLimit) (hu : un + 100 < cLine) (S : b₀.StaysIn s.heap) (ho : s.heap.get? d = some o) (lo : (d == sysModules) = false) (hR : RowO prog w o r) (hI : RowI r)
    (hq : ∀ h' tk a k new, Keep [] s.heap h' → Fresh s.heap h' new → KeyAt (inL new) a k → KeyOf r k → Q (.ref a) { s with heap := h', toks := tk }) :
    wpAny (model prog w) (ar dp un fr gd) (call (.ref 129) [.ref d]) Q E s := by
  refine enterC X T S (mt := []) (fun _ h => nomatch h) (by k_is) (by k_is) (by show dp < recursionLimit; omega) (BindsTo.of_eq (binds := [("row", .ref d)]) rfl) (by rfl) (by decide +kernel) rfl rfl rfl ?_
  intro g L' h₁ tk₁ cells G F N Yc K' T' hk₁ hL' hcl l1
  k_cells Yc
  try simp only [List.cons_append, List.nil_append] at N
  have hog : g.get? d = some o := G.of _ _ ho (fun h => nomatch h)
  k_steps
  unfold Stop
  rename_i D1 h1 tk1 vs1 ns1 e1 F1 N1 hns hpm ho1 lD
  have hnl := hpm.length_eq
  have hvl := hns.length
  rw [List.length_map] at hnl
  have hr3 := hI.2.2
  refine LCg.CompSrc.ledger (k := _) (by rfl) (by k_asm) (by assumption) List.mem_cons_self (by rw [sizeLine_eq, List.size_toArray]; omega) ?_
  intro gh
  refine compRest_inv (Inv := fun i ys news => ∃ new kvs, news = (D1, W.listOf vs1.toArray e1) :: (L' + 1, _) :: new ∧ All2 (PairAt (inL new)) ys kvs ∧ kvs.map (·.1) = List.take i ns1 ∧ (∀ kv ∈ kvs, kv ∈ r) ∧ (∀ p ∈ new, @Ne Nat p.1 D1) ∧ (∀ p ∈ new, @Ne Nat p.1 (L' + 1))) ?step ?fin _ 0 [] _ (Nat.zero_add _) ⟨[], [], rfl, .nil, rfl, by simp, by simp, by simp⟩
  case step =>
    rintro i ys news v I oI C oC D m₂ h tk E' hi ⟨new, kvs, rfl, hA, hkv, hmr, n1, n2⟩ hv hC hx F2 N2 off ne
    obtain ⟨ne1, ne2, ne3⟩ := ne
    simp only [LCg.Off3] at off
    obtain ⟨⟨off1, off11, off12⟩, ⟨off2, off21, off22⟩, off3⟩ := off
    obtain ⟨c, tc, rfl, hc⟩ := hns.at i v (by simpa using hv)
    obtain ⟨x, hcx⟩ : ∃ x, (c, x) ∈ r := by
      obtain ⟨q, hq, e⟩ := List.mem_map.mp (hpm.mem_iff.mp (List.mem_of_getElem? hc))
      exact ⟨q.2, e ▸ hq⟩
    k_steps
    have hk1 : (kvs ++ [(c, x)]).map (·.1) = List.take (i + 1) ns1 := by rw [List.map_append, hkv, List.take_add_one, hc]; rfl
    refine CPost.intro (by k_asm) (by assumption) ((D1, _) :: (L' + 1, _) :: (_, _) :: new) (by lcg_sub) (by lcg_off) (Or.inr ⟨_, List.mem_cons_self, rfl, _, rfl⟩) ⟨(_, _) :: new, kvs ++ [(c, x)], rfl, (hA.mono fun _ _ q => q.mono fun _ _ z => List.mem_cons_of_mem _ z).snoc ⟨_, _, _, _, rfl, List.mem_cons_self⟩, hk1, ?_, allNe_cons (by k_ne) n1, allNe_cons (by k_ne) n2⟩
    intro kv hk
    rcases List.mem_append.mp hk with hk | hk
    · exact hmr kv hk
    · exact List.mem_singleton.mp hk ▸ hcx
  intro ys news hJ
  obtain ⟨new, kvs, rfl, hA, hkv, hmr, n1, n2⟩ := hJ
  k_steps
  rename_i D2 h2 tk2 F2 N2 o2
  have hyl := hA.length
  have hkl : kvs.length = r.length := by
    have := congrArg List.length hkv
    rw [List.length_map, List.length_take, List.size_toArray] at this
    omega
  have hkv' : kvs.map (·.1) = ns1 := by rw [hkv, List.take_of_length_le (by rw [List.size_toArray]; omega)]
  refine kde_tupleOf F2 N2 (News.isList N2 List.mem_cons_self) (by show ys.toArray.size ≤ 16384; rw [List.size_toArray]; omega) (List.toList_toArray) fun D3 h3 F3 N3 l3 => ?_
  refine hq h3 tk2 D3 kvs ((D3, tupOf ys 0) :: new) (keep_of G F3) (fun p hp => ?_) ⟨ys, 0, List.mem_cons_self, hA.mono fun _ _ q => q.mono fun a o m => List.mem_cons_of_mem _ m⟩ ⟨same_of hI.1 hpm hkv' hmr, List.pairwise_map.mp (hkv' ▸ lt_of_le_nodup ho1 (hpm.symm.nodup hI.1))⟩
  have N4 : News g L' h3 ((D3, tupOf ys 0) :: new) := news_sub N3 (by lcg_sub)
  exact ⟨N4.get hp, G.fresh (News.fresh N4 hp) (fun h => nomatch h)⟩
end
section
example : True := by w_top off; trivial
section
variable {prog : Program} {w : World} {A : Around} {E : Value → Shared → Prop} {s : Shared}
/-- a pair of ints as a part of a key -/
def PairK (prog : Program) (w : World) (h : Heap) (q : Int × Int) (v : Value) : Prop := ∃ b, v = .ref b ∧ IsTupleKey (intKind prog w) h [q.1, q.2] b
/-- a tuple of pairs of ints as a key -/
def NestK (prog : Program) (w : World) (h : Heap) (ks : List (Int × Int)) (a : Addr) : Prop := ∃ o items n, h.get? a = some o ∧ o.cls = .type "tuple" ∧ o.data = .seq items n ∧ All2 (PairK prog w h) ks items.toList
theorem NestK.typeIs {ks : List (Int × Int)} {a : Addr} (x : NestK prog w s.heap ks a) : s.TypeIs (.ref a) "tuple" := let ⟨o, _, _, ho, hc, _⟩ := x; ⟨o, ho, hc⟩
theorem pair_list {x y : Int × Int} : ([x.1, x.2] = [y.1, y.2]) = (x = y) := by
  apply propext
  constructor
  · intro h
    simp only [List.cons.injEq, and_true] at h
    exact Prod.ext h.1 h.2
  · intro h; rw [h]
theorem pairKs_inj {h : Heap} {x y : List (Int × Int)} {vs : List Value} (hx : All2 (PairK prog w h) x vs) (hy : All2 (PairK prog w h) y vs) : x = y := by
  induction hx generalizing y with
  | nil => cases hy; rfl
  | cons h1 _ ih =>
    cases hy with
    | cons h2 t2 =>
      obtain ⟨b, rfl, k1⟩ := h1
      obtain ⟨b', e, k2⟩ := h2
      cases e
      have := pair_list ▸ k1.inj k2
      rw [this, ih t2]
theorem NestK.inj {h : Heap} {a : Addr} {x y : List (Int × Int)} (hx : NestK prog w h x a) (hy : NestK prog w h y a) : x = y := by
  obtain ⟨o, items, n, ho, _, hd, hi⟩ := hx
  obtain ⟨o', items', n', ho', _, hd', hi'⟩ := hy
  obtain rfl : o = o' := Option.some.inj (ho.symm.trans ho')
  rw [hd] at hd'
  injection hd' with h1 _
  subst h1
  exact pairKs_inj hi hi'
theorem NestK.keeps {h h' : Heap} {ks : List (Int × Int)} {a d : Addr} {o : Obj} {es ep} (x : NestK prog w h ks a) (ho : h.get? d = some o) (hd : o.data = .dict es ep) (hs : Heap.SameBut d h h') : NestK prog w h' ks a := by
  obtain ⟨o', items, n, ho', hc, hd', hi⟩ := x
  have hne : a ≠ d := by
    rintro rfl
    obtain rfl : o' = o := Option.some.inj (ho'.symm.trans ho)
    rw [hd] at hd'; exact nomatch hd'
  exact ⟨o', items, n, (hs.2 a hne).trans ho', hc, hd', hi.mono fun q v ⟨b, e, k⟩ => ⟨b, e, k.keeps ho hd hs⟩⟩

def pairHash (prog : Program) (w : World) (q : Int × Int) : Int := tupleKeyHash (intKind prog w) [q.1, q.2]
def nestHash (prog : Program) (w : World) (ks : List (Int × Int)) : Int := reduceHash (Builtin.Tuple.tupleHashOf (ks.map (pairHash prog w)))

theorem nest_pyHash {ks : List (Int × Int)} {a : Addr} {Q : Int → Shared → Prop} (hu : A.units + 1 < cLine) (hk : NestK prog w s.heap ks a) (h : Q (nestHash prog w ks) { s with toks := s.toks + (3 * ks.length + 1) }) :
    wpAny (model prog w) A (pyHash (.ref a)) Q E s := by
  have hT := hk.typeIs
  obtain ⟨o, items, n, ho, _, hd, hi⟩ := hk
  unfold pyHash
  first | unfold pyHashByItsType | skip
  first | refine wpAny_bind (wpAny_cRoomFor_or (.inr (by omega)) ?_) | skip
  refine wpAny_bind (wpAny_specialOf hT F.slot_tuple_hash.lookup ?_)
  show wpAny _ _ (if (some (Value.builtin "tuple.__hash__") == some Value.none) = true then _ else _) Q E s
  rw [if_neg (by rw [beq_builtin_none]; exact Bool.false_ne_true)]
  refine wpAny_bind (wpAny_specialOf hT F.slot_tuple_hash.lookup ?_)
  show wpAny _ _ (callSpecialIfBoundUnlessNone? (.ref a) "__hash__" _ >>= _) Q E s
  refine wpAny_bind (wpAny_callSpecialIfBoundUnlessNone?_slot hT F.slot_tuple_hash (wpAny_call_entry F.slot_tuple_hash hT F.entry_tuple_hash ?_ (F.args_tuple_hash_1 _)))
  show wpAny _ _ (Builtin.Tuple.tupleItemsOf (.ref a) >>= _) _ _ s
  refine wpAny_bind (wpAny_tupleItemsOf ho hd ?_)
  refine wpAny_bind ?_
  rw [← Array.forIn_toList]
  refine wpAny_forIn_list _
    (fun rest (b : Array Int) s' => ∃ done left, ks = done ++ left ∧ All2 (PairK prog w s.heap) left rest ∧ b.toList = done.map (pairHash prog w) ∧ s' = { s with toks := s.toks + 3 * done.length })
    _ ?_ ?_ _ _ ⟨[], ks, rfl, hi, rfl, rfl⟩
  · rintro x rest b s' ⟨done, left, rfl, hl, hb, rfl⟩
    cases hl with
    | @cons k _ ks' _ h1 hl' =>
      obtain ⟨pb, rfl, k1⟩ := h1
      refine wpAny_bind (wpAny_pyHash_tuple (A := A.in1) (s := { s with toks := s.toks + 3 * done.length }) hu k1 ?_)
      first
        | exact wpAny_pure ⟨done ++ [k], ks', by simp, hl', by simp [hb, pairHash], by simp [Nat.add_assoc, Nat.mul_add]⟩
        | exact wpAny_bind (wpAny_pure (wpAny_pure ⟨done ++ [k], ks', by simp, hl', by simp [hb, pairHash], by simp [Nat.add_assoc, Nat.mul_add]⟩))
  · rintro b s' ⟨done, left, rfl, hl, hb, rfl⟩
    cases hl
    rw [List.append_nil] at h
    show wpAny _ _ (retInt (Builtin.Tuple.tupleHashOf b.toList)) _ _ _
    rw [hb]
    refine wpAny_ret_mkInt ?_
    show wpAny _ _ (if (decide (-(2 : Int) ^ 63 ≤ Builtin.Tuple.tupleHashOf (done.map (pairHash prog w))) && decide (Builtin.Tuple.tupleHashOf (done.map (pairHash prog w)) < 2 ^ 63)) = true then _ else _) Q E _
    unfold nestHash reduceHash at h
    by_cases hr : (decide (-(2 : Int) ^ 63 ≤ Builtin.Tuple.tupleHashOf (done.map (pairHash prog w))) && decide (Builtin.Tuple.tupleHashOf (done.map (pairHash prog w)) < 2 ^ 63)) = true
    · rw [if_pos hr]
      rw [if_pos hr] at h
      exact wpAny_pure h
    · rw [if_neg hr]
      rw [if_neg hr] at h
      exact wpAny_bind (wpAny_rule (wpAny_pure h))

theorem nest_eq_tree {x y : List (Int × Int)} {a b : Addr} {P : Fin → Shared → Prop} (hu : A.units < cLine) (hx : NestK prog w s.heap x a) (hy : NestK prog w s.heap y b) (h : P (.done (.ret (.bool (decide (x = y))))) s) :
    wpAny (model prog w) A (Builtin.«tuple.__eq__» ⟨[.ref a, .ref b], []⟩) P E s := by
  have hTb := hy.typeIs
  obtain ⟨oa, xs, na, hoa, _, hda, hia⟩ := hx
  obtain ⟨ob, ys, nb, hob, _, hdb, hib⟩ := hy
  show wpAny _ _ (isInstance (.ref b) (.type "tuple") >>= _) _ _ s
  refine wpAny_bind (wpAny_isInstance hTb isSubtype_tuple_tuple ?_)
  simp only [Bool.not_true, Bool.false_eq_true, if_false]
  refine wpAny_bind (wpAny_tupleItemsOf hoa hda ?_)
  refine wpAny_bind (wpAny_tupleItemsOf hob hdb ?_)
  refine wpAny_bind ?_
  refine wpAny_forIn_list _
    (fun rest r s' => r.1 = none ∧ s' = s ∧ ∃ x' y' xs' ys', rest = List.zip xs' ys' ∧ All2 (PairK prog w s.heap) x' xs' ∧ All2 (PairK prog w s.heap) y' ys' ∧ decide (x' = y') = decide (x = y) ∧ (xs'.length == ys'.length) = (xs.size == ys.size))
    _ ?_ ?_ _ _ ⟨rfl, rfl, x, y, xs.toList, ys.toList, rfl, hia, hib, rfl, by simp⟩
  · rintro ⟨u, v⟩ rest r s' ⟨hr, rfl, x', y', xs', ys', hz, hx', hy', hdec, hlen⟩
    cases hx' with
    | nil => simp at hz
    | @cons k1 u' x'' xs'' h1 hx'' =>
      cases hy' with
      | nil => simp at hz
      | @cons k2 v' y'' ys'' h2 hy'' =>
        simp only [List.zip_cons_cons, List.cons.injEq, Prod.mk.injEq] at hz
        obtain ⟨⟨rfl, rfl⟩, rfl⟩ := hz
        obtain ⟨b1, rfl, i1⟩ := h1
        obtain ⟨b2, rfl, i2⟩ := h2
        refine wpAny_bind (wpAny_eqBool_tuple hu i1 i2 ?_)
        by_cases hk : k1 = k2
        · subst hk
          rw [decide_eq_true rfl]
          simp only [Bool.not_true, Bool.false_eq_true, if_false]
          refine wpAny_pure ⟨rfl, rfl, x'', y'', xs'', ys'', rfl, hx'', hy'', ?_, by simpa using hlen⟩
          rw [← hdec]
          by_cases hxy : x'' = y''
          · simp [hxy]
          · simp [hxy]
        · rw [decide_eq_false (by rw [pair_list]; exact hk)]
          simp only [Bool.not_false, if_true]
          have hf : decide (x = y) = false := by rw [← hdec]; simp [hk]
          rw [hf] at h
          exact wpAny_bind (wpAny_pure (wpAny_pure (wpAny_pure h)))
  · rintro ⟨r1, r2⟩ s' ⟨hr, rfl, x', y', xs', ys', hz, hx', hy', hdec, hlen⟩
    simp only at hr
    subst hr
    refine wpAny_pure ?_
    have hfin : (xs.size == ys.size) = decide (x = y) := by
      rw [← hdec, ← hlen]
      cases hx' with
      | nil =>
        cases hy' with
        | nil => simp
        | cons _ _ => simp
      | cons _ _ =>
        cases hy' with
        | nil => simp
        | cons _ _ => simp at hz
    show P (.done (.ret (.bool (xs.size == ys.size)))) s'
    rw [hfin]; exact h

theorem nest_eqBool {x y : List (Int × Int)} {a b : Addr} {Q : Bool → Shared → Prop} (hu : A.units + 1 < cLine) (hx : NestK prog w s.heap x a) (hy : NestK prog w s.heap y b) (h : Q (decide (x = y)) s) :
    wpAny (model prog w) A (eqBool (.ref a) (.ref b)) Q E s := by
  unfold eqBool
  try with_reducible refine wpAny_holding ?_
  show wpAny _ _ (if (Value.ref a == Value.ref b) = true then _ else _) Q E s
  by_cases hab : (Value.ref a == Value.ref b) = true
  · rw [if_pos hab]
    have e : a = b := by have := eq_of_beq hab; injection this
    subst e
    obtain rfl := hx.inj hy
    exact wpAny_bind (wpAny_rule (wpAny_pure (by simpa using h)))
  · rw [if_neg hab]
    exact wpAny_bind (wpAny_richCompare_same_room (op := .Eq) hx.typeIs hy.typeIs F.slot_tuple_eq
      (wpAny_call_entry F.slot_tuple_eq hx.typeIs F.entry_tuple_eq (nest_eq_tree hu hx hy ⟨_, rfl, (fun e => nomatch e), wpAny_truthy_bool h⟩) (F.args_tuple_eq_2 _ _)) (by omega))

theorem pair_quiet {n : Nat} {ks : List Int} {a : Addr} {Q : Bool → Shared → Prop} (hk : IsTupleKey (intKind prog w) s.heap ks a) (h : Q true s) : wpAny (model prog w) A (eqIsQuiet (n + 1) (.ref a)) Q E s := by
  have hT := hk.typeIs
  obtain ⟨o, items, m, ho, _, hd, hi⟩ := hk
  unfold eqIsQuiet
  refine wpAny_bind (wpAny_specialOf hT F.slot_tuple_eq.lookup ?_)
  show wpAny _ _ (isInstance (.ref a) (.type "tuple") >>= _) _ _ s
  refine wpAny_bind (wpAny_isInstance hT isSubtype_tuple_tuple ?_)
  simp only [Bool.not_true, Bool.false_eq_true, if_false]
  refine wpAny_bind (wpAny_seqItems ho hd ?_)
  refine wpAny_bind ?_
  show wpAny _ _ (forIn items _ _) _ _ s
  rw [← Array.forIn_toList]
  refine wpAny_forIn_list _ (fun rest r s' => r.1 = none ∧ s' = s ∧ ∀ v ∈ rest, carriedByValue v = true) _ ?_ ?_ _ _ ⟨rfl, rfl, hi.byValue⟩
  · rintro v rest r s' ⟨hr, rfl, hall⟩
    rw [eqIsQuiet_byValue _ (hall v List.mem_cons_self)]
    refine wpAny_bind (wpAny_pure ?_)
    simp only [Bool.not_true, Bool.false_eq_true, if_false]
    exact wpAny_pure ⟨rfl, rfl, fun u hu' => hall u (List.mem_cons_of_mem _ hu')⟩
  · rintro ⟨r1, r2⟩ s' ⟨hr, rfl, _⟩
    simp only at hr
    subst hr
    exact wpAny_pure h
theorem nest_quiet {ks : List (Int × Int)} {a : Addr} {Q : Bool → Shared → Prop} (hk : NestK prog w s.heap ks a) (h : Q true s) : wpAny (model prog w) A (eqIsQuiet 8 (.ref a)) Q E s := by
  have hT := hk.typeIs
  obtain ⟨o, items, m, ho, _, hd, hi⟩ := hk
  unfold eqIsQuiet
  refine wpAny_bind (wpAny_specialOf hT F.slot_tuple_eq.lookup ?_)
  show wpAny _ _ (isInstance (.ref a) (.type "tuple") >>= _) _ _ s
  refine wpAny_bind (wpAny_isInstance hT isSubtype_tuple_tuple ?_)
  simp only [Bool.not_true, Bool.false_eq_true, if_false]
  refine wpAny_bind (wpAny_seqItems ho hd ?_)
  refine wpAny_bind ?_
  show wpAny _ _ (forIn items _ _) _ _ s
  rw [← Array.forIn_toList]
  refine wpAny_forIn_list _ (fun rest r s' => r.1 = none ∧ s' = s ∧ ∃ ks', All2 (PairK prog w s.heap) ks' rest) _ ?_ ?_ _ _ ⟨rfl, rfl, ks, hi⟩
  · rintro v rest r s' ⟨hr, rfl, ks', hall⟩
    cases hall with
    | cons h1 hall =>
      obtain ⟨b, rfl, k1⟩ := h1
      refine wpAny_bind (pair_quiet k1 ?_)
      simp only [Bool.not_true, Bool.false_eq_true, if_false]
      exact wpAny_pure ⟨rfl, rfl, _, hall⟩
  · rintro ⟨r1, r2⟩ s' ⟨hr, rfl, _⟩
    simp only at hr
    subst hr
    exact wpAny_pure h
end
def nestKind (prog : Program) (w : World) : HeapKind prog w (List (Int × Int)) where
  is := NestK prog w
  hash := nestHash prog w
  draws := fun ks => 3 * ks.length + 1
  room := fun A => A.units + 1 < cLine
  inj := fun hx hy => hx.inj hy
  keeps := fun x ho hd hs => x.keeps ho hd hs
  pyHash := fun hu hk h => nest_pyHash hu hk h
  eqBool := fun hu hx hy h => nest_eqBool hu hx hy h
  quiet := fun hk h => nest_quiet hk h
theorem KeyAt.nest {prog : Program} {w : World} {h : Heap} {a : Addr} {k : List (Int × Int)} (x : KeyAt (inH h) a k) : (nestKind prog w).is h k a := by
  obtain ⟨ys, n, e, hA⟩ := x
  refine ⟨_, ys.toArray, n, e, rfl, rfl, ?_⟩
  rw [List.toList_toArray]
  clear e
  induction hA with
  | nil => exact .nil
  | cons p _ ih =>
    obtain ⟨b, tk, tv, m, rfl, hb⟩ := p
    refine .cons ⟨b, rfl, _, _, m, hb, rfl, rfl, ?_⟩ ih
    exact .cons (by simp [intKind, Value.isInt]) (.cons (by simp [intKind, Value.isInt]) .nil)
end
section
example : True := by w_top off; trivial
/-- behind one turn of a loop whose ledger may grow -/
def TEnd (h₀ : Heap) (L : Addr) (J : (Str → Option Value) → List (Addr × Obj) → Prop) (I : Addr) (oI : Obj) (s₁ s₂ : Shared) : Prop :=
  ∃ h' tk m' nx, s₂ = { s₁ with heap := h', toks := tk } ∧ Fr h₀ L h' m' ∧ News h₀ L h' ((I, oI) :: nx) ∧ (∀ p ∈ nx, @Ne Nat p.1 I) ∧ J m' nx
def TPost (h₀ : Heap) (L : Addr) (J : (Str → Option Value) → List (Addr × Obj) → Prop) (I : Addr) (oI : Obj) (s₁ : Shared) (Q : Flow → Shared → Prop) (f : Flow) (s₂ : Shared) : Prop :=
  match f with
  | .ret v => Q (.ret v) s₂
  | .brk => Q .next s₂
  | _ => TEnd h₀ L J I oI s₁ s₂
theorem TEnd.intro {h₀ : Heap} {L : Addr} {J : (Str → Option Value) → List (Addr × Obj) → Prop} {I : Addr} {oI : Obj} {s₁ : Shared} {h' : Heap} {tk : Nat} {m' : Str → Option Value} {all : List (Addr × Obj)} (nx : List (Addr × Obj)) (F : Fr h₀ L h' m') (N : News h₀ L h' all)
    (sub : ∀ p ∈ (I, oI) :: nx, p ∈ all) (off : ∀ p ∈ nx, @Ne Nat p.1 I) (hJ : J m' nx) : TEnd h₀ L J I oI s₁ { s₁ with heap := h', toks := tk } := ⟨h', tk, m', nx, rfl, F, news_sub N sub, off, hJ⟩
section
variable {prog : Program} {w : World} {A : Around} {E : Value → Shared → Prop} {s : Shared} {env : Env} {h₀ : Heap} {x : Str} {body : List Stmt} {Q : Flow → Shared → Prop}
theorem loop_G {I : Addr} {fp : List Addr} {n : Nat} {P : Nat → Value → Prop} {St : Nat → Heap → Prop} {m₀ : Str → Option Value} {news : List (Addr × Obj)} (R : List (Addr × Obj) → Prop) (J : Nat → (Str → Option Value) → List (Addr × Obj) → Prop)
    (W : Walks prog w A I fp [I] n P St) (hLf : env.locals ∉ fp) (hI0 : h₀.get? I = none) (hIf : I ∈ fp) (live : ∀ i h, St i h → ∃ o, h.get? I = some o) (hR : ∀ b ∈ fp, b ≠ I → h₀.get? b = none → ∃ ob, ∀ nx, R nx → (b, ob) ∈ nx)
    (hnw : ∀ p ∈ news, p.1 ≠ I) (hst : St 0 s.heap) (F : Fr h₀ env.locals s.heap m₀) (N : News h₀ env.locals s.heap news) (hr : R news) (hj : J 0 m₀ news)
    (turn : ∀ i v m₁ nx h tk oI, i < n → P i v → R nx → J i m₁ nx → (∀ p ∈ nx, @Ne Nat p.1 I) → Fr h₀ env.locals h (fun y => if y = x then some v else m₁ y) → News h₀ env.locals h ((I, oI) :: nx) →
      wpAny (model prog w) A (execs body env) (TPost h₀ env.locals (fun m nx => R nx ∧ J (i + 1) m nx) I oI { s with heap := h, toks := tk } Q) E { s with heap := h, toks := tk })
    (done : ∀ m₁ nx h tk, R nx → J n m₁ nx → Fr h₀ env.locals h m₁ → News h₀ env.locals h nx → Q .next { s with heap := h, toks := tk }) :
    LoopAtV prog w A h₀ env x body Q E (.ref I) s := by
  refine ⟨I, fp, [I], n, P, St, m₀, news, (fun i m nx => R nx ∧ J i m nx), rfl, W, hLf, ?_, ?_, hst, F, N, ⟨hr, hj⟩, ?_, ?_⟩
  · intro b hb; rw [List.mem_singleton.mp hb]; exact hI0
  · intro p hp hI; exact hnw p hp (List.mem_singleton.mp hI)
  · rintro i v m₁ news₁ s₁ own ⟨hh', tk', rfl⟩ hin hP ⟨hR₁, hJ⟩ hoff hown hlive hfp hst F₁ N₁
    obtain ⟨oI, hoI⟩ := live _ _ hst
    have hIown : (I, oI) ∈ own := hfp _ hIf hI0 _ hoI
    have hne : ∀ p ∈ news₁, @Ne Nat p.1 I := fun p hp e => hoff p hp (List.mem_singleton.mpr e)
    have N₂ : News h₀ env.locals hh' ((I, oI) :: news₁) := fun p hp => N₁ p (by
      rcases List.mem_cons.mp hp with rfl | hp
      · exact List.mem_append_left _ hIown
      · exact List.mem_append_right _ hp)
    refine wpAny_mono (turn i v m₁ news₁ hh' tk' oI hin hP hR₁ hJ hne F₁ N₂) (fun f s₂ p => ?_) fun _ _ e => e
    have fin : TEnd h₀ env.locals (fun m nx => R nx ∧ J (i + 1) m nx) I oI { s with heap := hh', toks := tk' } s₂ → LoopStepU h₀ env.locals [I] own (fun m nx => R nx ∧ J (i + 1) m nx) { s with heap := hh', toks := tk' } .next s₂ := by
      rintro ⟨h', tk, m', nx, e, F', N', hoff', hR', hJ'⟩
      refine ⟨rfl, h', tk, m', nx, e, F', fun p hp => ?_, fun p hp hq => hoff' p hp (List.mem_singleton.mp hq), hR', hJ'⟩
      rcases List.mem_append.mp hp with hp | hp
      · by_cases e : p.1 = I
        · have h1 := hlive p hp
          have h2 : p.2 = oI := by
            rw [e] at h1
            exact Option.some.inj (h1.symm.trans hoI)
          have : p = (I, oI) := Prod.ext e h2
          rw [this]
          exact N' _ List.mem_cons_self
        · obtain ⟨ob, hob⟩ := hR p.1 (hown p hp) e (N₁ p (List.mem_append_left _ hp)).2.2
          have h1 := hlive p hp
          have h2 := (N₂ _ (List.mem_cons_of_mem _ (hob _ hR₁))).1
          have h3 : p.2 = ob := Option.some.inj (h1.symm.trans h2)
          have : p = (p.1, ob) := Prod.ext rfl h3
          rw [this]
          exact N' _ (List.mem_cons_of_mem _ (hob _ hR'))
      · exact N' p (List.mem_cons_of_mem _ hp)
    cases f with
    | ret v => exact .ret p
    | brk => exact .brk p
    | next => exact .next (fin p)
    | cont => exact .cont (fin p)
  · rintro h' tk m' news' F' N' _ ⟨hR', hJ⟩
    exact done m' news' h' tk hR' hJ F' N'

theorem range_G {r : Addr} {b₀ : Int} {t₀ u₀ v₀ : Tok} {n : Nat} {m₀ : Str → Option Value} {news : List (Addr × Obj)} (J : Nat → (Str → Option Value) → List (Addr × Obj) → Prop)
    (hh : A.handled = none) (hr : IsRange s.heap r 0 b₀ 1 t₀ u₀ v₀) (hsmall : Builtin.Range.small 0 b₀ 1 = true) (hn : Builtin.Range.rangeSize 0 b₀ 1 = (n : Int)) (F : Fr h₀ env.locals s.heap m₀) (N : News h₀ env.locals s.heap news) (hj : J 0 m₀ news)
    (turn : ∀ i t m₁ nx h tk I oI, i < n → J i m₁ nx → (∀ p ∈ nx, @Ne Nat p.1 I) → Fr h₀ env.locals h (fun y => if y = x then some (.int (i : Int) t) else m₁ y) → News h₀ env.locals h ((I, oI) :: nx) →
      wpAny (model prog w) A (execs body env) (TPost h₀ env.locals (J (i + 1)) I oI { s with heap := h, toks := tk } Q) E { s with heap := h, toks := tk })
    (done : ∀ m₁ nx h tk, J n m₁ nx → Fr h₀ env.locals h m₁ → News h₀ env.locals h nx → Q .next { s with heap := h, toks := tk }) :
    wpAny (model prog w) A (pyIter (.ref r)) (fun it s₂ => LoopAtV prog w A h₀ env x body Q E it s₂) E s := by
  refine wpAny_pyIter_range hr hsmall ?_
  have W : Walks prog w A s.heap.objs.size [s.heap.objs.size] [s.heap.objs.size] n (fun i v => i < n ∧ ∃ t, v = .int (0 + i * 1) t)
      (fun i h => IsRangeIter h s.heap.objs.size (0 + (i : Nat) * 1) ((n : Int) - (i : Nat)) 1) := (Walks.range hh _ 0 1 n).bound
  refine loop_G (fun _ => True) J W ?_ (next_is_new F) List.mem_cons_self ?_ ?_ ?_ (by show IsRangeIter _ _ _ _ _; rw [hn]; simpa using Heap.get?_push_size _ rfl) (F.push _) (fun p hp => ⟨Heap.get?_push_of_some _ (N p hp).1, (N p hp).2⟩) trivial hj ?_ ?_
  · intro hm
    exact absurd F.ns.lt ((List.mem_singleton.mp hm) ▸ Nat.lt_irrefl _)
  · intro i h hs; exact ⟨_, hs⟩
  · intro b hb hne; exact absurd (List.mem_singleton.mp hb) hne
  · intro p hp e
    exact absurd (Heap.lt_size (N p hp).1) (e ▸ Nat.lt_irrefl _)
  · rintro i v m₁ nx h tk oI hi ⟨_, t, rfl⟩ _ hJ hoff F' N'
    have e : (0 : Int) + i * 1 = i := by omega
    rw [e] at F'
    refine wpAny_mono (turn i t m₁ nx h tk _ oI hi hJ hoff F' N') (fun f s₂ p => ?_) fun _ _ e => e
    cases f with
    | ret v => exact p
    | brk => exact p
    | next => obtain ⟨a, b, c, d, e1, e2, e3, e4, e5⟩ := p; exact ⟨a, b, c, d, e1, e2, e3, e4, trivial, e5⟩
    | cont => obtain ⟨a, b, c, d, e1, e2, e3, e4, e5⟩ := p; exact ⟨a, b, c, d, e1, e2, e3, e4, trivial, e5⟩
  · intro m₁ nx h tk _ hJ F' N'
    exact done m₁ nx h tk hJ F' N'

/-- over a list of the ledger -/
theorem listN_G {l : Addr} {vs : List Value} {nn : Nat} {m₀ : Str → Option Value} {news : List (Addr × Obj)} (J : Nat → (Str → Option Value) → List (Addr × Obj) → Prop)
    (hh : A.handled = none) (hl : (l, listOf vs.toArray nn) ∈ news) (F : Fr h₀ env.locals s.heap m₀) (N : News h₀ env.locals s.heap news) (hj : J 0 m₀ news)
    (turn : ∀ i v m₁ nx h tk I oI, vs[i]? = some v → (l, listOf vs.toArray nn) ∈ nx → J i m₁ nx → (∀ p ∈ nx, @Ne Nat p.1 I) → Fr h₀ env.locals h (fun y => if y = x then some v else m₁ y) → News h₀ env.locals h ((I, oI) :: nx) →
      wpAny (model prog w) A (execs body env) (TPost h₀ env.locals (fun m nx => (l, listOf vs.toArray nn) ∈ nx ∧ J (i + 1) m nx) I oI { s with heap := h, toks := tk } Q) E { s with heap := h, toks := tk })
    (done : ∀ m₁ nx h tk, (l, listOf vs.toArray nn) ∈ nx → J vs.length m₁ nx → Fr h₀ env.locals h m₁ → News h₀ env.locals h nx → Q .next { s with heap := h, toks := tk }) :
    wpAny (model prog w) A (pyIter (.ref l)) (fun it s₂ => LoopAtV prog w A h₀ env x body Q E it s₂) E s := by
  have hol : s.heap.get? l = some (listOf vs.toArray nn) := (N _ hl).1
  have hls : s.heap.IsList l vs.toArray := ⟨_, hol, rfl, nn, rfl⟩
  have hne : l ≠ s.heap.objs.size := Nat.ne_of_lt (Heap.lt_size hol)
  refine wpAny_pyIter_list hls ?_
  have W := Walks.list (prog := prog) (w := w) hh s.heap.objs.size l hne vs.toArray
  have hlen : vs.toArray.size = vs.length := by simp
  rw [hlen] at W
  refine loop_G (fun nx => (l, listOf vs.toArray nn) ∈ nx) J W ?_ (next_is_new F) List.mem_cons_self ?_ ?_ ?_ ⟨⟨_, Heap.get?_push_size _ rfl, rfl, rfl⟩, hls.at fun o e => Heap.get?_push_of_some _ e⟩ (F.push _) (fun p hp => ⟨Heap.get?_push_of_some _ (N p hp).1, (N p hp).2⟩) hl hj ?_ done
  · intro hm
    rcases List.mem_cons.mp hm with e | hm
    · exact absurd F.ns.lt (e ▸ Nat.lt_irrefl _)
    · exact (N _ hl).2.1 ((List.mem_singleton.mp hm).symm)
  · intro i h hs
    obtain ⟨⟨o, e, _⟩, _⟩ := hs
    exact ⟨o, e⟩
  · intro b hb hne _
    rcases List.mem_cons.mp hb with e | hb
    · exact absurd e hne
    · rw [List.mem_singleton.mp hb]
      exact ⟨_, fun nx h => h⟩
  · intro p hp e
    exact absurd (Heap.lt_size (N p hp).1) (e ▸ Nat.lt_irrefl _)
  · intro i v m₁ nx h tk oI hi hP hR hJ hoff F' N'
    exact turn i v m₁ nx h tk _ oI (by simpa using hP) hR hJ hoff F' N'
end
end
section
example : True := by w_top off; trivial
variable {prog : Program} {w : World} {b₀ : Heap} {p : Program} {loose : List Str} {mean : ExcName → Option Value} {mg mb : Str → Option Value}
abbrev Rw := List (Int × Int)
/-- the same row -/
def Same (r r' : Rw) : Prop := ∀ x, x ∈ r ↔ x ∈ r'
/-- each row's owner is the first row that is the same -/
def OwnerAt (rs : List Rw) (j : Nat) (o : Nat) : Prop := o ≤ j ∧ Same (rs.getD o []) (rs.getD j []) ∧ ∀ o', o' < o → ¬ Same (rs.getD o' []) (rs.getD j [])
def OwnersOK (rs : List Rw) (os : List Int) : Prop := os.length = rs.length ∧ ∀ j, j < rs.length → ∃ o : Nat, os[j]? = some (o : Int) ∧ OwnerAt rs j o
/-- a dict's body whose keys are tuples -/
def DictK (prog : Program) (w : World) (o : Obj) (xs : List (Rw × Addr × Value)) : Prop := ∃ es ep, o.ExactDict ∧ o.data = .dict es ep ∧ es.toList = xs.map (entryOfKey (nestKind prog w)) ∧ (xs.map (·.1)).Nodup
theorem DictK.of {h : Heap} {d : Addr} {xs : List (Rw × Addr × Value)} {o : Obj} {M : Wd} (x : DictK prog w o xs) (ho : h.get? d = some o) (hk : ∀ x ∈ xs, KeyAt M x.2.1 x.1) (hM : ∀ a o, M a o → h.get? a = some o) : h.DictOfH (nestKind prog w) d xs := by
  obtain ⟨es, ep, h1, h2, h3, h4⟩ := x
  exact ⟨o, es, ep, ho, h1, h2, h3, fun x hx => ((hk x hx).mono hM).nest, h4⟩
/-- what is known of the dict of firsts before row i -/
def FirstsOK (rs : List Rw) (xs : List (Rw × Addr × Value)) (i : Nat) : Prop :=
  (∀ x ∈ xs, ∃ j t, j < i ∧ x.2.2 = .int (j : Nat) t ∧ KeyOf (rs.getD j []) x.1 ∧ ∀ o', o' < j → ¬ Same (rs.getD o' []) (rs.getD j [])) ∧ (∀ j, j < i → ∃ x ∈ xs, KeyOf (rs.getD j []) x.1)

section
variable {A : Around} {E : Value → Shared → Prop} {s : Shared} {h₀ : Heap} {L l : Addr} {m : Str → Option Value} {ys : List Value} {n : Nat} {Q : Value → Shared → Prop}
theorem len_base (F : Fr h₀ L s.heap m) (hl : h₀.IsList l ys.toArray) (e : ys.length = n) (hn : n ≤ 1000) (h : ∀ t tk, Q (.int (n : Int) t) { s with toks := tk }) : wpAny (model prog w) A (call (.builtin "len") [.ref l]) Q E s := by
  refine len_list (F.lst hl) (by rw [List.size_toArray]; omega) ?_
  rw [List.size_toArray, e]
  exact h _ _
theorem item_base {value slice : PySem.Expr} {k : Int} {u : Tok} (F : Fr h₀ L s.heap m) (hl : h₀.IsList l ys.toArray) (e : ys.length = n) (hn : n ≤ 1000) (h0 : 0 ≤ k) (h1 : k < n) (h : ∀ v, ys[k.toNat]? = some v → Q v s)
    (hs : subscripted slice false (.ref l) (.int k u) = operate [.ref l, .int k u] (getItem (.ref l) (.int k u)) := by with_unfolding_all rfl) (hg : ∀ r, letTemporaryGo value (.ref l) r = pure () := by intro _; with_unfolding_all rfl) :
    wpAny (model prog w) A (subscriptTail value slice (.ref l) (.int k u)) Q E s := by
  have : k.toNat < ys.length := by omega
  have e2 := List.getElem?_eq_getElem this
  exact item_listL (F.lst hl) h0 (by omega) e2 (h _ e2) hs hg
end
section
variable {A : Around} {E : Value → Shared → Prop} {s : Shared} {d a : Addr} {xs : List (Rw × Addr × Value)} {k : Rw} {q : Addr × Value} {Q : Value → Shared → Prop}
theorem item_key {value slice : PySem.Expr} (hu : A.in1.units + 1 < cLine) (hkey : (nestKind prog w).is s.heap k a) (hm : s.heap.DictOfH (nestKind prog w) d xs) (hp : atKey xs k = some q) (h : ∀ tk, Q q.2 { s with toks := tk })
    (hs : subscripted slice false (.ref d) (.ref a) = operate [.ref d, .ref a] (getItem (.ref d) (.ref a)) := by with_unfolding_all rfl) (hg : ∀ r, letTemporaryGo value (.ref d) r = pure () := by intro _; with_unfolding_all rfl) :
    wpAny (model prog w) A (subscriptTail value slice (.ref d) (.ref a)) Q E s :=
  subscriptTail_builtin hm.typeIs slot_dict_getitem.lookup (wpAny_getItem_heap hu hkey hm hp (h _)) hs hg
theorem dictK_of {h : Heap} (hm : h.DictOfH (nestKind prog w) d xs) : ∃ o, h.get? d = some o ∧ DictK prog w o xs := by
  obtain ⟨o, es, ep, ho, hex, hd, hes, _, hnd⟩ := hm
  exact ⟨o, ho, es, ep, hex, hd, hes, hnd⟩
theorem keep_same {h h' : Heap} (hs : Heap.SameBut d h h') : Keep [d] h h' := fun b o e n => (hs.2 b (fun q => n (List.mem_singleton.mpr q))).trans e
theorem atKey_new {v : Value} (hn : ((xs ++ [(k, a, v)]).map (·.1)).Nodup) : atKey (xs ++ [(k, a, v)]) k = some (a, v) := atKey_of_get (i := xs.length) hn (by simp)
theorem atKey_mem (hp : atKey xs k = some q) : (k, q) ∈ xs := by
  unfold atKey at hp
  cases e : xs.find? (fun x => decide (x.1 = k)) with
  | none => rw [e] at hp; cases hp
  | some y =>
    rw [e] at hp
    have h1 := List.find?_some e
    have h2 := List.mem_of_find?_eq_some e
    have h3 : y.1 = k := of_decide_eq_true h1
    have h4 : y.2 = q := by simpa using hp
    rw [← h3, ← h4]
    exact h2
theorem atKey_absent {x : Rw × Addr × Value} (hp : atKey xs k = none) (hx : x ∈ xs) : x.1 ≠ k := fun e => by
  unfold atKey at hp
  cases e2 : xs.find? (fun x => decide (x.1 = k)) with
  | some y => rw [e2] at hp; cases hp
  | none =>
    have := List.find?_eq_none.mp e2 x hx
    rw [decide_eq_true e] at this
    exact this rfl
end
theorem firsts_new {rs : List Rw} {xs : List (Rw × Addr × Value)} {i : Nat} {k : Rw} {a : Addr} {t : Tok} (hF : FirstsOK rs xs i) (hat : atKey xs k = none) (hko : KeyOf (rs.getD i []) k) :
    FirstsOK rs (xs ++ [(k, a, Value.int (i : Int) t)]) (i + 1) ∧ OwnerAt rs i i := by
  have hno : ∀ o', o' < i → ¬ Same (rs.getD o' []) (rs.getD i []) := fun o' ho hs => by
    obtain ⟨x, hx, hk⟩ := hF.2 o' ho
    exact atKey_absent hat hx (hk.eq hko hs)
  refine ⟨⟨fun x hx => ?_, fun j hj => ?_⟩, Nat.le_refl _, fun _ => Iff.rfl, hno⟩
  · rcases List.mem_append.mp hx with hx | hx
    · obtain ⟨j, t, h1, h2⟩ := hF.1 x hx
      exact ⟨j, t, by omega, h2⟩
    · rw [List.mem_singleton.mp hx]
      exact ⟨i, t, by omega, rfl, hko, hno⟩
  · rcases Nat.lt_or_ge j i with h | h
    · obtain ⟨x, hx, hk⟩ := hF.2 j h
      exact ⟨x, List.mem_append_left _ hx, hk⟩
    · obtain rfl : j = i := by omega
      exact ⟨_, List.mem_append_right _ List.mem_cons_self, hko⟩
theorem firsts_old {rs : List Rw} {xs : List (Rw × Addr × Value)} {i : Nat} {k : Rw} {q : Addr × Value} (hF : FirstsOK rs xs i) (hat : atKey xs k = some q) (hko : KeyOf (rs.getD i []) k) :
    ∃ (o : Nat) (t : Tok), q.2 = Value.int (o : Int) t ∧ OwnerAt rs i o ∧ FirstsOK rs xs (i + 1) := by
  obtain ⟨j, t, h1, h2, h3, h4⟩ := hF.1 _ (atKey_mem hat)
  have hs : Same (rs.getD j []) (rs.getD i []) := fun x => (h3.1 x).symm.trans (hko.1 x)
  refine ⟨j, t, h2, ⟨by omega, hs, fun o' ho hs' => h4 o' ho fun x => (hs' x).trans (hs x).symm⟩, fun x hx => ?_, fun j' hj => ?_⟩
  · obtain ⟨j, t, h1, h2⟩ := hF.1 x hx
    exact ⟨j, t, by omega, h2⟩
  · rcases Nat.lt_or_ge j' i with h | h
    · exact hF.2 j' h
    · obtain rfl : j' = i := by omega
      exact ⟨_, atKey_mem hat, hko⟩
theorem owners_snoc {rs : List Rw} {os : List Int} {i o : Nat} (hol : os.length = i) (hos : ∀ j, j < i → ∃ o : Nat, os[j]? = some (o : Int) ∧ OwnerAt rs j o) (h : OwnerAt rs i o) :
    ∀ j, j < i + 1 → ∃ o' : Nat, (os ++ [(o : Int)])[j]? = some (o' : Int) ∧ OwnerAt rs j o' := fun j hj => by
  rcases Nat.lt_or_ge j i with h' | h'
  · obtain ⟨o', e, x⟩ := hos j h'
    exact ⟨o', by rw [List.getElem?_append_left (by omega)]; exact e, x⟩
  · obtain rfl : j = i := by omega
    exact ⟨o, by rw [List.getElem?_append_right (by omega), hol, Nat.sub_self]; rfl, h⟩
theorem dictK_new {o : Obj} (h : o.IsDictOf (intKind prog w) []) : DictK prog w o [] := by
  obtain ⟨es, ep, h1, h2, _, h4, _⟩ := h
  refine ⟨es, ep, h1, h2, ?_, List.nodup_nil⟩
  cases e : es.toList with
  | nil => rfl
  | cons a b => rw [e] at h4; cases h4
local macro_rules | `(tactic| walk_at "call builtin:len") => `(tactic| (k_here; k_dflt (refine' len_base (by assumption) (by assumption) (by assumption) (by omega) ?_); intro t' tk'))
local macro_rules | `(tactic| walk_at "subscriptTail") => `(tactic| (k_here; k_dflt (refine' item_base (by assumption) (by assumption) (by assumption) (by omega) (by omega) (by omega) ?_); intro v' hv'))
local macro_rules | `(tactic| walk_at "subscriptTail") => `(tactic| (k_here; (with_reducible show wpAny _ _ (subscriptTail _ _ (Value.ref _) (Value.ref _)) _ _ _); refine Stop.in ?_))
local macro_rules | `(tactic| walk_at "setItem ref ref") => `(tactic| (refine Stop.in ?_))
local macro_rules | `(tactic| walk_at "setItem ref") => `(tactic| (refine Stop.in ?_))
local macro_rules | `(tactic| walk_at "exec For Name Call cons nil") => `(tactic| (k_here; (rename Fr _ _ _ _ => lF'); (with_unfolding_all refine' For_invVF lF' ?k1 ?k2 ?_; (case k1 => exact rfl); (case k2 => exact rfl); k_whole)))
local macro_rules | `(tactic| walk_at "pyIter ref") => `(tactic| (refine Stop.in ?_))
local macro_rules | `(tactic| walk_at "call ref") => `(tactic| (refine Stop.in ?_))
theorem owners_spec (X : (hd.heap_39 w.params).In b₀) (T : Top p loose mean mg mb b₀) {dp un : Nat} {fr : Option (List Env)} {gd : Option (List Code)} {s : Shared} {l : Addr} {ys : List Value} {rs : List Rw} {Q E : Value → Shared → Prop}
    (hd : dp + 20 < recursionLimit) (hu : un + 200 < cLine) (S : b₀.StaysIn s.heap) (hl : s.heap.IsList l ys.toArray) (hR : All2 (RowAt prog w (inH s.heap)) ys rs) (hlen : rs.length ≤ 100)
    (hq : ∀ h' tk a vs n os, Keep [] s.heap h' → s.heap.get? a = none → h'.get? a = some (listOf vs.toArray n) → IntsAre vs os → OwnersOK rs os → Q (.ref a) { s with heap := h', toks := tk }) :
    wpAny (model prog w) (ar dp un fr gd) (call (.ref 136) [.ref l]) Q E s := by
  refine enterP X T S (mt := []) (fun _ h => nomatch h) (by k_is) (by k_is) (by show dp < recursionLimit; omega) (BindsTo.of_eq (binds := [("rows", .ref l)]) rfl) (locs rfl) rfl rfl rfl (by decide) ?_
  intro g L' h₁ tk₁ G F N K' T' hk₁ hL'
  have hlg : g.IsList l ys.toArray := by obtain ⟨o, ho, r⟩ := hl; exact ⟨o, G.of _ _ ho (fun h => nomatch h), r⟩
  have hRg : All2 (RowAt prog w (inH g)) ys rs := hR.mono fun _ _ q => q.mono fun a o e => G.of _ _ e (fun h => nomatch h)
  have hyl := hRg.length
  k_steps
  unfold Stop
  rename IsRange _ _ _ _ _ _ _ _ => hr
  rename_i dF hA oF lo9 hs9 fs9 hi9 fi9 ltF hB dO hC ltO hD FD ND tD tkD hE tkE tE1 tE2 tE3 FE NE KE
  refine range_G (n := rs.length) (J := fun i m nx => ∃ (oF' : Obj) (vs : List Value) (n : Nat) (os : List Int) (xs : List (Rw × Addr × Value)) (new : List (Addr × Obj)) (ok on : Option Value), nx = (dO, W.listOf vs.toArray n) :: (dF, oF') :: new ∧
    m = (fun y => if y = Str.ofString "key" then ok else if y = Str.ofString "number" then on else if y = Str.ofString "owners" then some (Value.ref dO) else if y = Str.ofString "firsts" then some (Value.ref dF) else List.lookup y [(Str.ofString "rows", Value.ref l)].reverse) ∧
    IntsAre vs os ∧ os.length = i ∧ (∀ j, j < i → ∃ o : Nat, os[j]? = some (o : Int) ∧ OwnerAt rs j o) ∧ DictK prog w oF' xs ∧ (∀ x ∈ xs, KeyAt (inL new) x.2.1 x.1) ∧ FirstsOK rs xs i ∧ xs.length ≤ i ∧ (∀ p ∈ new, @Ne Nat p.1 dO) ∧ (∀ p ∈ new, @Ne Nat p.1 dF))
    (by rfl) hr (range_sm (by omega) (by omega)) (by rw [range_sz (by omega)]; simp) FE NE ?start ?turn ?done
  case start =>
    refine ⟨oF, [], 0, [], [], [], none, none, rfl, ?_, .nil, rfl, by simp, ?_, by simp, ⟨by simp, by simp⟩, by simp, by simp, by simp⟩
    · funext y
      by_cases h1 : y = Str.ofString "key"
      · subst h1; rfl
      · by_cases h2 : y = Str.ofString "number"
        · subst h2; rfl
        · simp only [if_neg h1, if_neg h2]
    · exact dictK_new hi9
  case turn =>
    rintro i t m₁ nx h tk I oI hi ⟨oF', vs, n, os, xs, new, ok, on, rfl, rfl, hI, hol, hos, hD, hK, hFO, hxl, n1, n2⟩ hoff F9 N9
    have ne1 : @Ne Nat dO I := hoff _ List.mem_cons_self
    have ne2 : @Ne Nat dF I := hoff _ (List.mem_cons_of_mem _ List.mem_cons_self)
    have ne3 : ∀ p ∈ new, @Ne Nat p.1 I := fun p hp => hoff p (List.mem_cons_of_mem _ (List.mem_cons_of_mem _ hp))
    k_steps
    unfold Stop
    rename_i v9 hv9
    obtain ⟨r, hr9, d, o, rfl, hdo, lod, hRO, hRI⟩ := hRg.get _ _ hv9
    refine row_key_spec K' T' (by dsimp only [ar, Around.deeper]; first | exact room1 hd (by decide) | exact room0 hd (by decide) | omega) (by dsimp only [ar, Around.deeper]; first | exact room0 hu (by decide) | omega) F9.keep (F9.keep _ _ hdo) lod hRO hRI fun h2 tk2 a k new2 K2 n3' hk hko => ?_
    have F10 := fr_keep F9 K2 (by simp) (by simp)
    have fr2 : ∀ {b o}, (b, o) ∈ (I, oI) :: (dO, W.listOf vs.toArray n) :: (dF, oF') :: new → ∀ p ∈ new2, @Ne Nat p.1 b := fun hb p hp e => by
      have := (n3' p hp).2
      rw [show p.1 = _ from e, (N9 _ hb).1] at this
      cases this
    have N10 : News g L' h2 ((I, oI) :: (dO, W.listOf vs.toArray n) :: (dF, oF') :: (new ++ new2)) := news_app (news_keep N9 K2 (by simp)) (news_fresh F9 n3')
    replace hK : ∀ x ∈ xs, KeyAt (inL (new ++ new2)) x.2.1 x.1 := fun x hx => (hK x hx).mono fun a o m => List.mem_append_left _ m
    replace hk : KeyAt (inL (new ++ new2)) a k := hk.mono fun a o m => List.mem_append_right _ m
    replace n1 : ∀ p ∈ new ++ new2, @Ne Nat p.1 dO := fun p hp => (List.mem_append.mp hp).elim (n1 p) (fr2 (List.mem_cons_of_mem _ List.mem_cons_self) p)
    replace n2 : ∀ p ∈ new ++ new2, @Ne Nat p.1 dF := fun p hp => (List.mem_append.mp hp).elim (n2 p) (fr2 (List.mem_cons_of_mem _ (List.mem_cons_of_mem _ List.mem_cons_self)) p)
    replace ne3 : ∀ p ∈ new ++ new2, @Ne Nat p.1 I := fun p hp => (List.mem_append.mp hp).elim (ne3 p) (fr2 List.mem_cons_self p)
    generalize new ++ new2 = nw at *
    clear fr2 hoff
    k_steps
    rename_i h3 F11 N11
    have hDH := hD.of (N11.get (by k_mem)) hK (fun a o m => N11.get (by exact List.mem_cons_of_mem _ (List.mem_cons_of_mem _ (List.mem_cons_of_mem _ m))))
    have hkH : (nestKind prog w).is h3 k a := (hk.mono fun a o m => N11.get (by exact List.mem_cons_of_mem _ (List.mem_cons_of_mem _ (List.mem_cons_of_mem _ m)))).nest
    refine wpAny_notIn_heap (by show _ + 1 < cLine; dsimp only [ar, Around.deeper]; omega) hkH lo9 hDH ?_
    have hri : rs.getD i [] = r := by rw [List.getD_eq_getElem?_getD, show i = (i : Int).toNat from (Int.toNat_natCast i).symm, hr9]; rfl
    cases hat : atKey xs k with
    | none =>
      simp only [Option.isSome_none, Bool.not_false]
      k_steps
      unfold Stop
      refine wpAny_setItem_heap (knd := nestKind prog w) (by show _ + 1 < cLine; dsimp only [ar, Around.deeper]; omega) hkH hDH (fun h4 hDH4 hs4 => ?_) (by rw [sizeLine_eq]; omega)
      rw [storedH_new hat] at hDH4
      obtain ⟨o4, ho4, hD4⟩ := dictK_of hDH4
      have K4 := keep_same hs4
      have zF := N11 (dF, oF') (by k_mem)
      have F12 := fr_keep F11 K4 (by intro q; exact zF.2.1 (List.mem_singleton.mp q).symm) (by intro b hb; rw [List.mem_singleton.mp hb]; exact zF.2.2)
      have N12 : News g L' h4 ((dF, o4) :: (I, oI) :: (dO, W.listOf vs.toArray n) :: nw) := news_cons ho4 zF.2.1 zF.2.2 (news_keep (news_sub N11 (by lcg_sub)) K4 (by
        have ne0 : @Ne Nat dO dF := Nat.ne_of_gt ltO
        intro p hp hm
        have hm := List.mem_singleton.mp hm
        rcases List.mem_cons.mp hp with rfl | hp
        · exact ne2 hm.symm
        · rcases List.mem_cons.mp hp with rfl | hp
          · exact ne0 hm
          · exact n2 p hp hm))
      clear F11 N11
      k_steps
      unfold Stop
      have hkH4 : (nestKind prog w).is h4 k a := (hk.mono fun a o m => N12.get (by exact List.mem_cons_of_mem _ (List.mem_cons_of_mem _ (List.mem_cons_of_mem _ m)))).nest
      obtain ⟨_, _, _, _, _, hnd4⟩ := id hD4
      have hszv : vs.toArray.size ≤ sizeLine := by rw [List.size_toArray, hI.length, sizeLine_eq]; omega
      have ne0 : @Ne Nat dF dO := Nat.ne_of_lt ltO
      refine item_key (by dsimp only [ar, Around.deeper]; omega) hkH4 hDH4 (atKey_new hnd4) fun tk5 => ?_
      k_steps
      rename_i h6 F14 N14
      obtain ⟨hF', hO'⟩ := firsts_new (a := a) (t := t) hFO hat (hri ▸ hko)
      refine TEnd.intro ((dO, _) :: (dF, o4) :: nw) F14 N14 (by lcg_sub) ?_ ⟨o4, vs ++ [Value.int (i : Int) t], n + 1, os ++ [(i : Int)], _, nw, some (Value.ref a), some (Value.int (i : Int) t), ?_, ?_, IntsAre.append hI (.cons _ _ .nil), by simp [hol], owners_snoc hol hos hO', hD4, ?_, hF', by simp; omega, n1, n2⟩
      · exact allNe_cons ne1 (allNe_cons ne2 ne3)
      · rw [List.push_toArray]
      · funext y
        by_cases h1 : y = Str.ofString "key"
        · simp only [if_pos h1]
        · by_cases h2 : y = Str.ofString "number"
          · simp only [if_neg h1, if_pos h2]
          · simp only [if_neg h1, if_neg h2]
      · intro x hx
        rcases List.mem_append.mp hx with hx | hx
        · exact hK x hx
        · rw [List.mem_singleton.mp hx]; exact hk
    | some q =>
      obtain ⟨o9, t9, hq9, hO9, hF9⟩ := firsts_old hFO hat (hri ▸ hko)
      simp only [Option.isSome_some, Bool.not_true]
      have hszv : vs.toArray.size ≤ sizeLine := by rw [List.size_toArray, hI.length, sizeLine_eq]; omega
      have ne0 : @Ne Nat dF dO := Nat.ne_of_lt ltO
      k_steps
      unfold Stop
      refine item_key (by dsimp only [ar, Around.deeper]; omega) hkH hDH hat fun tk5 => ?_
      rw [hq9]
      k_steps
      rename_i h6 F14 N14
      refine TEnd.intro ((dO, _) :: (dF, oF') :: nw) F14 N14 (by lcg_sub) ?_ ⟨oF', vs ++ [Value.int (o9 : Int) t9], n + 1, os ++ [(o9 : Int)], xs, nw, some (Value.ref a), some (Value.int (i : Int) t), ?_, ?_, IntsAre.append hI (.cons _ _ .nil), by simp [hol], owners_snoc hol hos hO9, hD, hK, hF9, by omega, n1, n2⟩
      · exact allNe_cons ne1 (allNe_cons ne2 ne3)
      · rw [List.push_toArray]
      · funext y
        by_cases h1 : y = Str.ofString "key"
        · simp only [if_pos h1]
        · by_cases h2 : y = Str.ofString "number"
          · simp only [if_neg h1, if_pos h2]
          · simp only [if_neg h1, if_neg h2]
  case done =>
    rintro m₁ nx h tk ⟨oF', vs, n, os, xs, new, ok, on, rfl, rfl, hI, hol, hos, hD, hK, hFO, hxl, n1, n2⟩ F9 N9
    k_steps
    exact hq _ _ _ vs n os (keep_of G (by assumption)) (G.fresh (News.fresh (by assumption) List.mem_cons_self) (fun h => nomatch h)) (News.get (by assumption) List.mem_cons_self) hI ⟨hol, hos⟩
end
section
example : True := by w_top off; trivial
/-- what holds at every end of a tree of questions -/
def allEnds {α : Type} (n : Nat) (P : α → Bool) : KasT α → Bool
  | .ret a => P a
  | .ask i j k => decide (i < n) && decide (j < n) && allEnds n P (k true) && allEnds n P (k false)
theorem kasWp_all {α : Type} {n : Nat} {P : α → Bool} {cmp : Nat → Nat → (Bool → Shared → Prop) → Shared → Prop} {Q : α → Shared → Prop} {s : Shared} (hask : ∀ i j (C : Bool → Shared → Prop), i < n → j < n → (∀ b, C b s) → cmp i j C s)
    (hQ : ∀ a, P a = true → Q a s) : ∀ t : KasT α, allEnds n P t = true → t.kasWp cmp Q s
  | .ret a, h => hQ a h
  | .ask i j k, h => by
    simp only [allEnds, Bool.and_eq_true, decide_eq_true_eq] at h
    obtain ⟨⟨⟨h1, h2⟩, h3⟩, h4⟩ := h
    refine hask i j _ h1 h2 fun b => ?_
    cases b with
    | true => exact kasWp_all hask hQ (k true) h3
    | false => exact kasWp_all hask hQ (k false) h4
theorem ends2 : allEnds 2 (fun p : Array Nat => p.toList.isPerm (List.range 2)) (kas_sort 2) = true := by decide +kernel
theorem ends3 : allEnds 3 (fun p : Array Nat => p.toList.isPerm (List.range 3)) (kas_sort 3) = true := by decide +kernel
theorem range_getD (ys : List Value) : (List.range ys.length).map (fun i => ys.getD i Value.none) = ys := by
  refine List.ext_getElem (by simp) fun i h1 h2 => ?_
  simp [h2]
section
variable {prog : Program} {w : World} {A : Around} {E : Value → Shared → Prop} {s : Shared} {h₀ : Heap} {L l : Addr} {m : Str → Option Value} {news : List (Addr × Obj)} {ys : List Value} {kvs : List (Int × Int)} {Q : Value → Shared → Prop}
theorem pair_lt {i j : Nat} {C : Bool → Shared → Prop} (hA : All2 (PairAt (inH s.heap)) ys kvs) (hi : i < ys.length) (hj : j < ys.length) (hC : ∀ b, C b s) : kas_ask prog w A (tuples' true) ys i j C s := by
  unfold kas_ask
  obtain ⟨kv, e1, a, tk, tv, n, e2, ha⟩ := hA.get i _ (List.getElem?_eq_getElem hi)
  obtain ⟨kv', e1', a', tk', tv', n', e2', ha'⟩ := hA.get j _ (List.getElem?_eq_getElem hj)
  rw [show ys.getD i Value.none = ys[i] by simp [hi], show ys.getD j Value.none = ys[j] by simp [hj], e2, e2']
  refine kat_lt ha rfl ha' rfl ?_
  show KatLex prog w A true _ C [(Value.int kv.1 tk, Value.int kv'.1 tk'), (Value.int kv.2 tv, Value.int kv'.2 tv')] 0 s
  refine kat_cons (wpAny_eqBool_int ?_)
  refine kat_go (fun _ => kat_yes (kat_cons (wpAny_eqBool_int ?_))) (fun _ => kat_no (oneLt_int (hC _)))
  refine kat_go (fun _ => kat_yes (kat_nil (hC _))) (fun _ => kat_no ?_)
  exact kat_one _ _ (lt_int (hC _))
theorem tups_of (hA : All2 (PairAt (inH s.heap)) ys kvs) : ∃ fs, KatTups s.heap ys fs ∧ fs.length = ys.length ∧ ∀ f ∈ fs, ∃ i t, f = Value.int i t := by
  induction hA with
  | nil => exact ⟨[], .nil, rfl, by simp⟩
  | cons h _ ih =>
    obtain ⟨fs, h1, h2, h3⟩ := ih
    obtain ⟨a, tk, tv, n, rfl, ha⟩ := h
    refine ⟨_ :: fs, KatTups.cons ha rfl rfl (by rfl) h1, by simp [h2], fun f hf => ?_⟩
    rcases List.mem_cons.mp hf with rfl | hf
    · exact ⟨_, _, rfl⟩
    · exact h3 f hf
/-- fewer than two items: as they stand -/
theorem sort_short {a : Addr} {vs : List Value} {n : Nat} {P : PySem.Fin → Shared → Prop} (ho : s.heap.get? a = some (seqObj "list" vs.toArray n)) (h2 : vs.length < 2)
    (h : ∀ out : Array Value, out.toList = vs → P (.done (.ret .none)) { s with heap := sortedHeap s.heap a vs out }) :
    wpAny (model prog w) A (Builtin.«list.sort» ⟨[.ref a], []⟩) P E s := by
  rw [list_sort_plain]
  have ha : a < s.heap.objs.size := Heap.lt_size ho
  refine wpAny_bind (listItems_at ho rfl ?_)
  refine wpAny_bind (listUpdate_at ho rfl ?_)
  obtain ⟨e1, ho1⟩ : ∃ e1, (s.heap.update a (Obj.mapSeq fun _ => #[])).get? a = some (seqObj "list" #[] e1) := ⟨_, get?_update_seq ho (fun _ => #[])⟩
  refine wpAny_bind (seqEpoch_at ho1 rfl ?_)
  refine wpAny_bind (wpAny_newTuple ?_)
  refine wpAny_bind (wpAny_newList ?_)
  refine wpAny_holding ?_
  have ho6 : (((s.heap.update a (Obj.mapSeq fun _ => #[])).push (seqObj "tuple" vs.toArray 0)).push (seqObj "list" #[] 0)).get? a = some (seqObj "list" #[] e1) := by
    rw [Heap.get?_push_ne _ _ _ (by rw [size_push', Heap.size_update]; exact Nat.ne_of_lt (Nat.lt_succ_of_lt ha)), Heap.get?_push_ne _ _ _ (by rw [Heap.size_update]; exact Nat.ne_of_lt ha)]
    exact ho1
  show wpAny (model prog w) A _ P E { s with heap := ((s.heap.update a (Obj.mapSeq fun _ => #[])).push (seqObj "tuple" vs.toArray 0)).push (seqObj "list" #[] 0) }
  dsimp only
  have h3 : vs.toArray.size < 2 := by simpa using h2
  rw [if_pos h3, if_pos h3]
  refine wpAny_bind (wpAny_pure ?_)
  rw [StateT.run_pure]
  refine wpAny_bind (wpAny_pure ?_)
  dsimp only
  refine wpAny_bind (seqEpoch_at ho6 rfl ?_)
  refine wpAny_bind (listUpdate_at ho6 rfl ?_ (hsz2 := by rw [Array.size_map]; show (pairsOf vs).size ≤ _; rw [pairsOf_size, sizeLine_eq]; omega))
  simp only [bne_self_eq_false, Bool.false_eq_true, if_false]
  refine wpAny_pure (h ((pairsOf vs).map (fun x : Value × Value => x.2)) ?_)
  clear h ho ho1 ho6
  unfold pairsOf
  match vs, h2 with
  | [], _ => simp
  | [v], _ => simp
  | _ :: _ :: _, h2 => simp at h2; omega

theorem sorted_pairs {n : Nat} (F : Fr h₀ L s.heap m) (N : News h₀ L s.heap news) (hm : (l, listOf ys.toArray n) ∈ news) (hA : All2 (PairAt (inL news)) ys kvs) (hlen : ys.length ≤ 3)
    (h : ∀ (D : Addr) (h' : Heap) (vs : List Value) (e : Nat), Fr h₀ L h' m → News h₀ L h' ((D, listOf vs.toArray e) :: news) → (∀ q ∈ news, q.1 < D) → vs.Perm ys → Q (.ref D) { s with heap := h' }) :
    wpAny (model prog w) A (call (.builtin "sorted") [.ref l]) Q E s := by
  have hl := N.isList hm
  rcases Nat.lt_or_ge ys.length 2 with h2 | h2
  · refine Calls.call_function_entry kind_sorted plain_sorted entry_sorted (args_sorted1 _) ?_
    unfold Builtin.«sorted»
    refine wpAny_bind (m := checkCount "sorted" 1 1 _) (wpAny_pure ?_)
    refine wpAny_bind (collect_list hl ?_)
    refine wpAny_bind (wpAny_newList ?_)
    have hsz : ((s.heap.push (seqObj "list" #[] 0)).update s.heap.objs.size (Obj.mapSeq (· ++ ys.toArray))).objs.size = s.heap.objs.size + 1 := by
      rw [Heap.size_update, size_push']
    have hoL : (((s.heap.push (seqObj "list" #[] 0)).update s.heap.objs.size (Obj.mapSeq (· ++ ys.toArray))).push (seqObj "list" ys.toArray 0)).get? (s.heap.objs.size + 1) = some (seqObj "list" ys.toArray 0) := by
      rw [← hsz]; exact Heap.get?_push_size _ rfl
    show wpAny _ _ _ _ _ { s with heap := ((s.heap.push (seqObj "list" #[] 0)).update s.heap.objs.size (Obj.mapSeq (· ++ ys.toArray))).push (seqObj "list" ys.toArray 0) }
    rw [hsz]
    refine wpAny_bind (wpAny_holding (wpAny_call_entry slot_list_sort ⟨_, hoL, rfl⟩ entry_list_sort (sort_short hoL h2 fun out ho => ⟨_, rfl, ?_⟩) (args_list_sort _)))
    obtain ⟨e, he⟩ := sortedAll_at s.heap ys out
    refine wpAny_pure ⟨_, rfl, h _ _ out.toList e (F.kept fun _ _ => sortedAll_old) (N.kept_cons F (fun _ _ => sortedAll_old) (Nat.le_succ _) ?_) (fun q hq => Nat.lt_succ_of_lt (Heap.lt_size (N q hq).1)) (ho ▸ List.Perm.refl _)⟩
    exact he
  · refine kat_sorted F N hl h2 (by omega) fun D e1 h' F' N' lt => ?_
    have hA' : All2 (PairAt (inH h')) ys kvs := hA.mono fun _ _ q => q.mono fun a o e => N'.get (List.mem_cons_of_mem _ e)
    obtain ⟨fs, t1, t2, t3⟩ := tups_of (s := { s with heap := h' }) hA'
    refine kat_kind (T := .type "int") t1 (by omega) (fun f hf => ?_) (by decide) ?_
    · obtain ⟨i, t, rfl⟩ := t3 f hf
      intro A Q E s k q
      exact wpAny_typeOf (typeIs_int s i t) q
    · have fin : ∀ p : Array Nat, p.toList.isPerm (List.range ys.length) = true → KasFin h₀ L m D e1 (p.toList.map fun i => ys.getD i Value.none) (fun s3 => Q (.ref D) s3) { s with heap := h' } := fun p hp => by
        have hp' : (p.toList.map fun i => ys.getD i Value.none).Perm ys := by
          have := (List.isPerm_iff.mp hp).map fun i => ys.getD i Value.none
          rwa [range_getD] at this
        exact KasFin.intro F' N' (.head fun q hq => Nat.ne_of_lt (lt q hq)) fun h'' c F'' N'' => h D h'' _ c F'' N'' lt hp'
      have hn : ys.length = 2 ∨ ys.length = 3 := by omega
      rcases hn with hn | hn
      · refine kasWp_all (n := ys.length) (P := fun p => p.toList.isPerm (List.range ys.length)) (fun i j C hi hj hC => pair_lt hA' hi hj hC) fin _ ?_
        rw [hn]; exact ends2
      · refine kasWp_all (n := ys.length) (P := fun p => p.toList.isPerm (List.range ys.length)) (fun i j C hi hj hC => pair_lt hA' hi hj hC) fin _ ?_
        rw [hn]; exact ends3
end
end
section
example : True := by w_top off; trivial
local macro_rules | `(tactic| walk_at "none of these 0") => `(tactic| skip)
variable {prog : Program} {w : World} {b₀ : Heap} {p : Program} {loose : List Str} {mean : ExcName → Option Value} {mg mb : Str → Option Value}
/-- the rows that are packed -/
def sel (rs : List Rw) (os : List Int) (n : Nat) : List Nat := (List.range n).filter fun j => decide (os.getD j 0 = (j : Int)) && decide (0 < (rs.getD j []).length)
theorem sel_succ (rs : List Rw) (os : List Int) (n : Nat) : sel rs os (n + 1) = sel rs os n ++ (if os.getD n 0 = (n : Int) ∧ 0 < (rs.getD n []).length then [n] else []) := by
  unfold sel
  rw [List.range_succ, List.filter_append]
  congr 1
  by_cases h : os.getD n 0 = (n : Int) ∧ 0 < (rs.getD n []).length
  · rw [if_pos h, List.filter_cons_of_pos (by rw [Bool.and_eq_true, decide_eq_true_eq, decide_eq_true_eq]; exact h)]
    rfl
  · rw [if_neg h, List.filter_cons_of_neg (by rw [Bool.and_eq_true, decide_eq_true_eq, decide_eq_true_eq]; exact h)]
    rfl
theorem two_ite {x : Str} {v on : Option Value} {f : Str → Option Value} : (fun y => if y = x then v else (fun y => if y = x then on else f y) y) = fun y => if y = x then v else f y := by
  funext y
  by_cases h : y = x
  · simp only [if_pos h]
  · simp only [if_neg h]
theorem sel_len (rs : List Rw) (os : List Int) (i : Nat) : (sel rs os i).length ≤ i := by
  have := List.length_filter_le (fun j => decide (os.getD j 0 = (j : Int)) && decide (0 < (rs.getD j []).length)) (List.range i)
  rw [List.length_range] at this
  exact this
theorem All2.perm {α β : Type} {R : α → β → Prop} {l l' : List α} (p : l'.Perm l) : ∀ {r : List β}, All2 R l r → ∃ r', All2 R l' r' ∧ r'.Perm r := by
  induction p with
  | nil => intro r h; exact ⟨r, h, .refl _⟩
  | cons x _ ih =>
    intro r h
    cases h with
    | cons h t =>
      obtain ⟨r', h1, h2⟩ := ih t
      exact ⟨_ :: r', .cons h h1, h2.cons _⟩
  | swap x y l =>
    intro r h
    cases h with
    | cons h t =>
      cases t with
      | cons h' t => exact ⟨_, .cons h' (.cons h t), .swap ..⟩
  | trans _ _ ih1 ih2 =>
    intro r h
    obtain ⟨r', h1, h2⟩ := ih2 h
    obtain ⟨r'', h3, h4⟩ := ih1 h1
    exact ⟨r'', h3, h4.trans h2⟩
section
variable {A : Around} {E : Value → Shared → Prop} {s : Shared} {h₀ : Heap} {L l d : Addr} {m : Str → Option Value} {vs : List Value} {ns : List Int} {n : Nat} {o : Obj} {r : Rw} {Q : Value → Shared → Prop}
theorem item_known {value slice : PySem.Expr} {k : Int} {u : Tok} {v : Value} (F : Fr h₀ L s.heap m) (hl : h₀.IsList l vs.toArray) (hv : vs[k.toNat]? = some v) (h0 : 0 ≤ k) (h1 : k ≤ 1000) (h : Q v s)
    (hs : subscripted slice false (.ref l) (.int k u) = operate [.ref l, .int k u] (getItem (.ref l) (.int k u)) := by with_unfolding_all rfl) (hg : ∀ r, letTemporaryGo value (.ref l) r = pure () := by intro _; with_unfolding_all rfl) :
    wpAny (model prog w) A (subscriptTail value slice (.ref l) (.int k u)) Q E s := item_listL (F.lst hl) h0 (by omega) hv h hs hg
theorem item_pair1 {value slice : PySem.Expr} {x y : Value} {a : Addr} {u : Tok} (ht : s.heap.get? a = some (tupOf [x, y] n)) (h : Q y s)
    (hs : subscripted slice false (.ref a) (.int 1 u) = operate [.ref a, .int 1 u] (getItem (.ref a) (.int 1 u)) := by with_unfolding_all rfl) (hg : ∀ r, letTemporaryGo value (.ref a) r = pure () := by intro _; with_unfolding_all rfl) :
    wpAny (model prog w) A (subscriptTail value slice (.ref a) (.int 1 u)) Q E s := item_tupleL (l := [x, y]) (j := 1) ⟨_, ht, rfl, _, rfl⟩ (by decide) (by decide) (by rfl) rfl h hs hg
theorem len_row (F : Fr h₀ L s.heap m) (hd : h₀.get? d = some o) (lo : (d == sysModules) = false) (hR : RowO prog w o r) (hI : RowI r) (h : ∀ t tk, Q (.int (r.length : Int) t) { s with toks := tk }) : wpAny (model prog w) A (call (.builtin "len") [.ref d]) Q E s := by
  obtain ⟨kvs, hk, hv⟩ := hR
  have hD : s.heap.DictOf (intKind prog w) d kvs := Heap.dictOf_iff.mpr ⟨o, F.keep _ _ hd, hk⟩
  have hl := hv.length
  have := hI.2.2
  refine call_len_dict lo hD (by omega) ?_
  rw [hl]
  exact h _ _
end
local macro_rules | `(tactic| walk_at "call builtin:len") => `(tactic| (k_here; first | (k_dflt (refine' len_base (by assumption) (by assumption) (by assumption) (by omega) ?_); intro t' tk') | (k_dflt (refine' len_row (by assumption) (by assumption) (by assumption) (by assumption) (by assumption) ?_); intro t' tk') | refine Stop.in ?_))
local macro_rules | `(tactic| walk_at "subscriptTail") => `(tactic| (k_here; k_dflt (refine' item_known (by assumption) (by assumption) (by assumption) (by omega) (by omega) ?_)))
local macro_rules | `(tactic| walk_at "subscriptTail") => `(tactic| (k_here; (with_reducible show wpAny _ _ (subscriptTail _ _ (Value.ref _) (Value.int 1 _)) _ _ _); k_dflt (refine' item_pair1 (by assumption) ?_)))
local macro_rules | `(tactic| walk_at "exec For Name Call cons nil") => `(tactic| (k_here; (rename Fr _ _ _ _ => lF'); (with_unfolding_all refine' For_invVF lF' ?k1 ?k2 ?_; (case k1 => exact rfl); (case k2 => exact rfl); k_whole)))
local macro_rules | `(tactic| walk_at "pyIter ref") => `(tactic| (refine Stop.in ?_))
local macro_rules | `(tactic| walk_at "call builtin:sorted") => `(tactic| (refine Stop.in ?_))
local macro_rules | `(tactic| walk_at "CompSrc") => `(tactic| refine Stop.in ?_)
local macro_rules | `(tactic| walk_at "eval ListComp") => `(tactic| (k_here; k_dflt (refine LCg.ListComp_U (F₀ := by k_asm) (by with_unfolding_all rfl) (by decide) (by rfl) (by decide) (by rfl) ?_)))
theorem order_spec (X : (hd.heap_39 w.params).In b₀) (T : Top p loose mean mg mb b₀) {dp un : Nat} {fr : Option (List Env)} {gd : Option (List Code)} {s : Shared} {l lo : Addr} {ys vo : List Value} {rs : List Rw} {os : List Int} {Q E : Value → Shared → Prop}
    (hd : dp + 20 < recursionLimit) (hu : un + 200 < cLine) (S : b₀.StaysIn s.heap) (hl : s.heap.IsList l ys.toArray) (hR : All2 (RowAt prog w (inH s.heap)) ys rs) (hlen : rs.length ≤ 3) (hlo : s.heap.IsList lo vo.toArray) (hI : IntsAre vo os) (hol : os.length = rs.length)
    (hq : ∀ h' tk a vs n ns, Keep [] s.heap h' → s.heap.get? a = none → h'.get? a = some (listOf vs.toArray n) → IntsAre vs ns → ns.Perm ((sel rs os rs.length).map Int.ofNat) → Q (.ref a) { s with heap := h', toks := tk }) :
    wpAny (model prog w) (ar dp un fr gd) (call (.ref 141) [.ref l, .ref lo]) Q E s := by
  refine enterP X T S (mt := []) (fun _ h => nomatch h) (by k_is) (by k_is) (by show dp < recursionLimit; omega) (BindsTo.of_eq (binds := [("rows", .ref l), ("owners", .ref lo)]) rfl) (locs rfl) rfl rfl rfl (by decide) ?_
  intro g L' h₁ tk₁ G F N K' T' hk₁ hL'
  have hlg : g.IsList l ys.toArray := by obtain ⟨o, ho, r⟩ := hl; exact ⟨o, G.of _ _ ho (fun h => nomatch h), r⟩
  have hlog : g.IsList lo vo.toArray := by obtain ⟨o, ho, r⟩ := hlo; exact ⟨o, G.of _ _ ho (fun h => nomatch h), r⟩
  have hRg : All2 (RowAt prog w (inH g)) ys rs := hR.mono fun _ _ q => q.mono fun a o e => G.of _ _ e (fun h => nomatch h)
  have hyl := hRg.length
  replace hlen : Stop (rs.length ≤ 3) ∧ rs.length ≤ 100 := ⟨hlen, by omega⟩
  obtain ⟨hlen3, hlen⟩ := hlen
  k_steps
  unfold Stop
  rename IsRange _ _ _ _ _ _ _ _ => hr
  rename_i dK hA ltA hB FB NB tB tkB hE tkE tE1 tE2 tE3 FE NE KE
  refine range_G (n := rs.length) (J := fun i m nx => ∃ (zs : List Value) (n : Nat) (kvs : List (Int × Int)) (new : List (Addr × Obj)) (on : Option Value), nx = (dK, W.listOf zs.toArray n) :: new ∧
    m = (fun y => if y = Str.ofString "number" then on else if y = Str.ofString "keyed" then some (Value.ref dK) else List.lookup y [(Str.ofString "rows", Value.ref l), (Str.ofString "owners", Value.ref lo)].reverse) ∧
    All2 (PairAt (inL new)) zs kvs ∧ kvs.map (·.2) = (sel rs os i).map Int.ofNat ∧ (∀ p ∈ new, @Ne Nat p.1 dK))
    (by rfl) hr (range_sm (by omega) (by omega)) (by rw [range_sz (by omega)]; simp) FE NE ?start ?turn ?done
  case start =>
    refine ⟨[], 0, [], [], none, rfl, ?_, .nil, rfl, by simp⟩
    funext y
    by_cases h1 : y = Str.ofString "number"
    · subst h1; rfl
    · simp only [if_neg h1]
  case turn =>
    rintro i t m₁ nx h tk I oI hi ⟨zs, n, kvs, new, on, rfl, rfl, hA, hkv, n1⟩ hoff F9 N9
    have ne1 : @Ne Nat dK I := hoff _ List.mem_cons_self
    have ne3 : ∀ p ∈ new, @Ne Nat p.1 I := fun p hp => hoff p (List.mem_cons_of_mem _ hp)
    have hzl := hA.length
    have hkl : kvs.length ≤ 100 := by
      have := congrArg List.length hkv
      have h2 := sel_len rs os i
      rw [List.length_map, List.length_map] at this
      omega
    have hszv : zs.toArray.size ≤ sizeLine := by rw [List.size_toArray, sizeLine_eq]; omega
    obtain ⟨v9, hv9⟩ : ∃ v, ys[(i : Int).toNat]? = some v := ⟨_, List.getElem?_eq_getElem (by rw [Int.toNat_natCast]; omega)⟩
    obtain ⟨r, hr9, d, o, rfl, hdo, lod, hRO, hRI⟩ := hRg.get _ _ hv9
    replace hdo : g.get? d = some o := hdo
    have hri : rs.getD i [] = r := by rw [List.getD_eq_getElem?_getD, show i = (i : Int).toNat from (Int.toNat_natCast i).symm, hr9]; rfl
    have hit : (i : Int).toNat = i := Int.toNat_natCast i
    k_steps
    · rename_i t7 h7 t8 tk8 h8 tk9 t10 tk10 D7 h9 l9 h10 F10 N10
      rw [hit] at h7
      refine TEnd.intro ((dK, _) :: (_, _) :: new) F10 N10 (by lcg_sub) ?_ ⟨zs ++ [Value.ref D7], n + 1, kvs ++ [(-(r.length : Int), (i : Int))], (D7, tupOf [Value.int (-(r.length : Int)) tk10, Value.int (i : Int) t] 0) :: new, some (Value.int (i : Int) t), ?_, two_ite, (hA.mono fun _ _ q => q.mono fun a o z => List.mem_cons_of_mem _ z).snoc ⟨D7, _, _, 0, rfl, List.mem_cons_self⟩, ?_, allNe_cons (by k_ne) n1⟩
      · exact allNe_cons ne1 (allNe_cons (by k_ne) ne3)
      · rw [List.push_toArray]
      · rw [sel_succ, if_pos ⟨h7, by rw [hri]; omega⟩, List.map_append, List.map_append, hkv]; rfl
    · rename_i t7 h7 t8 tk8 h8 tk9
      refine TEnd.intro ((dK, _) :: new) F9 N9 (by lcg_sub) (allNe_cons ne1 ne3) ⟨zs, n, kvs, new, some (Value.int (i : Int) t), rfl, two_ite, hA, ?_, n1⟩
      rw [sel_succ, if_neg (fun q => by rw [hri] at q; omega), List.append_nil, hkv]
    · rename_i t7 h7
      rw [hit] at h7
      refine TEnd.intro ((dK, _) :: new) F9 N9 (by lcg_sub) (allNe_cons ne1 ne3) ⟨zs, n, kvs, new, some (Value.int (i : Int) t), rfl, two_ite, hA, ?_, n1⟩
      rw [sel_succ, if_neg (fun q => h7 q.1), List.append_nil, hkv]
  case done =>
    rintro m₁ nx h tk ⟨zs, n, kvs, new, on, rfl, rfl, hA, hkv, n1⟩ F9 N9
    have hzl := hA.length
    have hkl := congrArg List.length hkv
    have h2 := sel_len rs os rs.length
    rw [List.length_map, List.length_map] at hkl
    replace hlen3 : rs.length ≤ 3 := hlen3
    k_steps
    unfold Stop
    refine sorted_pairs F9 N9 List.mem_cons_self (hA.mono fun _ _ q => q.mono fun a o z => List.mem_cons_of_mem _ z) (by omega) fun D h3 vs e3 F3 N3 l3 hperm => ?_
    obtain ⟨kvs', hA', hperm'⟩ := hA.perm hperm
    have hvl := hA'.length
    have hvl2 := hperm'.length_eq
    k_steps
    unfold Stop
    refine LCg.CompSrc.ledger (k := _) (by rfl) F3 N3 List.mem_cons_self (by rw [sizeLine_eq, List.size_toArray]; omega) ?_
    intro gh
    refine compRest_inv (Inv := fun i ys news => news = (D, W.listOf vs.toArray e3) :: (dK, W.listOf zs.toArray n) :: new ∧ IntsAre ys ((List.take i kvs').map (·.2))) ?step ?fin _ 0 [] _ (Nat.zero_add _) ⟨rfl, .nil⟩
    case step =>
      rintro i ys news v I oI C oC D2 m₂ h tk E' hi ⟨rfl, hA2⟩ hv hC hx F2 N2 off ne
      obtain ⟨ne1, ne2, ne3⟩ := ne
      obtain ⟨kv, e1, a, tka, tva, na, rfl, ha⟩ := hA'.get i v (by simpa using hv)
      have hta : h.get? a = some (tupOf [.int kv.1 tka, .int kv.2 tva] na) := N2.get (by exact List.mem_cons_of_mem _ (List.mem_cons_of_mem _ (List.mem_cons_of_mem _ (List.mem_cons_of_mem _ (List.mem_cons_of_mem _ ha)))))
      k_steps
      refine CPost.intro (by k_asm) (by assumption) ((D, _) :: (dK, _) :: new) (by lcg_sub) (by lcg_off) (Or.inr ⟨_, List.mem_cons_self, rfl, _, rfl⟩) ⟨rfl, ?_⟩
      rw [List.take_add_one, e1, List.map_append]
      exact IntsAre.append hA2 (.cons _ _ .nil)
    rintro ys9 news ⟨rfl, hI9⟩
    rw [List.take_of_length_le (by rw [List.size_toArray]; omega)] at hI9
    k_steps
    rename_i D9 h9 tk9 F99 N99 o99
    exact hq _ _ _ ys9 _ _ (keep_of G F99) (G.fresh (News.fresh N99 List.mem_cons_self) (fun h => nomatch h)) (News.get N99 List.mem_cons_self) hI9 (by rw [← hkv]; exact hperm'.map _)
end
section
example : True := by w_top off; trivial
variable {prog : Program} {w : World} {b₀ : Heap} {p : Program} {loose : List Str} {mean : ExcName → Option Value} {mg mb : Str → Option Value}
section
variable {A : Around} {s : Shared} {K : Frag}
  {name qual : Str} {params : Arguments} {body : List Stmt} {scope : Scope} {dV kV doc pm cdv ct oc : Value} {an od : Option Addr} {osl : Array (Option Value)} {f : Addr} {args : List Value} {binds : List (Str × Value)}
  {mt : List (Addr × Obj)} {R : Result → Shared → Prop}
/-- a def entered as code (an __init__) -/
theorem enterK (X₀ : K.In b₀) (T₀ : Top p loose mean mg mb b₀) (S : b₀.StaysIn s.heap) (hM : ∀ q ∈ mt, s.heap.get? q.1 = some q.2 ∧ b₀.get? q.1 = none)
    (ho : K.lookup f = some ⟨oc, od, .func (fnOf name qual params body scope dV kV doc pm an cdv ct), osl⟩) (hcd : codeIn K cdv qual = true) (hroom : A.depth < recursionLimit)
    (hbind : BindsTo s (fnOf name qual params body scope dV kV doc pm an cdv ct) ⟨args, []⟩ binds) (hloc : ∀ y ∈ binds, scope.names.lookup y.1 = some .local)
    (hco : scope.isCoroutine = false) (hgen : scope.isGenerator = false) (hk : scope.kind = .function) (hcell : ∀ x ∈ scope.names, x.2 ≠ .cell)
    (h : ∀ g L' h₁ tk, Grd s.heap (mt.map (·.1)) g → Fr g L' h₁ (fun y => binds.reverse.lookup y) → News g L' h₁ mt → K.In g → Top p loose mean mg mb g → (∀ b o, s.heap.get? b = some o → h₁.get? b = some o) → (s.heap.get? L' = none) → (∀ q ∈ mt, q.1 < L') →
      wpAny (model prog w) (A.deeper (envOf qual scope L' f cdv)) (execs body (envOf qual scope L' f cdv))
        (fun fl s' => R (.ok (.ret (match fl with | .ret v => v | _ => .none))) s') (fun _ _ => False)
        { s with heap := h₁, toks := tk }) :
    codeAny (model prog w) A (.call (.ref f) ⟨args, []⟩) R s := by
  have st : b₀.StaysIn (hideAll s.heap (mt.map (·.1))) := fun b o e => hideAll_get _ (S b o e) fun q => by
    obtain ⟨r, hr, rfl⟩ := List.mem_map.mp q
    rw [(hM r hr).2] at e; cases e
  refine codeAny_call_def (fd := fnOf name qual params body scope dV kV doc pm an cdv ct) (body := body) (binds := binds) hroom (S _ _ (X₀ _ _ ho)) rfl (T₀.nolimit.keeps S) (codeRec_of (X₀.keeps S) hcd) rfl hbind hcell hloc (fun h₁ hns hk₁ => ?_) hco hgen hk
  refine wpAny_mono (h _ s.heap.objs.size h₁ _ (grd_hide _ _) ⟨hns, fun b o e => hk₁ b o (of_hideAll _ e), Nat.le_of_eq (hideAll_size _ _)⟩
    (fun q hq => ⟨hk₁ _ _ (hM q hq).1, Nat.ne_of_lt (Heap.lt_size (hM q hq).1), hideAll_none _ (List.mem_map_of_mem hq)⟩) (X₀.keeps st) (T₀.keeps st) hk₁ (Heap.get?_none_of_le (Nat.le_refl _)) (fun q hq => Heap.lt_size (hM q hq).1)) (fun fl s' hl => hl) fun _ _ y => y.elim
end
abbrev combD (P : Params) (t c : Addr) (k1 k2 : Nat) : Obj := dictOf [⟨PyData.keyHash P (Str.ofString "table"), Value.str (Str.ofString "table") k1, Value.ref t⟩, ⟨PyData.keyHash P (Str.ofString "check"), Value.str (Str.ofString "check") k2, Value.ref c⟩] 2
theorem four {M : Addr × Obj → Prop} {a b c d : Addr × Obj} (h1 : M a) (h2 : M b) (h3 : M c) (h4 : M d) : ∀ q ∈ [a, b, c, d], M q := by
  intro q hq
  rcases List.mem_cons.mp hq with rfl | hq
  · exact h1
  rcases List.mem_cons.mp hq with rfl | hq
  · exact h2
  rcases List.mem_cons.mp hq with rfl | hq
  · exact h3
  rcases List.mem_cons.mp hq with rfl | hq
  · exact h4
  cases hq
/-- nothing of what was there has changed -/
theorem keep_ro {s g h' : Heap} {L : Addr} {m : Str → Option Value} {mt : List (Addr × Obj)} (G : Grd s (mt.map (·.1)) g) (F : Fr g L h' m) (N : News g L h' mt) (hM : ∀ q ∈ mt, s.get? q.1 = some q.2) : Keep [] s h' := fun b o e _ => by
  by_cases hb : b ∈ mt.map (·.1)
  · obtain ⟨q, hq, rfl⟩ := List.mem_map.mp hb
    rw [hM q hq] at e
    cases e
    exact (N q hq).1
  · exact F.keep _ _ (G.of _ _ e hb)
theorem comb_init (X : (hd.heap_39 w.params).In b₀) (T : Top p loose mean mg mb b₀) {A : Around} {s : Shared} {x d : Addr} {R : Result → Shared → Prop} (hd : A.depth + 2 < recursionLimit) (hu : A.units + 60 < cLine) (S : b₀.StaysIn s.heap) (hx0 : b₀.get? x = none) (hd0 : b₀.get? d = none)
    (hx : s.heap.get? x = some (instObj 193 d)) (hdx : s.heap.get? d = some (dictOf [] 0)) (hne : @Ne Nat x d)
    (hq : ∀ h' tk t c k1 k2, Keep [d] s.heap h' → h'.get? d = some (combD w.params t c k1 k2) → Fresh s.heap h' [(t, listOf #[] 0), (c, listOf #[] 0)] → @Ne Nat t c → R (.ok (.ret .none)) { s with heap := h', toks := tk }) :
    codeAny (model prog w) A (.call (.ref 155) ⟨[.ref x], []⟩) R s := by
  refine enterK X T S (mt := [(x, instObj 193 d), (d, dictOf [] 0)]) ?hM (by k_is) (by k_is) (by omega) (BindsTo.of_eq (binds := [("self", .ref x)]) rfl) (locs rfl) rfl rfl rfl (by decide) ?_
  case hM =>
    intro q hq
    rcases List.mem_cons.mp hq with rfl | hq
    · exact ⟨hx, hx0⟩
    · rcases List.mem_cons.mp hq with rfl | hq
      · exact ⟨hdx, hd0⟩
      · cases hq
  intro g L' h₁ tk₁ G F N K' T' hk₁ hL' lt
  k_lt lt
  k_steps
  rename_i c9 h9 F9 N9
  refine hq _ _ _ _ _ _ (fun b o e n => ?_) (News.get N9 (by k_mem)) (fun q hq => ?_) (by k_ne)
  · by_cases hb : b = x
    · subst hb
      rw [hx] at e
      exact (Option.some.inj e) ▸ News.get N9 (by k_mem)
    · exact F9.keep _ _ (G.of _ _ e (not_two hb fun q => n (List.mem_singleton.mpr q)))
  · rcases List.mem_cons.mp hq with rfl | hq
    · exact ⟨News.get N9 (by k_mem), G.fresh (News.fresh N9 (by k_mem)) (not_two (by k_ne) (by k_ne))⟩
    · rw [List.mem_singleton.mp hq]
      exact ⟨News.get N9 (by k_mem), G.fresh (News.fresh N9 (by k_mem)) (not_two (by k_ne) (by k_ne))⟩
/-- a cell is free -/
def freeB (ck : List Int) (k : Int) : Bool := decide (ck.length ≤ k.toNat) || (ck.getD k.toNat 0 == 0)
theorem free_spec (X : (hd.heap_39 w.params).In b₀) (T : Top p loose mean mg mb b₀) {dp un : Nat} {fr : Option (List Env)} {gd : Option (List Code)} {s : Shared} {x d t c : Addr} {k1 k2 nt nc : Nat} {vt vc : List Value} {ck : List Int} {k : Int} {tk : Tok} {Q E : Value → Shared → Prop}
    (hd : dp + 10 < recursionLimit) (hu : un + 100 < cLine) (S : b₀.StaysIn s.heap) (hM : ∀ q ∈ [(x, instObj 193 d), (d, combD w.params t c k1 k2), (t, W.listOf vt.toArray nt), (c, W.listOf vc.toArray nc)], s.heap.get? q.1 = some q.2 ∧ b₀.get? q.1 = none)
    (hI : IntsAre vc ck) (hl : ck.length ≤ 1000) (h0 : 0 ≤ k) (h1 : k ≤ 1000) (hne : @Ne Nat x d ∧ @Ne Nat x t ∧ @Ne Nat x c ∧ @Ne Nat d t ∧ @Ne Nat d c ∧ @Ne Nat t c)
    (hq : ∀ h' tk, Keep [] s.heap h' → Q (.bool (freeB ck k)) { s with heap := h', toks := tk }) :
    wpAny (model prog w) (ar dp un fr gd) (call (.ref 162) [.ref x, .int k tk]) Q E s := by
  refine enterP X T S hM (by k_is) (by k_is) (by show dp < recursionLimit; omega) (BindsTo.of_eq (binds := [("self", .ref x), ("cell", .int k tk)]) rfl) (locs rfl) rfl rfl rfl (by decide) ?_
  intro g L' h₁ tk₁ G F N K' T' hk₁ hL'
  obtain ⟨ne1, ne2, ne3, ne4, ne5, ne6⟩ := hne
  have hvl := hI.length
  k_steps
  · have e9 : freeB ck k = decide ((ck.length : Int) ≤ k) := by
      unfold freeB
      rw [decide_eq_true (by omega : ck.length ≤ k.toNat), decide_eq_true (by omega : (ck.length : Int) ≤ k)]; rfl
    rw [← e9]
    exact hq _ _ (keep_ro G F N fun q hq => (hM q hq).1)
  · rename_i hlt t9
    have e9 : freeB ck k = (ck.getD k.toNat 0 == 0) := by
      unfold freeB
      rw [decide_eq_false (by omega : ¬ ck.length ≤ k.toNat)]; rfl
    rw [← e9]
    exact hq _ _ (keep_ro G F N fun q hq => (hM q hq).1)
section
variable {A : Around} {E : Value → Shared → Prop} {s : Shared} {env : Env} {h₀ : Heap} {x : Str} {body : List Stmt} {Q : Flow → Shared → Prop}
/-- over a list of the ground -/
theorem listB_G {l : Addr} {vs : List Value} {m₀ : Str → Option Value} {news : List (Addr × Obj)} (J : Nat → (Str → Option Value) → List (Addr × Obj) → Prop)
    (hh : A.handled = none) (hl : h₀.IsList l vs.toArray) (F : Fr h₀ env.locals s.heap m₀) (N : News h₀ env.locals s.heap news) (hj : J 0 m₀ news)
    (turn : ∀ i v m₁ nx h tk I oI, vs[i]? = some v → J i m₁ nx → (∀ p ∈ nx, @Ne Nat p.1 I) → Fr h₀ env.locals h (fun y => if y = x then some v else m₁ y) → News h₀ env.locals h ((I, oI) :: nx) →
      wpAny (model prog w) A (execs body env) (TPost h₀ env.locals (J (i + 1)) I oI { s with heap := h, toks := tk } Q) E { s with heap := h, toks := tk })
    (done : ∀ m₁ nx h tk, J vs.length m₁ nx → Fr h₀ env.locals h m₁ → News h₀ env.locals h nx → Q .next { s with heap := h, toks := tk }) :
    wpAny (model prog w) A (pyIter (.ref l)) (fun it s₂ => LoopAtV prog w A h₀ env x body Q E it s₂) E s := by
  have hls : s.heap.IsList l vs.toArray := hl.at fun o e => F.keep l o e
  obtain ⟨ol, hol, _⟩ := id hl
  have hlt : l < h₀.objs.size := Heap.lt_size hol
  have hne : l ≠ s.heap.objs.size := Nat.ne_of_lt (Nat.lt_trans (Nat.lt_of_lt_of_le hlt F.above) F.ns.lt)
  refine wpAny_pyIter_list hls ?_
  have W := Walks.list (prog := prog) (w := w) hh s.heap.objs.size l hne vs.toArray
  have hlen : vs.toArray.size = vs.length := by simp
  rw [hlen] at W
  refine loop_G (fun _ => True) J W ?_ (next_is_new F) List.mem_cons_self ?_ ?_ ?_ ⟨⟨_, Heap.get?_push_size _ rfl, rfl, rfl⟩, hls.at fun o e => Heap.get?_push_of_some _ e⟩ (F.push _) (fun p hp => ⟨Heap.get?_push_of_some _ (N p hp).1, (N p hp).2⟩) trivial hj ?_ ?_
  · intro hm
    rcases List.mem_cons.mp hm with e | hm
    · exact absurd F.ns.lt (e ▸ Nat.lt_irrefl _)
    · exact absurd (Nat.lt_of_lt_of_le hlt F.above) ((List.mem_singleton.mp hm) ▸ Nat.lt_irrefl _)
  · intro i h hs
    obtain ⟨⟨o, e, _⟩, _⟩ := hs
    exact ⟨o, e⟩
  · intro b hb hne h0
    rcases List.mem_cons.mp hb with e | hb
    · exact absurd e hne
    · rw [List.mem_singleton.mp hb, hol] at h0
      cases h0
  · intro p hp e
    exact absurd (Heap.lt_size (N p hp).1) (e ▸ Nat.lt_irrefl _)
  · intro i v m₁ nx h tk oI hi hP _ hJ hoff F' N'
    refine wpAny_mono (turn i v m₁ nx h tk _ oI (by simpa using hP) hJ hoff F' N') (fun f s₂ p => ?_) fun _ _ e => e
    cases f with
    | ret v => exact p
    | brk => exact p
    | next => obtain ⟨a, b, c, d, e1, e2, e3, e4, e5⟩ := p; exact ⟨a, b, c, d, e1, e2, e3, e4, trivial, e5⟩
    | cont => obtain ⟨a, b, c, d, e1, e2, e3, e4, e5⟩ := p; exact ⟨a, b, c, d, e1, e2, e3, e4, trivial, e5⟩
  · intro m₁ nx h tk _ hJ F' N'
    exact done m₁ nx h tk hJ F' N'
end
local macro_rules | `(tactic| walk_at "exec For Name Name cons nil") => `(tactic| (k_here; (rename Fr _ _ _ _ => lF'); (with_unfolding_all refine' For_invVF lF' ?k1 ?k2 ?_; (case k1 => exact rfl); (case k2 => exact rfl); k_whole)))
local macro_rules | `(tactic| walk_at "pyIter ref") => `(tactic| (refine Stop.in ?_))
local macro_rules | `(tactic| walk_at "call ref") => `(tactic| (refine Stop.in ?_))
theorem fits_spec (X : (hd.heap_39 w.params).In b₀) (T : Top p loose mean mg mb b₀) {dp un : Nat} {fr : Option (List Env)} {gd : Option (List Code)} {s : Shared} {x d t c l : Addr} {k1 k2 nt nc : Nat} {vt vc vs : List Value} {ck cs : List Int} {b : Int} {tk : Tok} {Q E : Value → Shared → Prop}
    (hd : dp + 20 < recursionLimit) (hu : un + 200 < cLine) (S : b₀.StaysIn s.heap) (hM : ∀ q ∈ [(x, instObj 193 d), (d, combD w.params t c k1 k2), (t, W.listOf vt.toArray nt), (c, W.listOf vc.toArray nc)], s.heap.get? q.1 = some q.2 ∧ b₀.get? q.1 = none)
    (hI : IntsAre vc ck) (hl : ck.length ≤ 100) (hne : @Ne Nat x d ∧ @Ne Nat x t ∧ @Ne Nat x c ∧ @Ne Nat d t ∧ @Ne Nat d c ∧ @Ne Nat t c)
    (hcl : s.heap.IsList l vs.toArray) (hlo : l ∉ [x, d, t, c]) (hcs : IntsAre vs cs) (hcb : ∀ a ∈ cs, 0 ≤ b + a ∧ b + a ≤ 500)
    (hq : ∀ h' tk, Keep [] s.heap h' → Q (.bool (cs.all fun a => freeB ck (b + a))) { s with heap := h', toks := tk }) :
    wpAny (model prog w) (ar dp un fr gd) (call (.ref 169) [.ref x, .int b tk, .ref l]) Q E s := by
  refine enterP X T S hM (by k_is) (by k_is) (by show dp < recursionLimit; omega) (BindsTo.of_eq (binds := [("self", .ref x), ("base", .int b tk), ("columns", .ref l)]) rfl) (locs rfl) rfl rfl rfl (by decide) ?_
  intro g L' h₁ tk₁ G F N K' T' hk₁ hL'
  have hlg : g.IsList l vs.toArray := by obtain ⟨o, ho, r⟩ := hcl; exact ⟨o, G.of _ _ ho hlo, r⟩
  obtain ⟨ne1, ne2, ne3, ne4, ne5, ne6⟩ := id hne
  have hvl := hI.length
  k_steps
  unfold Stop
  refine listB_G (J := fun i m nx => ∃ on : Option Value, nx = [(x, instObj 193 d), (d, combD w.params t c k1 k2), (t, W.listOf vt.toArray nt), (c, W.listOf vc.toArray nc)] ∧ m = (fun y => if y = Str.ofString "column" then on else List.lookup y [(Str.ofString "self", Value.ref x), (Str.ofString "base", Value.int b tk), (Str.ofString "columns", Value.ref l)].reverse) ∧
    ∀ a ∈ List.take i cs, freeB ck (b + a) = true) (by rfl) hlg (by assumption) N ?start ?turn ?done
  case start =>
    refine ⟨none, rfl, ?_, by simp⟩
    funext y
    by_cases h1 : y = Str.ofString "column"
    · subst h1; rfl
    · simp only [if_neg h1]
  case turn =>
    rintro i v m₁ nx h tk1 I oI hv ⟨on, rfl, rfl, hfr⟩ hoff F9 N9
    obtain ⟨a, ta, rfl, ha⟩ := hcs.at i v hv
    have hba := hcb a (List.mem_of_getElem? ha)
    k_steps
    unfold Stop
    refine free_spec K' T' (by dsimp only [ar, Around.deeper]; first | exact room1 hd (by decide) | exact room0 hd (by decide) | omega) (by dsimp only [ar, Around.deeper]; first | exact room0 hu (by decide) | omega) F9.keep (fun q hq => by have z := N9 q (List.mem_cons_of_mem _ hq); exact ⟨z.1, z.2.2⟩) hI (by omega) hba.1 (by omega) hne fun h2 tk2 K2 => ?_
    have F10 := fr_keep F9 K2 (by simp) (by simp)
    have N10 := news_keep N9 K2 (by simp)
    have htk : List.take (i + 1) cs = List.take i cs ++ [a] := by rw [List.take_add_one, ha]; rfl
    cases hf : freeB ck (b + a) with
    | true =>
      k_steps
      refine TEnd.intro _ F10 N10 (fun p hp => hp) hoff ⟨some (Value.int a ta), rfl, two_ite, fun a' ha' => ?_⟩
      rw [htk] at ha'
      rcases List.mem_append.mp ha' with ha' | ha'
      · exact hfr a' ha'
      · rw [List.mem_singleton.mp ha']; exact hf
    | false =>
      k_steps
      have e9 : (cs.all fun a => freeB ck (b + a)) = false := by
        rw [List.all_eq_false]
        exact ⟨a, List.mem_of_getElem? ha, by rw [hf]; decide⟩
      show Q (Value.bool false) _
      rw [← e9]
      exact hq _ _ (keep_ro G F10 (fun q hq => N10 q (List.mem_cons_of_mem _ hq)) fun q hq => (hM q hq).1)
  case done =>
    rintro m₁ nx h tk1 ⟨on, rfl, rfl, hfr⟩ F9 N9
    have e9 : (cs.all fun a => freeB ck (b + a)) = true := by
      rw [List.all_eq_true]
      rw [List.take_of_length_le (by rw [hcs.length]; omega)] at hfr
      exact hfr
    k_steps
    show Q (Value.bool true) _
    rw [← e9]
    exact hq _ _ (keep_ro G F9 N9 fun q hq => (hM q hq).1)
/-- from some base on every column is free -/
theorem free_far {ck : List Int} {k : Int} (h : (ck.length : Int) ≤ k) : freeB ck k = true := by
  unfold freeB
  rw [decide_eq_true (by omega : ck.length ≤ k.toNat)]; rfl
local macro_rules | `(tactic| walk_at "exec While") => `(tactic| (refine Stop.in ?_))
local macro_rules | `(tactic| walk_at "exec While UnaryOp") => `(tactic| (refine Stop.in ?_))
theorem first_spec (X : (hd.heap_39 w.params).In b₀) (T : Top p loose mean mg mb b₀) {dp un : Nat} {fr : Option (List Env)} {gd : Option (List Code)} {s : Shared} {x d t c l : Addr} {k1 k2 nt nc : Nat} {vt vc vs : List Value} {ck cs : List Int} {a₀ : Int} {Q E : Value → Shared → Prop}
    (hd : dp + 30 < recursionLimit) (hu : un + 300 < cLine) (S : b₀.StaysIn s.heap) (hM : ∀ q ∈ [(x, instObj 193 d), (d, combD w.params t c k1 k2), (t, W.listOf vt.toArray nt), (c, W.listOf vc.toArray nc)], s.heap.get? q.1 = some q.2 ∧ b₀.get? q.1 = none)
    (hI : IntsAre vc ck) (hl : ck.length ≤ 100) (hne : @Ne Nat x d ∧ @Ne Nat x t ∧ @Ne Nat x c ∧ @Ne Nat d t ∧ @Ne Nat d c ∧ @Ne Nat t c)
    (hcl : s.heap.IsList l vs.toArray) (hlo : l ∉ [x, d, t, c]) (hcs : IntsAre vs (a₀ :: cs)) (hcb : ∀ a ∈ a₀ :: cs, a₀ ≤ a ∧ 0 ≤ a ∧ a < 5)
    (hq : ∀ h' tk b tb, Keep [] s.heap h' → -a₀ ≤ b → b ≤ ck.length - a₀ → (∀ a ∈ a₀ :: cs, freeB ck (b + a) = true) → Q (.int b tb) { s with heap := h', toks := tk }) :
    wpAny (model prog w) (ar dp un fr gd) (call (.ref 176) [.ref x, .ref l]) Q E s := by
  refine enterP X T S hM (by k_is) (by k_is) (by show dp < recursionLimit; omega) (BindsTo.of_eq (binds := [("self", .ref x), ("columns", .ref l)]) rfl) (locs rfl) rfl rfl rfl (by decide) ?_
  intro g L' h₁ tk₁ G F N K' T' hk₁ hL'
  have hlg : g.IsList l vs.toArray := by obtain ⟨o, ho, r⟩ := hcl; exact ⟨o, G.of _ _ ho hlo, r⟩
  obtain ⟨ne1, ne2, ne3, ne4, ne5, ne6⟩ := id hne
  have hvl := hI.length
  k_steps
  unfold Stop
  rename_i t0 h0 F0 N0
  have hmin := hcb a₀ List.mem_cons_self
  refine While_inv (n₀ := (ck.length : Int).toNat) (J := fun n m nx => nx = [(x, instObj 193 d), (d, combD w.params t c k1 k2), (t, W.listOf vt.toArray nt), (c, W.listOf vc.toArray nc)] ∧ ∃ b tb, m = (fun y => if y = Str.ofString "base" then some (Value.int b tb) else List.lookup y [(Str.ofString "self", Value.ref x), (Str.ofString "columns", Value.ref l)].reverse) ∧
    -a₀ ≤ b ∧ b ≤ ck.length - a₀ ∧ n = ((ck.length : Int) - a₀ - b).toNat) F0 N0 ⟨rfl, -a₀, _, rfl, Int.le_refl _, by omega, by congr 1; omega⟩ ?turn
  case turn =>
    rintro n m₁ nx h tk1 F9 N9 ⟨rfl, b, tb, rfl, hb1, hb2, rfl⟩
    k_steps
    unfold Stop
    refine fits_spec K' T' (by dsimp only [ar, Around.deeper]; first | exact room1 hd (by decide) | exact room0 hd (by decide) | omega) (by dsimp only [ar, Around.deeper]; first | exact room0 hu (by decide) | omega) F9.keep (fun q hq => by have z := N9 q hq; exact ⟨z.1, z.2.2⟩) hI (by omega) hne (F9.lst hlg) hlo hcs (fun a ha => by have := hcb a ha; omega) fun h2 tk2 K2 => ?_
    have F10 := fr_keep F9 K2 (by simp) (by simp)
    have N10 := news_keep N9 K2 (by simp)
    cases hf : (a₀ :: cs).all fun a => freeB ck (b + a) with
    | true =>
      k_steps
      exact hq _ _ b _ (keep_ro G F10 N10 fun q hq => (hM q hq).1) hb1 hb2 (fun a ha => List.all_eq_true.mp hf a ha)
    | false =>
      have hlt : b < ck.length - a₀ := by
        rcases Int.lt_or_le b (ck.length - a₀) with h | h
        · exact h
        · exfalso
          obtain ⟨a, ha, hn⟩ := List.all_eq_false.mp hf
          exact hn (free_far (by have := hcb a ha; omega))
      k_steps
      rename_i h9 F11 N11
      exact WhileStep.intro F11 N11 (by omega) ⟨rfl, b + 1, _, two_ite, by omega, by omega, rfl⟩
end
section
example : True := by w_top off; trivial
variable {prog : Program} {w : World} {b₀ : Heap} {p : Program} {loose : List Str} {mean : ExcName → Option Value} {mg mb : Str → Option Value}
local macro_rules | `(tactic| walk_at "exec For Name Name cons nil") => `(tactic| (k_here; (rename Fr _ _ _ _ => lF'); (with_unfolding_all refine' For_invVF lF' ?k1 ?k2 ?_; (case k1 => exact rfl); (case k2 => exact rfl); k_whole)))
local macro_rules | `(tactic| walk_at "pyIter ref") => `(tactic| (refine Stop.in ?_))
local macro_rules | `(tactic| walk_at "call ref") => `(tactic| (refine Stop.in ?_))
local macro_rules | `(tactic| walk_at "exec While Compare") => `(tactic| (refine Stop.in ?_))
def zeros (l : List Int) (r : Nat) : List Int := l ++ List.replicate r 0
theorem zeros_len (l : List Int) (r : Nat) : (zeros l r).length = l.length + r := by simp [zeros]
theorem zeros_snoc (l : List Int) (r : Nat) : zeros l r ++ [0] = zeros l (r + 1) := by
  unfold zeros
  rw [List.append_assoc, List.replicate_succ']
theorem zeros_getD (l : List Int) (r j : Nat) : (zeros l r).getD j 0 = l.getD j 0 := by
  unfold zeros
  rw [List.getD_eq_getElem?_getD, List.getD_eq_getElem?_getD]
  rcases Nat.lt_or_ge j l.length with h | h
  · rw [List.getElem?_append_left h]
  · rw [List.getElem?_append_right h, List.getElem?_eq_none h, List.getElem?_replicate]
    split <;> rfl
theorem set_getD_eq {l : List Int} {k : Nat} {v : Int} (h : k < l.length) : (l.set k v).getD k 0 = v := by
  rw [List.getD_eq_getElem?_getD, List.getElem?_set_self h]; rfl
theorem set_getD_ne {l : List Int} {k j : Nat} {v : Int} (h : k ≠ j) : (l.set k v).getD j 0 = l.getD j 0 := by
  rw [List.getD_eq_getElem?_getD, List.getD_eq_getElem?_getD, List.getElem?_set_ne h]
theorem grow_spec (X : (hd.heap_39 w.params).In b₀) (T : Top p loose mean mg mb b₀) {dp un : Nat} {fr : Option (List Env)} {gd : Option (List Code)} {s : Shared} {x d t c : Addr} {k1 k2 nt nc : Nat} {vt vc : List Value} {tb ck : List Int} {many : Int} {tm : Tok} {Q E : Value → Shared → Prop}
    (hd : dp + 30 < recursionLimit) (hu : un + 300 < cLine) (S : b₀.StaysIn s.heap) (hM : ∀ q ∈ [(x, instObj 193 d), (d, combD w.params t c k1 k2), (t, W.listOf vt.toArray nt), (c, W.listOf vc.toArray nc)], s.heap.get? q.1 = some q.2 ∧ b₀.get? q.1 = none)
    (hT : IntsAre vt tb) (hI : IntsAre vc ck) (hl : ck.length ≤ 100) (htc : tb.length = ck.length) (hm : many ≤ 200) (hne : @Ne Nat x d ∧ @Ne Nat x t ∧ @Ne Nat x c ∧ @Ne Nat d t ∧ @Ne Nat d c ∧ @Ne Nat t c)
    (hq : ∀ h' tk vt' vc' nt' nc', Keep [t, c] s.heap h' → h'.get? t = some (W.listOf vt'.toArray nt') → h'.get? c = some (W.listOf vc'.toArray nc') → IntsAre vt' (zeros tb (many - ck.length).toNat) → IntsAre vc' (zeros ck (many - ck.length).toNat) → Q .none { s with heap := h', toks := tk }) :
    wpAny (model prog w) (ar dp un fr gd) (call (.ref 183) [.ref x, .int many tm]) Q E s := by
  refine enterP X T S hM (by k_is) (by k_is) (by show dp < recursionLimit; omega) (BindsTo.of_eq (binds := [("self", .ref x), ("many", .int many tm)]) rfl) (locs rfl) rfl rfl rfl (by decide) ?_
  intro g L' h₁ tk₁ G F N K' T' hk₁ hL'
  obtain ⟨ne1, ne2, ne3, ne4, ne5, ne6⟩ := id hne
  k_steps
  unfold Stop
  refine While_inv (n₀ := (many - ck.length).toNat) (J := fun n m nx => ∃ vt' vc' nt' nc' r tb' ck', nx = [(x, instObj 193 d), (d, combD w.params t c k1 k2), (t, W.listOf vt'.toArray nt'), (c, W.listOf vc'.toArray nc')] ∧ m = (fun y => List.lookup y [(Str.ofString "self", Value.ref x), (Str.ofString "many", Value.int many tm)].reverse) ∧
    IntsAre vt' tb' ∧ IntsAre vc' ck' ∧ tb' = zeros tb r ∧ ck' = zeros ck r ∧ r ≤ (many - ck.length).toNat ∧ n = (many - ck.length).toNat - r) F N ⟨vt, vc, nt, nc, 0, tb, ck, rfl, rfl, hT, hI, by simp [zeros], by simp [zeros], by omega, by omega⟩ ?turn
  case turn =>
    rintro n m₁ nx h tk1 F9 N9 ⟨vt', vc', nt', nc', r, tb', ck', rfl, rfl, hT', hI', ht', hc', hr, rfl⟩
    have hcl' : ck'.length = ck.length + r := by rw [hc', zeros_len]
    have htl' : tb'.length = ck.length + r := by rw [ht', zeros_len, htc]
    have hvl1 := hT'.length
    have hvl2 := hI'.length
    have hsz1 : vt'.toArray.size ≤ sizeLine := by rw [List.size_toArray, sizeLine_eq]; omega
    have hsz2 : vc'.toArray.size ≤ sizeLine := by rw [List.size_toArray, sizeLine_eq]; omega
    k_steps
    · rename_i hlt tk2 h2 tk3 h3 F10 N10
      refine WhileStep.intro (n' := (many - ck.length).toNat - (r + 1)) F10 N10 (grow_n1 hcl' hlt) ⟨vt' ++ [Value.int 0 (tk2 + 1)], vc' ++ [Value.int 0 (tk3 + 1)], nt' + 1, nc' + 1, r + 1, tb' ++ [0], ck' ++ [0], ?_, rfl, IntsAre.append hT' (.cons _ _ .nil), IntsAre.append hI' (.cons _ _ .nil), by rw [ht', zeros_snoc], by rw [hc', zeros_snoc], grow_n2 hcl' hlt, rfl⟩
      rw [List.push_toArray, List.push_toArray]
    · rename_i hlt
      have hre : r = (many - ck.length).toNat := grow_n3 hcl' hlt hr
      subst hre
      exact hq _ _ vt' vc' nt' nc' (fun b o e n => by
        by_cases hb : b ∈ [x, d, t, c]
        · rcases List.mem_cons.mp hb with rfl | hb
          · rw [(hM _ List.mem_cons_self).1] at e; cases e; exact N9.get List.mem_cons_self
          · rcases List.mem_cons.mp hb with rfl | hb
            · rw [(hM _ (List.mem_cons_of_mem _ List.mem_cons_self)).1] at e; cases e; exact N9.get (List.mem_cons_of_mem _ List.mem_cons_self)
            · exact absurd hb n
        · exact F9.keep _ _ (G.of _ _ e hb)) (N9.get (by k_mem)) (N9.get (by k_mem)) (ht' ▸ hT') (hc' ▸ hI')

/-- what put has done -/
def PutOK (tb ck : List Int) (r : Rw) (o b : Int) (tb' ck' : List Int) : Prop :=
  tb'.length = ck'.length ∧ ck.length ≤ ck'.length ∧ ck'.length ≤ ck.length + 10 ∧
  (∀ q ∈ r, 0 ≤ b + q.1 ∧ b + q.1 < ck'.length ∧ freeB ck (b + q.1) = true ∧ tb'.getD (b + q.1).toNat 0 = q.2 ∧ ck'.getD (b + q.1).toNat 0 = o + 1) ∧
  (∀ j : Nat, (∀ q ∈ r, b + q.1 ≠ (j : Int)) → tb'.getD j 0 = tb.getD j 0 ∧ ck'.getD j 0 = ck.getD j 0)
local macro_rules | `(tactic| walk_at "call builtin:sorted") => `(tactic| (k_here; k_dflt (refine' sorted_row (by rfl) (by k_asm) (by k_asm) (by first | assumption | exact Fr.keep (by assumption) _ _ (by assumption)) (by assumption) (by assumption) (by assumption) ?_); intro D' h' tk' vs' ns' e' F' N' l1 i' p' o'; k_lt l1))
theorem last_max : ∀ (l : List Int), l.Pairwise (· ≤ ·) → 0 < l.length → l.getD (l.length - 1) 0 ∈ l ∧ ∀ a ∈ l, a ≤ l.getD (l.length - 1) 0
  | [], _, h => absurd h (Nat.lt_irrefl _)
  | [a], _, _ => by simp
  | a :: b :: l, p, _ => by
    rw [List.pairwise_cons] at p
    have ih := last_max (b :: l) p.2 (by simp)
    have e : (a :: b :: l).getD ((a :: b :: l).length - 1) 0 = (b :: l).getD ((b :: l).length - 1) 0 := by simp
    rw [e]
    refine ⟨List.mem_cons_of_mem _ ih.1, fun x hx => ?_⟩
    rcases List.mem_cons.mp hx with rfl | hx
    · exact p.1 _ ih.1
    · exact ih.2 x hx
local macro_rules | `(tactic| walk_at "subscriptTail") => `(tactic| (k_here; k_dflt (refine' row_item (by first | assumption | exact Fr.keep (by assumption) _ _ (by assumption)) (by assumption) (by assumption) ?_); intro tv'))
local macro_rules | `(tactic| walk_at "setItem ref int") => `(tactic| (k_here; k_dflt (refine' setAt_led ?k1 ?k2 ?k3 ?k4 ?k5 ?k6 ?_; (case k1 => k_asm); (case k2 => k_asm); (case k3 => k_upd); (case k4 => ((repeat (rename Ne _ _ => z9; clear z9)); omega)); (case k5 => ((repeat (rename Ne _ _ => z9; clear z9)); omega)); (case k6 => ((repeat (rename Ne _ _ => z9; clear z9)); omega))); intro h' F' N'))
theorem ints_set {vs : List Value} {ns : List Int} (h : IntsAre vs ns) (v : Int) (t : Tok) : ∀ k, IntsAre (vs.set k (.int v t)) (ns.set k v) := by
  induction h with
  | nil => intro k; exact .nil
  | cons n t h ih =>
    intro k
    cases k with
    | zero => exact .cons _ _ h
    | succ k => exact .cons _ _ (ih k)
theorem put_spec (X : (hd.heap_39 w.params).In b₀) (T : Top p loose mean mg mb b₀) {dp un : Nat} {fr : Option (List Env)} {gd : Option (List Code)} {s : Shared} {x d t c rd : Addr} {k1 k2 nt nc : Nat} {vt vc : List Value} {tb ck : List Int} {ow : Int} {to : Tok} {ro : Obj} {r : Rw} {Q E : Value → Shared → Prop}
    (hd : dp + 40 < recursionLimit) (hu : un + 400 < cLine) (S : b₀.StaysIn s.heap) (hM : ∀ q ∈ [(x, instObj 193 d), (d, combD w.params t c k1 k2), (t, W.listOf vt.toArray nt), (c, W.listOf vc.toArray nc)], s.heap.get? q.1 = some q.2 ∧ b₀.get? q.1 = none)
    (hT : IntsAre vt tb) (hI : IntsAre vc ck) (hl : ck.length ≤ 50) (htc : tb.length = ck.length) (how : 0 ≤ ow ∧ ow ≤ 100) (hne : @Ne Nat x d ∧ @Ne Nat x t ∧ @Ne Nat x c ∧ @Ne Nat d t ∧ @Ne Nat d c ∧ @Ne Nat t c)
    (hrd : s.heap.get? rd = some ro) (hrl : rd ∉ [x, d, t, c]) (lo : (rd == sysModules) = false) (hRO : RowO prog w ro r) (hRI : RowI r) (hr0 : 0 < r.length)
    (hq : ∀ h' tk b tk' vt' vc' nt' nc' tb' ck', Keep [t, c] s.heap h' → h'.get? t = some (W.listOf vt'.toArray nt') → h'.get? c = some (W.listOf vc'.toArray nc') → IntsAre vt' tb' → IntsAre vc' ck' → PutOK tb ck r ow b tb' ck' → Q (.int b tk') { s with heap := h', toks := tk }) :
    wpAny (model prog w) (ar dp un fr gd) (call (.ref 190) [.ref x, .int ow to, .ref rd]) Q E s := by
  refine enterP X T S hM (by k_is) (by k_is) (by show dp < recursionLimit; omega) (BindsTo.of_eq (binds := [("self", .ref x), ("owner", .int ow to), ("row", .ref rd)]) rfl) (locs rfl) rfl rfl rfl (by decide) ?_
  intro g L' h₁ tk₁ G F N K' T' hk₁ hL'
  obtain ⟨ne1, ne2, ne3, ne4, ne5, ne6⟩ := id hne
  have hrg : g.get? rd = some ro := G.of _ _ hrd hrl
  k_steps
  unfold Stop
  rename_i D1 h1 tk1 vs1 ns1 e1 hns hpm hso lD h2 F2 N2
  have hnl := hpm.length_eq
  rw [List.length_map] at hnl
  have hnd : ns1.Nodup := hpm.symm.nodup hRI.1
  have hrange : ∀ a ∈ ns1, 0 ≤ a ∧ a < 5 := fun a ha => by
    obtain ⟨q, hq, rfl⟩ := List.mem_map.mp (hpm.mem_iff.mp ha)
    exact hRI.2.1 q hq
  obtain ⟨a₀, cs, rfl⟩ : ∃ a cs, ns1 = a :: cs := by
    cases ns1 with
    | nil => simp only [List.length_nil] at hnl; omega
    | cons a cs => exact ⟨a, cs, rfl⟩
  have hcb : ∀ a ∈ a₀ :: cs, a₀ ≤ a ∧ 0 ≤ a ∧ a < 5 := fun a ha => by
    refine ⟨?_, hrange a ha⟩
    rcases List.mem_cons.mp ha with rfl | ha'
    · exact Int.le_refl _
    · exact (List.pairwise_cons.mp hso).1 a ha'
  refine first_spec K' T' (by dsimp only [ar, Around.deeper]; first | exact room1 hd (by decide) | exact room0 hd (by decide) | omega) (by dsimp only [ar, Around.deeper]; first | exact room0 hu (by decide) | omega) F2.keep (fun q hq => by have z := N2 q (List.mem_cons_of_mem _ hq); exact ⟨z.1, z.2.2⟩) hI (by omega) hne (News.isList N2 List.mem_cons_self) (by
    intro hm
    simp only [List.mem_cons, List.not_mem_nil, or_false] at hm
    have : @Ne Nat D1 x ∧ @Ne Nat D1 d ∧ @Ne Nat D1 t ∧ @Ne Nat D1 c := ⟨by k_ne, by k_ne, by k_ne, by k_ne⟩
    rcases hm with e | e | e | e
    · exact this.1 e
    · exact this.2.1 e
    · exact this.2.2.1 e
    · exact this.2.2.2 e) hns hcb fun h3 tk3 b tb' K3 hb1 hb2 hfree => ?_
  have F3 := fr_keep F2 K3 (by simp) (by simp)
  have N3 := news_keep N2 K3 (by simp)
  clear F2 N2
  k_steps
  unfold Stop
  rename_i h5 F5 N5 t5
  have h00 := hcb a₀ List.mem_cons_self
  have hmax := last_max (a₀ :: cs) hso (by simp)
  rw [show (-1 + ((a₀ :: cs).length : Int)).toNat = (a₀ :: cs).length - 1 by omega]
  generalize (a₀ :: cs).getD ((a₀ :: cs).length - 1) 0 = la at hmax ⊢
  have hla := hcb la hmax.1
  refine grow_spec (nt := nt) (nc := nc) (vt := vt) (vc := vc) K' T' (by dsimp only [ar, Around.deeper]; first | exact room1 hd (by decide) | exact room0 hd (by decide) | omega) (by dsimp only [ar, Around.deeper]; first | exact room0 hu (by decide) | omega) F5.keep (fun q hq => by have z := N5 q (List.mem_cons_of_mem _ hq); exact ⟨z.1, z.2.2⟩) hT hI (by omega) htc (by omega) hne fun h6 tk6 vt6 vc6 nt6 nc6 K6 ht6 hc6 hT6 hI6 => ?_
  have neDt : @Ne Nat D1 t := by k_ne
  have neDc : @Ne Nat D1 c := by k_ne
  have zt := N5 (t, W.listOf vt.toArray nt) (by k_mem)
  have zc := N5 (c, W.listOf vc.toArray nc) (by k_mem)
  have N6 := news_two (ot := W.listOf vt.toArray nt) (oc := W.listOf vc.toArray nc) N5 (by k_updF) (by intro o; k_updF) K6 ht6 hc6
  have F6 := fr_keep F5 K6 (not_two (Ne.symm zt.2.1) (Ne.symm zc.2.1)) (fun a ha => by
    rcases List.mem_cons.mp ha with rfl | ha
    · exact zt.2.2
    · rw [List.mem_singleton.mp ha]; exact zc.2.2)
  generalize hR6 : (b + la + 1 - (ck.length : Int)).toNat = R6 at hT6 hI6
  clear F5 N5
  k_steps
  unfold Stop
  rename_i F7
  have hz1 := zeros_len tb R6
  have hz2 := zeros_len ck R6
  have hz0 := zeros_getD tb R6
  have hz9 := zeros_getD ck R6
  generalize zeros tb R6 = T0 at hT6 hz1 hz0
  generalize zeros ck R6 = C0 at hI6 hz2 hz9
  have hspan : ∀ a ∈ a₀ :: cs, 0 ≤ b + a ∧ b + a < (ck.length + R6 : Nat) := fun a ha => by
    have h1 := hcb a ha
    have h2 := hmax.2 a ha
    first | exact put_n3 (by assumption) (by assumption) h1.1 h2 | omega
  refine listN_G (J := fun i m nx => ∃ vt' vc' nt' nc' tb9 ck9, ∃ on : Option Value, nx = [(D1, W.listOf vs1.toArray e1), (x, instObj 193 d), (d, combD w.params t c k1 k2), (t, W.listOf vt'.toArray nt'), (c, W.listOf vc'.toArray nc')] ∧
    m = (fun y => if y = Str.ofString "column" then on else if y = Str.ofString "base" then some (Value.int b tb') else if y = Str.ofString "columns" then some (Value.ref D1) else List.lookup y [(Str.ofString "self", Value.ref x), (Str.ofString "owner", Value.int ow to), (Str.ofString "row", Value.ref rd)].reverse) ∧
    IntsAre vt' tb9 ∧ IntsAre vc' ck9 ∧ tb9.length = ck.length + R6 ∧ ck9.length = ck.length + R6 ∧ (∀ q ∈ r, q.1 ∈ List.take i (a₀ :: cs) → tb9.getD (b + q.1).toNat 0 = q.2 ∧ ck9.getD (b + q.1).toNat 0 = ow + 1) ∧
    (∀ j : Nat, (∀ a ∈ List.take i (a₀ :: cs), b + a ≠ (j : Int)) → tb9.getD j 0 = tb.getD j 0 ∧ ck9.getD j 0 = ck.getD j 0)) (by rfl) List.mem_cons_self F7 N6 ?start ?turn ?done
  case start =>
    refine ⟨vt6, vc6, nt6, nc6, T0, C0, none, rfl, ?_, hT6, hI6, by omega, by omega, by simp, fun j _ => ⟨hz0 j, hz9 j⟩⟩
    funext y
    by_cases h1 : y = Str.ofString "column"
    · subst h1; rfl
    · simp only [if_neg h1]
  case turn =>
    rintro i v9 m₁ nx h tk7 I oI hv _ ⟨vt', vc', nt', nc', tb9, ck9, on, rfl, rfl, hT9, hI9, hl1, hl2, hA9, hB9⟩ hoff F9 N9
    obtain ⟨a, ta, rfl, ha⟩ := hns.at i v9 hv
    have ham : a ∈ a₀ :: cs := List.mem_of_getElem? ha
    have hsa := hspan a ham
    obtain ⟨xv, hxv⟩ : ∃ xv, (a, xv) ∈ r := by
      obtain ⟨q, hq, e⟩ := List.mem_map.mp (hpm.mem_iff.mp ham)
      exact ⟨q.2, e ▸ hq⟩
    have hvl1 := hT9.length
    have hvl2 := hI9.length
    have neI1 : @Ne Nat D1 I := hoff _ List.mem_cons_self
    have neI2 : @Ne Nat x I := hoff _ (List.mem_cons_of_mem _ List.mem_cons_self)
    have neI3 : @Ne Nat d I := hoff _ (List.mem_cons_of_mem _ (List.mem_cons_of_mem _ List.mem_cons_self))
    have neI4 : @Ne Nat t I := hoff _ (List.mem_cons_of_mem _ (List.mem_cons_of_mem _ (List.mem_cons_of_mem _ List.mem_cons_self)))
    have neI5 : @Ne Nat c I := hoff _ (List.mem_cons_of_mem _ (List.mem_cons_of_mem _ (List.mem_cons_of_mem _ (List.mem_cons_of_mem _ List.mem_cons_self))))
    k_steps
    rename_i t8 tk8 h8 tk9 h9 F10 N10
    have htk : List.take (i + 1) (a₀ :: cs) = List.take i (a₀ :: cs) ++ [a] := by rw [List.take_add_one, ha]; rfl
    refine TEnd.intro [(D1, W.listOf vs1.toArray e1), (x, instObj 193 d), (d, combD w.params t c k1 k2), (t, _), (c, _)] F10 N10 (fun p hp => hp) (allNe_cons neI1 (allNe_cons neI2 (allNe_cons neI3 (allNe_cons neI4 (allNe_cons neI5 (fun _ h => nomatch h)))))) ⟨List.mem_cons_self, _, _, nt', nc', tb9.set (b + a).toNat xv, ck9.set (b + a).toNat (ow + 1), some (Value.int a ta), rfl, two_ite, ints_set hT9 _ _ _, ints_set hI9 _ _ _, by rw [List.length_set]; exact hl1, by rw [List.length_set]; exact hl2, fun q hqr hqt => ?_, fun j hj => ?_⟩
    · by_cases hqa : q.1 = a
      · have : q = (a, xv) := nodup_key hRI.1 hqr hxv hqa
        subst this
        rw [set_getD_eq (toNat_lt9 hsa hl1), set_getD_eq (toNat_lt9 hsa hl2)]
        exact ⟨rfl, rfl⟩
      · have hqt' : q.1 ∈ List.take i (a₀ :: cs) := by
          rw [htk] at hqt
          rcases List.mem_append.mp hqt with h | h
          · exact h
          · exact absurd (List.mem_singleton.mp h) hqa
        have hsq := hspan q.1 (List.mem_of_mem_take hqt')
        rw [set_getD_ne (toNat_ne8 hsa hsq hqa), set_getD_ne (toNat_ne8 hsa hsq hqa)]
        exact hA9 q hqr hqt'
    · rw [htk] at hj
      have h1 := hj a (List.mem_append_right _ List.mem_cons_self)
      rw [set_getD_ne (toNat_ne9 hsa h1), set_getD_ne (toNat_ne9 hsa h1)]
      exact hB9 j fun a' ha' => hj a' (List.mem_append_left _ ha')
  case done =>
    rintro m₁ nx h tk7 _ ⟨vt', vc', nt', nc', tb9, ck9, on, rfl, rfl, hT9, hI9, hl1, hl2, hA9, hB9⟩ F9 N9
    rw [List.take_of_length_le (by rw [hns.length]; omega)] at hA9 hB9
    have hmem : ∀ q ∈ r, q.1 ∈ a₀ :: cs := fun q hq => hpm.mem_iff.mpr (List.mem_map_of_mem hq)
    k_steps
    refine hq _ _ b _ vt' vc' nt' nc' tb9 ck9 (fun b' o e n => ?_) (N9.get (by k_mem)) (N9.get (by k_mem)) hT9 hI9 ⟨by omega, by omega, by omega, fun q hqr => ?_, fun j hj => hB9 j fun a ha => ?_⟩
    · by_cases hb : b' ∈ [x, d, t, c]
      · rcases List.mem_cons.mp hb with rfl | hb
        · rw [(hM _ List.mem_cons_self).1] at e; cases e; exact N9.get (by k_mem)
        · rcases List.mem_cons.mp hb with rfl | hb
          · rw [(hM _ (List.mem_cons_of_mem _ List.mem_cons_self)).1] at e; cases e; exact N9.get (by k_mem)
          · exact absurd hb n
      · exact F9.keep _ _ (G.of _ _ e hb)
    · have h1 := hspan q.1 (hmem q hqr)
      exact ⟨h1.1, by omega, hfree q.1 (hmem q hqr), hA9 q hqr (hmem q hqr)⟩
    · obtain ⟨q, hqr, rfl⟩ := List.mem_map.mp (hpm.mem_iff.mp ha)
      exact hj q hqr
end
section
example : True := by w_top off; trivial
local macro_rules | `(tactic| walk_at "none of these 0") => `(tactic| skip)
variable {prog : Program} {w : World} {b₀ : Heap} {p : Program} {loose : List Str} {mean : ExcName → Option Value} {mg mb : Str → Option Value}
theorem under_units (A : Around) (C : Addr) (vals : List Value) : (A.under (.builtin "type.__call__" ⟨.ref C :: vals, []⟩)).units = A.units + 1 := rfl
/-- Comb() -/
theorem comb_make (X : (hd.heap_39 w.params).In b₀) (T : Top p loose mean mg mb b₀) {A : Around} {E : Value → Shared → Prop} {s : Shared} {L : Addr} {m : Str → Option Value} {news : List (Addr × Obj)} {Q : Value → Shared → Prop}
    (F : Fr b₀ L s.heap m) (N : News b₀ L s.heap news) (hd : A.depth + 4 < recursionLimit) (hu : A.units + 100 < cLine)
    (hq : ∀ h' tk x d t c k1 k2, Fr b₀ L h' m → News b₀ L h' ((x, instObj 193 d) :: (d, combD w.params t c k1 k2) :: (t, listOf #[] 0) :: (c, listOf #[] 0) :: news) → (@Ne Nat x d ∧ @Ne Nat x t ∧ @Ne Nat x c ∧ @Ne Nat d t ∧ @Ne Nat d c ∧ @Ne Nat t c) →
      (∀ q ∈ news, @Ne Nat q.1 x) → (∀ q ∈ news, @Ne Nat q.1 d) → (∀ q ∈ news, @Ne Nat q.1 t) → (∀ q ∈ news, @Ne Nat q.1 c) → Q (.ref x) { s with heap := h', toks := tk }) :
    wpAny (model prog w) A (call (.ref 193) []) Q E s := by
  refine call_cls F X N (by k_is) (by k_is) (by k_is) fun x d h1 F1 N1 l1 l2 => ?_
  have zd := N1 (d, dictOf [] 0) (List.mem_cons_of_mem _ List.mem_cons_self)
  have zx := N1 (x, instObj 193 d) List.mem_cons_self
  refine comb_init X T (s := { s with heap := h1 }) (by rw [depth_under_make]; omega) (by rw [under_units]; omega) F1.keep zx.2.2 zd.2.2 zx.1 zd.1 (Nat.ne_of_gt l2) fun h2 tk2 t c k1 k2 K2 hd2 fr2 ntc => ?_
  refine ⟨rfl, ?_⟩
  have ft := fr2 (t, listOf #[] 0) List.mem_cons_self
  have fc := fr2 (c, listOf #[] 0) (List.mem_cons_of_mem _ List.mem_cons_self)
  have off : ∀ {a : Addr} {o : Obj}, h1.get? a = some o → @Ne Nat a t ∧ @Ne Nat a c := fun e => And.intro (fun q => nomatch (show some _ = none from e.symm.trans ((congrArg h1.get? q).trans ft.2))) (fun q => nomatch (show some _ = none from e.symm.trans ((congrArg h1.get? q).trans fc.2)))
  have F2 := fr_keep F1 K2 (fun q => zd.2.1 (List.mem_singleton.mp q).symm) (fun a ha => by rw [List.mem_singleton.mp ha]; exact zd.2.2)
  have Nf := news_fresh F1 fr2
  refine hq h2 tk2 x d t c k1 k2 F2 ?_ ⟨Nat.ne_of_gt l2, (off zx.1).1, (off zx.1).2, (off zd.1).1, (off zd.1).2, ntc⟩ (fun q hq => Nat.ne_of_lt (Nat.lt_trans (l1 q hq) l2)) (fun q hq => Nat.ne_of_lt (l1 q hq))
    (fun q hq => (off (N1 q (List.mem_cons_of_mem _ (List.mem_cons_of_mem _ hq))).1).1) (fun q hq => (off (N1 q (List.mem_cons_of_mem _ (List.mem_cons_of_mem _ hq))).1).2)
  refine news_cons (K2 _ _ zx.1 (fun q => absurd (List.mem_singleton.mp q) (Nat.ne_of_gt l2))) zx.2.1 zx.2.2 (news_cons hd2 zd.2.1 zd.2.2 ?_)
  have e : (t, listOf #[] 0) :: (c, listOf #[] 0) :: news = [(t, listOf #[] 0), (c, listOf #[] 0)] ++ news := rfl
  rw [e]
  exact news_app Nf (news_keep (news_sub N1 fun q hq => List.mem_cons_of_mem _ (List.mem_cons_of_mem _ hq)) K2 fun q hq m => Nat.ne_of_lt (l1 q hq) (List.mem_singleton.mp m))
/-- the rows that have been put so far, and nothing else, stand in the comb -/
structure PackedAt (rs : List Rw) (done : List Nat) (bs tb ck : List Int) : Prop where
  len : tb.length = ck.length
  hold : ∀ o ∈ done, ∀ q ∈ rs.getD o [], 0 ≤ bs.getD o 0 + q.1 ∧ bs.getD o 0 + q.1 < ck.length ∧ tb.getD (bs.getD o 0 + q.1).toNat 0 = q.2 ∧ ck.getD (bs.getD o 0 + q.1).toNat 0 = (o : Int) + 1
  only : ∀ j : Nat, ck.getD j 0 ≠ 0 → ∃ o ∈ done, ck.getD j 0 = (o : Int) + 1 ∧ ((j : Int) - bs.getD o 0, tb.getD j 0) ∈ rs.getD o []
theorem packed_put {rs : List Rw} {done : List Nat} {bs tb ck tb' ck' : List Int} {o : Nat} {b : Int} (h : PackedAt rs done bs tb ck) (hp : PutOK tb ck (rs.getD o []) (o : Int) b tb' ck') (ho : o ∉ done) (hob : o < bs.length) :
    PackedAt rs (done ++ [o]) (bs.set o b) tb' ck' := by
  obtain ⟨p1, p2, p3, p4, p5⟩ := hp
  refine ⟨p1, fun o' ho' q hq => ?_, fun j hj => ?_⟩
  · rcases List.mem_append.mp ho' with ho' | ho'
    · have hne : o ≠ o' := fun e => ho (e ▸ ho')
      rw [set_getD_ne hne]
      obtain ⟨h1, h2, h3, h4⟩ := h.hold o' ho' q hq
      have hoff : ∀ q' ∈ rs.getD o [], b + q'.1 ≠ ((bs.getD o' 0 + q.1).toNat : Int) := fun q' hq' e => by
        have hf := (p4 q' hq').2.2.1
        have e2 : b + q'.1 = bs.getD o' 0 + q.1 := by omega
        unfold freeB at hf
        rw [e2] at hf
        rcases Bool.or_eq_true_iff.mp hf with hf | hf
        · have := of_decide_eq_true hf
          omega
        · have := eq_of_beq hf
          omega
      obtain ⟨e1, e2⟩ := p5 _ hoff
      exact ⟨h1, by omega, e1.trans h3, e2.trans h4⟩
    · obtain rfl := List.mem_singleton.mp ho'
      rw [set_getD_eq hob]
      obtain ⟨h1, h2, _, h3, h4⟩ := p4 q hq
      exact ⟨h1, h2, h3, h4⟩
  · by_cases hx : ∃ q ∈ rs.getD o [], b + q.1 = (j : Int)
    · obtain ⟨q, hq, e⟩ := hx
      obtain ⟨h1, h2, _, h3, h4⟩ := p4 q hq
      have ej : (b + q.1).toNat = j := by omega
      rw [ej] at h3 h4
      refine ⟨o, List.mem_append_right _ List.mem_cons_self, h4, ?_⟩
      rw [set_getD_eq hob, h3, show (j : Int) - b = q.1 by omega]
      exact hq
    · obtain ⟨e1, e2⟩ := p5 j fun q hq e => hx ⟨q, hq, e⟩
      rw [e2] at hj
      obtain ⟨o', ho', h1, h2⟩ := h.only j hj
      have hne : o ≠ o' := fun e => ho (e ▸ ho')
      refine ⟨o', List.mem_append_left _ ho', by rw [e2]; exact h1, ?_⟩
      rw [set_getD_ne hne, e1]
      exact h2
theorem all7 {P : Addr × Obj → Prop} {a b c d e f g : Addr × Obj} (h : ∀ q ∈ [a, b, c, d, e, f, g], P q) : P a ∧ P b ∧ P c ∧ P d ∧ P e ∧ P f ∧ P g := by
  simpa only [List.forall_mem_cons, List.not_mem_nil, false_imp_iff, implies_true, and_true] using h
theorem all8 {P : Addr × Obj → Prop} {a b c d e f g i : Addr × Obj} (h : ∀ q ∈ [a, b, c, d, e, f, g, i], P q) : P a ∧ P b ∧ P c ∧ P d ∧ P e ∧ P f ∧ P g ∧ P i := by
  simpa only [List.forall_mem_cons, List.not_mem_nil, false_imp_iff, implies_true, and_true] using h
theorem off_cons {p : Addr × Obj} {l : List (Addr × Obj)} {t c : Addr} (h1 : @Ne Nat p.1 t) (h2 : @Ne Nat p.1 c) (k : ∀ q ∈ l, q.1 ∉ [t, c]) : ∀ q ∈ p :: l, q.1 ∉ [t, c] := fun q hq => by
  rcases List.mem_cons.mp hq with rfl | hq
  · exact not_two h1 h2
  · exact k q hq
/-- the packed form of the rows -/
structure PackedOK (rs : List Rw) (os bl tb ck : List Int) : Prop where
  blen : bl.length = rs.length
  len : tb.length = ck.length
  few : ck.length ≤ 40
  hold : ∀ o < rs.length, os.getD o 0 = (o : Int) → ∀ q ∈ rs.getD o [], 0 ≤ bl.getD o 0 + q.1 ∧ bl.getD o 0 + q.1 < ck.length ∧ tb.getD (bl.getD o 0 + q.1).toNat 0 = q.2 ∧ ck.getD (bl.getD o 0 + q.1).toNat 0 = (o : Int) + 1
  only : ∀ j : Nat, ck.getD j 0 ≠ 0 → ∃ o < rs.length, os.getD o 0 = (o : Int) ∧ ck.getD j 0 = (o : Int) + 1 ∧ ((j : Int) - bl.getD o 0, tb.getD j 0) ∈ rs.getD o []
theorem mem_sel {rs : List Rw} {os : List Int} {n o : Nat} : o ∈ sel rs os n ↔ o < n ∧ os.getD o 0 = (o : Int) ∧ 0 < (rs.getD o []).length := by
  unfold sel
  rw [List.mem_filter, List.mem_range, Bool.and_eq_true, decide_eq_true_eq, decide_eq_true_eq]
theorem sel_nodup (rs : List Rw) (os : List Int) (n : Nat) : (sel rs os n).Nodup := List.Pairwise.filter _ List.nodup_range
theorem order_of {ns : List Int} {l : List Nat} (h : ns.Perm (l.map Int.ofNat)) : ∃ o : List Nat, ns = o.map Int.ofNat ∧ o.Perm l := by
  refine ⟨ns.map Int.toNat, ?_, ?_⟩
  · have hn : ∀ x ∈ ns, x = (Int.ofNat ∘ Int.toNat) x := fun x hx => by
      obtain ⟨n, _, rfl⟩ := List.mem_map.mp (h.mem_iff.mp hx)
      rfl
    rw [List.map_map]
    exact (List.map_id ns).symm.trans (List.map_congr_left hn)
  · have := h.map Int.toNat
    rw [List.map_map] at this
    have e : (Int.toNat ∘ Int.ofNat) = id := by funext x; rfl
    rwa [e, List.map_id] at this
theorem packed_ok {rs : List Rw} {os bs tb ck : List Int} {od : List Nat} (hO : OwnersOK rs os) (hod : od.Perm (sel rs os rs.length)) (h : PackedAt rs od bs tb ck) (few : ck.length ≤ 40) : PackedOK rs os (os.map fun o => bs.getD o.toNat 0) tb ck := by
  have hb : ∀ o < rs.length, os.getD o 0 = (o : Int) → (os.map fun o => bs.getD o.toNat 0).getD o 0 = bs.getD o 0 := fun o ho e => by
    have h1 : o < os.length := by rw [hO.1]; exact ho
    rw [List.getD_eq_getElem?_getD, List.getElem?_map, List.getElem?_eq_getElem h1]
    have h2 : os[o] = (o : Int) := by rw [← e, List.getD_eq_getElem?_getD, List.getElem?_eq_getElem h1]; rfl
    rw [h2]; rfl
  refine ⟨by rw [List.length_map, hO.1], h.len, few, fun o ho e q hq => ?_, fun j hj => ?_⟩
  · rw [hb o ho e]
    exact h.hold o (hod.mem_iff.mpr (mem_sel.mpr ⟨ho, e, List.length_pos_of_mem hq⟩)) q hq
  · obtain ⟨o, ho, h1, h2⟩ := h.only j hj
    have h3 := mem_sel.mp (hod.mem_iff.mp ho)
    exact ⟨o, h3.1, h3.2.1, h1, by rw [hb o h3.1 h3.2.1]; exact h2⟩
section
variable {A : Around} {E : Value → Shared → Prop} {s : Shared} {env : Env} {h₀ : Heap} {x : Str} {body : List Stmt} {Q : Flow → Shared → Prop}
/-- over a list of the ledger, where the loop's own name alone is stored -/
theorem listN_V {l : Addr} {vs : List Value} {nn : Nat} {m₀ : Str → Option Value} {news : List (Addr × Obj)} (J : Nat → List (Addr × Obj) → Prop)
    (hh : A.handled = none) (hl : (l, listOf vs.toArray nn) ∈ news) (F : Fr h₀ env.locals s.heap m₀) (N : News h₀ env.locals s.heap news) (hj : J 0 news)
    (turn : ∀ i v nx h tk I oI, vs[i]? = some v → J i nx → (∀ p ∈ nx, @Ne Nat p.1 I) → Fr h₀ env.locals h (fun y => if y = x then some v else m₀ y) → News h₀ env.locals h ((I, oI) :: nx) →
      wpAny (model prog w) A (execs body env) (TPost h₀ env.locals (fun m nx => m = (fun y => if y = x then some v else m₀ y) ∧ (l, listOf vs.toArray nn) ∈ nx ∧ J (i + 1) nx) I oI { s with heap := h, toks := tk } Q) E { s with heap := h, toks := tk })
    (done : ∀ on nx h tk, J vs.length nx → Fr h₀ env.locals h (fun y => if y = x then on else m₀ y) → News h₀ env.locals h nx → Q .next { s with heap := h, toks := tk }) :
    wpAny (model prog w) A (pyIter (.ref l)) (fun it s₂ => LoopAtV prog w A h₀ env x body Q E it s₂) E s := by
  refine listN_G (J := fun i m nx => ∃ on : Option Value, m = (fun y => if y = x then on else m₀ y) ∧ J i nx) hh hl F N ⟨m₀ x, ?_, hj⟩ ?_ ?_
  · funext y
    by_cases h : y = x
    · rw [if_pos h, h]
    · rw [if_neg h]
  · rintro i v m₁ nx h tk I oI hv hm ⟨on, rfl, hJ⟩ hoff F' N'
    rw [two_ite] at F'
    refine wpAny_mono (turn i v nx h tk I oI hv hJ hoff F' N') (fun f s₂ p => ?_) fun _ _ e => e
    cases f with
    | ret v => exact p
    | brk => exact p
    | next => obtain ⟨a, b, c, d, e1, e2, e3, e4, e5, e6, e7⟩ := p; exact ⟨a, b, c, d, e1, e2, e3, e4, e6, some v, e5, e7⟩
    | cont => obtain ⟨a, b, c, d, e1, e2, e3, e4, e5, e6, e7⟩ := p; exact ⟨a, b, c, d, e1, e2, e3, e4, e6, some v, e5, e7⟩
  · rintro m₁ nx h tk _ ⟨on, rfl, hJ⟩ F' N'
    exact done on nx h tk hJ F' N'
end
local macro_rules | `(tactic| walk_at "call ref") => `(tactic| (refine Stop.in ?_))
local macro_rules | `(tactic| walk_at "pyIter ref") => `(tactic| (refine Stop.in ?_))
local macro_rules | `(tactic| walk_at "subscriptTail") => `(tactic| (k_here; k_dflt (refine' item_known (by assumption) (by assumption) (by assumption) (by omega) (by omega) ?_)))
local macro_rules | `(tactic| walk_at "setItem ref int") => `(tactic| (refine Stop.in ?_))
local macro_rules | `(tactic| walk_at "CompSrc") => `(tactic| refine Stop.in ?_)
local macro_rules | `(tactic| walk_at "exec For Name Call cons nil") => `(tactic| (k_here; (rename Fr _ _ _ _ => lF'); (with_unfolding_all refine' For_invVF lF' ?k1 ?k2 ?_; (case k1 => exact rfl); (case k2 => exact rfl); k_whole)))
local macro_rules | `(tactic| walk_at "eval ListComp") => `(tactic| (k_here; k_dflt (refine LCg.ListComp_U (F₀ := by k_asm) (by with_unfolding_all rfl) (by decide) (by rfl) (by decide) (by rfl) ?_)))
theorem pack_spec (X : (hd.heap_39 w.params).In b₀) (T : Top p loose mean mg mb b₀) {dp un : Nat} {fr : Option (List Env)} {gd : Option (List Code)} {s : Shared} {l : Addr} {ys : List Value} {rs : List Rw} {Q E : Value → Shared → Prop}
    (hd : dp + 60 < recursionLimit) (hu : un + 600 < cLine) (S : b₀.StaysIn s.heap) (hl : s.heap.IsList l ys.toArray) (hR : All2 (RowAt prog w (inH s.heap)) ys rs) (hlen : rs.length ≤ 3)
    (hq : ∀ h' tk a bl t c vb nb vt nt vc nc os ob tb ck, Keep [] s.heap h' → Fresh s.heap h' [(a, tupOf [.ref bl, .ref t, .ref c] 0), (bl, listOf vb.toArray nb), (t, listOf vt.toArray nt), (c, listOf vc.toArray nc)] →
      IntsAre vb ob → IntsAre vt tb → IntsAre vc ck → OwnersOK rs os → PackedOK rs os ob tb ck → Q (.ref a) { s with heap := h', toks := tk }) :
    wpAny (model prog w) (ar dp un fr gd) (call (.ref 202) [.ref l]) Q E s := by
  refine enterC X T S (mt := []) (fun _ h => nomatch h) (by k_is) (by k_is) (by show dp < recursionLimit; omega) (BindsTo.of_eq (binds := [("rows", .ref l)]) rfl) (by rfl) (by decide +kernel) rfl rfl rfl ?_
  intro g L' h₁ tk₁ cells G F N Yc K' T' hk₁ hL' hcl l1
  k_cells Yc
  try simp only [List.cons_append, List.nil_append] at N
  have hlg : g.IsList l ys.toArray := by obtain ⟨o, ho, r⟩ := hl; exact ⟨o, G.of _ _ ho (fun h => nomatch h), r⟩
  have hRg : All2 (RowAt prog w (inH g)) ys rs := hR.mono fun _ _ q => q.mono fun a o e => G.of _ _ e (fun h => nomatch h)
  have hyl := hRg.length
  k_steps
  unfold Stop
  refine owners_spec K' T' (by dsimp only [ar, Around.deeper]; first | exact room1 hd (by decide) | exact room0 hd (by decide) | omega) (by dsimp only [ar, Around.deeper]; first | exact room0 hu (by decide) | omega) F.keep (F.lst hlg) (hRg.mono fun _ _ q => q.mono fun a o e => F.keep _ _ e) (by omega) fun h2 tk2 aO vO nO os K2 fO gO hI hO => ?_
  have F2 := fr_keep F K2 (by simp) (by simp)
  have N2 : News g L' h2 ((aO, W.listOf vO.toArray nO) :: [(L' + 1, _)]) := news_app (news_fresh (new := [(aO, _)]) F (fun p hp => by rw [List.mem_singleton.mp hp]; exact ⟨gO, fO⟩)) (news_keep N K2 (by simp))
  have neO : @Ne Nat (L' + 1) aO := fun e => by
    have := (N _ List.mem_cons_self).1
    rw [show (L' + 1, _).1 = aO from e, fO] at this
    cases this
  clear F N
  k_steps
  unfold Stop
  rename_i F3 N3
  refine comb_make K' T' F3 N3 (by dsimp only [ar, Around.deeper]; first | exact room1 hd (by decide) | exact room0 hd (by decide) | omega) (by dsimp only [ar, Around.deeper]; first | exact room0 hu (by decide) | omega) fun h4 tk4 x d t c k1 k2 F4 N4 ne4 o1 o2 o3 o4 => ?_
  obtain ⟨nxd, nxt, nxc, ndt, ndc, ntc⟩ := id ne4
  have ox1 := o1 _ List.mem_cons_self
  have ox2 := o1 _ (List.mem_cons_of_mem _ List.mem_cons_self)
  have od1 := o2 _ List.mem_cons_self
  have od2 := o2 _ (List.mem_cons_of_mem _ List.mem_cons_self)
  have ot1 := o3 _ List.mem_cons_self
  have ot2 := o3 _ (List.mem_cons_of_mem _ List.mem_cons_self)
  have oc1 := o4 _ List.mem_cons_self
  have oc2 := o4 _ (List.mem_cons_of_mem _ List.mem_cons_self)
  dsimp only at ox1 ox2 od1 od2 ot1 ot2 oc1 oc2
  clear o1 o2 o3 o4
  k_steps
  unfold Stop
  rename_i h5 F5 N5
  refine LCg.CompSrc.base (by rfl) F5 N5 hlg (by rw [sizeLine_eq, List.size_toArray]; omega) ?_
  intro gh
  refine compRest_inv (Inv := fun i zs news => news = [(x, instObj 193 d), (d, combD w.params t c k1 k2), (t, W.listOf #[] 0), (c, W.listOf #[] 0), (aO, W.listOf vO.toArray nO), (L' + 1, _)] ∧ IntsAre zs (List.replicate i 0)) ?step ?fin _ 0 [] _ (Nat.zero_add _) ⟨rfl, .nil⟩
  case step =>
    rintro i zs news v I oI C oC D2 m₂ h tk E' hi ⟨rfl, hA2⟩ hv hC hx F6 N6 off ne
    k_steps
    exact CPost.intro (by k_asm) (by assumption) _ (fun p hp => hp) off (Or.inl hlg) ⟨rfl, by rw [List.replicate_succ']; exact IntsAre.append hA2 (.cons _ _ .nil)⟩
  rintro zs news ⟨rfl, hZ⟩
  rw [List.size_toArray, hyl] at hZ
  k_steps
  unfold Stop
  rename_i B h6 tk6 ltB h7 oC F7 N7 dC
  obtain ⟨nB1, nB2, nB3, nB4, nB5, nB6⟩ := ltB
  refine order_spec K' T' (by dsimp only [ar, Around.deeper]; first | exact room1 hd (by decide) | exact room0 hd (by decide) | omega) (by dsimp only [ar, Around.deeper]; first | exact room0 hu (by decide) | omega) F7.keep (F7.lst hlg) (hRg.mono fun _ _ q => q.mono fun a o e => F7.keep _ _ e) hlen (News.isList N7 (by k_mem)) hI hO.1 fun h8 tk8 aD vD nD ns K8 fD gD hID hpD => ?_
  have F8 := fr_keep F7 K8 (by simp) (by simp)
  have offD : ∀ q ∈ [(B, LCg.lst zs), (x, instObj 193 d), (d, combD w.params t c k1 k2), (t, W.listOf #[] 0), (c, W.listOf #[] 0), (aO, W.listOf vO.toArray nO), (L' + 1, oC)], @Ne Nat q.1 aD := fun q hq e => by
    have := (N7 q hq).1
    rw [e] at this
    exact nomatch this.symm.trans fD
  have N8 : News g L' h8 ((aD, W.listOf vD.toArray nD) :: [(B, LCg.lst zs), (x, instObj 193 d), (d, combD w.params t c k1 k2), (t, W.listOf #[] 0), (c, W.listOf #[] 0), (aO, W.listOf vO.toArray nO), (L' + 1, oC)]) := news_app (news_fresh (new := [(aD, _)]) F7 (fun p hp => by rw [List.mem_singleton.mp hp]; exact ⟨gD, fD⟩)) (news_keep N7 K8 (by simp))
  obtain ⟨od, rfl, hod⟩ := order_of hpD
  clear F7 N7
  k_steps
  unfold Stop
  obtain ⟨nD1, nD2, nD3, nD4, nD5, nD6, nD7⟩ := all7 (P := fun q => @Ne Nat q.1 aD) offD
  dsimp only at nD1 nD2 nD3 nD4 nD5 nD6 nD7
  clear offD
  have hodl := hod.length_eq
  have hsl := sel_len rs os rs.length
  have hvD := hID.length
  rw [List.length_map] at hvD
  refine listN_V (J := fun i nx => ∃ vB nB bs vt nt tb vc nc ck, nx = [(aD, W.listOf vD.toArray nD), (B, W.listOf vB.toArray nB), (x, instObj 193 d), (d, combD w.params t c k1 k2), (t, W.listOf vt.toArray nt), (c, W.listOf vc.toArray nc), (aO, W.listOf vO.toArray nO), (L' + 1, oC)] ∧
    IntsAre vB bs ∧ bs.length = rs.length ∧ IntsAre vt tb ∧ IntsAre vc ck ∧ ck.length ≤ 10 * i ∧ PackedAt rs (List.take i od) bs tb ck) (by rfl) List.mem_cons_self F8 N8 ⟨zs, _, _, [], 0, [], [], 0, [], rfl, hZ, by simp, .nil, .nil, by simp, ⟨rfl, by simp, by simp⟩⟩ ?turn ?done
  case turn =>
    rintro i v nx h tk9 I oI hv ⟨vB, nB, bs, vt, nt, tb, vc, nc, ck, rfl, hBI, hbl, hTI, hCI, hcl9, hP⟩ hoff F9 N9
    obtain ⟨o', to, rfl, ho⟩ := hID.at i v hv
    rw [List.getElem?_map] at ho
    obtain ⟨o, hoi, rfl⟩ := Option.map_eq_some_iff.mp ho
    have hsel := mem_sel.mp (hod.mem_iff.mp (List.mem_of_getElem? hoi))
    have hio : i < od.length := (List.getElem?_eq_some_iff.mp hoi).1
    have hnot : o ∉ List.take i od := fun hm => by
      have hnd : od.Nodup := hod.symm.nodup (sel_nodup ..)
      obtain ⟨j, hj⟩ := List.mem_iff_getElem?.mp hm
      rw [List.getElem?_take] at hj
      split at hj
      · have := (List.getElem?_inj (List.getElem?_eq_some_iff.mp hj).1 hnd).mp (hj.trans hoi.symm)
        omega
      · cases hj
    obtain ⟨v9, hv9⟩ : ∃ v, ys[(Int.ofNat o).toNat]? = some v := ⟨_, List.getElem?_eq_getElem (by show o < ys.length; omega)⟩
    obtain ⟨r, hr9, rd, ro, rfl, hrd, lod, hRO, hRI⟩ := hRg.get _ _ hv9
    replace hrd : g.get? rd = some ro := hrd
    have hri : rs.getD o [] = r := by rw [List.getD_eq_getElem?_getD, show o = (Int.ofNat o).toNat from rfl, hr9]; rfl
    have hob : Int.ofNat o = (o : Int) := rfl
    rw [hob] at hv9 F9
    obtain ⟨ni1, ni2, ni3, ni4, ni5, ni6, ni7, ni8⟩ := all8 (P := fun q => @Ne Nat q.1 I) hoff
    dsimp only at ni1 ni2 ni3 ni4 ni5 ni6 ni7 ni8
    have hiO : i < 3 := by omega
    k_steps
    unfold Stop
    have sub4 : ∀ q ∈ [(x, instObj 193 d), (d, combD w.params t c k1 k2), (t, W.listOf vt.toArray nt), (c, W.listOf vc.toArray nc)], q ∈ [(I, oI), (aD, W.listOf vD.toArray nD), (B, W.listOf vB.toArray nB), (x, instObj 193 d), (d, combD w.params t c k1 k2), (t, W.listOf vt.toArray nt), (c, W.listOf vc.toArray nc), (aO, W.listOf vO.toArray nO), (L' + 1, oC)] :=
      fun q hq => List.mem_cons_of_mem _ (List.mem_cons_of_mem _ (List.mem_cons_of_mem _ (List.mem_append_left [(aO, W.listOf vO.toArray nO), (L' + 1, oC)] hq)))
    have hrl : rd ∉ [x, d, t, c] := fun hm => by
      obtain ⟨q, hq, e⟩ := List.mem_map.mp (show rd ∈ [(x, instObj 193 d), (d, combD w.params t c k1 k2), (t, W.listOf vt.toArray nt), (c, W.listOf vc.toArray nc)].map (·.1) from hm)
      have := (N9 q (sub4 q hq)).2.2
      rw [e, hrd] at this; cases this
    refine put_spec (nt := nt) (nc := nc) (vt := vt) (vc := vc) (k1 := k1) (k2 := k2) (tb := tb) (ck := ck) K' T' (by dsimp only [ar, Around.deeper]; first | exact room1 hd (by decide) | exact room0 hd (by decide) | omega) (by dsimp only [ar, Around.deeper]; first | exact room0 hu (by decide) | omega) F9.keep (fun q hq => by have z := N9 q (sub4 q hq); exact ⟨z.1, z.2.2⟩) hTI hCI (by omega) hP.len (by omega) ne4 (F9.keep _ _ hrd) hrl lod hRO hRI (by rw [← hri]; exact hsel.2.2) fun h10 tk10 b tkb vt' vc' nt' nc' tb' ck' K10 ht10 hc10 hT10 hC10 hput => ?_
    have zt := N9 (t, W.listOf vt.toArray nt) (by k_mem)
    have zc := N9 (c, W.listOf vc.toArray nc) (by k_mem)
    have NK : News g L' h10 [(I, oI), (aD, W.listOf vD.toArray nD), (B, W.listOf vB.toArray nB), (x, instObj 193 d), (d, combD w.params t c k1 k2), (aO, W.listOf vO.toArray nO), (L' + 1, oC)] := news_keep (news_sub N9 (by lcg_sub)) K10
      (off_cons (Ne.symm ni5) (Ne.symm ni6) (off_cons (Ne.symm nD4) (Ne.symm nD5) (off_cons (Ne.symm nB3) (Ne.symm nB4) (off_cons nxt nxc (off_cons ndt ndc (off_cons ot1 oc1 (off_cons ot2 oc2 (fun _ h => nomatch h))))))))
    have N10 : News g L' h10 [(t, W.listOf vt'.toArray nt'), (c, W.listOf vc'.toArray nc'), (I, oI), (aD, W.listOf vD.toArray nD), (B, W.listOf vB.toArray nB), (x, instObj 193 d), (d, combD w.params t c k1 k2), (aO, W.listOf vO.toArray nO), (L' + 1, oC)] := news_cons ht10 zt.2.1 zt.2.2 (news_cons hc10 zc.2.1 zc.2.2 NK)
    have F10 := fr_keep F9 K10 (not_two (Ne.symm zt.2.1) (Ne.symm zc.2.1)) (fun a ha => by
      rcases List.mem_cons.mp ha with rfl | ha
      · exact zt.2.2
      · rw [List.mem_singleton.mp ha]; exact zc.2.2)
    have hput2 : PutOK tb ck (rs.getD o []) (o : Int) b tb' ck' := by rw [hri]; exact hput
    have hPut := packed_put hP hput2 hnot (by omega)
    have htk : List.take (i + 1) od = List.take i od ++ [o] := by rw [List.take_add_one, hoi]; rfl
    have hvBl := hBI.length
    have N12 : News g L' h10 ((B, W.listOf vB.toArray nB) :: [(t, W.listOf vt'.toArray nt'), (c, W.listOf vc'.toArray nc'), (I, oI), (aD, W.listOf vD.toArray nD), (x, instObj 193 d), (d, combD w.params t c k1 k2), (aO, W.listOf vO.toArray nO), (L' + 1, oC)]) := news_sub N10 (by lcg_sub)
    have hBo : ∀ p ∈ [(t, W.listOf vt'.toArray nt'), (c, W.listOf vc'.toArray nc'), (I, oI), (aD, W.listOf vD.toArray nD), (x, instObj 193 d), (d, combD w.params t c k1 k2), (aO, W.listOf vO.toArray nO), (L' + 1, oC)], @Ne Nat p.1 B := allNe_cons nB3 (allNe_cons nB4 (allNe_cons (Ne.symm ni2) (allNe_cons (Ne.symm nD1) (allNe_cons nB1 (allNe_cons nB2 (allNe_cons nB5 (allNe_cons nB6 (fun _ h => nomatch h))))))))
    clear F9 N9 N10 NK
    k_steps
    unfold Stop
    refine setAt_led (n := nB) F10 N12 (.head hBo) (by omega) (by omega) (by omega) fun h12 F13 N13 => ?_
    clear F10 N12
    k_steps
    exact TEnd.intro [(aD, W.listOf vD.toArray nD), (B, W.listOf (vB.set o (Value.int b tkb)).toArray nB), (x, instObj 193 d), (d, combD w.params t c k1 k2), (t, W.listOf vt'.toArray nt'), (c, W.listOf vc'.toArray nc'), (aO, W.listOf vO.toArray nO), (L' + 1, oC)] F13 N13 (by lcg_sub) (allNe_cons ni1 (allNe_cons ni2 (allNe_cons ni3 (allNe_cons ni4 (allNe_cons ni5 (allNe_cons ni6 (allNe_cons ni7 (allNe_cons ni8 (fun _ h => nomatch h))))))))) ⟨rfl, List.mem_cons_self, _, nB, bs.set o b, vt', nt', tb', vc', nc', ck', rfl, ints_set hBI _ _ _, by rw [List.length_set]; exact hbl, hT10, hC10, by have := hput.2.2.1; omega, htk ▸ hPut⟩
  case done =>
    rintro on nx h tk9 ⟨vB, nB, bs, vt, nt, tb, vc, nc, ck, rfl, hBI, hbl, hTI, hCI, hcl9, hP⟩ F9 N9
    rw [hvD, List.take_of_length_le (Nat.le_refl _)] at hP
    have hvO := hI.length
    have hosl := hO.1
    have hvB := hBI.length
    k_steps
    unfold Stop
    refine LCg.CompSrc.ledger (k := nO) (by rfl) F9 N9 (show (aO, W.listOf vO.toArray nO) ∈ _ by k_mem) (by rw [sizeLine_eq, List.size_toArray]; omega) ?_
    intro gh2
    refine compRest_inv (Inv := fun i zs2 news => news = [(aD, W.listOf vD.toArray nD), (B, W.listOf vB.toArray nB), (x, instObj 193 d), (d, combD w.params t c k1 k2), (t, W.listOf vt.toArray nt), (c, W.listOf vc.toArray nc), (aO, W.listOf vO.toArray nO), (L' + 1, oC)] ∧ IntsAre zs2 ((List.take i os).map fun o => bs.getD o.toNat 0)) ?step2 ?fin2 _ 0 [] _ (Nat.zero_add _) ⟨rfl, .nil⟩
    case step2 =>
      rintro i zs2 news v I oI C oC2 D2 m₂ h10 tk10 E' hi ⟨rfl, hA2⟩ hv hC hx F6 N6 off ne
      obtain ⟨o, to, rfl, ho⟩ := hI.at i v (by simpa using hv)
      obtain ⟨o', ho', hle, _⟩ := hO.2 i (by rw [← hosl]; exact (List.getElem?_eq_some_iff.mp ho).1)
      obtain rfl : o = (o' : Int) := Option.some.inj (ho.symm.trans ho')
      have hir : i < rs.length := by rw [← hosl]; exact (List.getElem?_eq_some_iff.mp ho).1
      k_steps
      refine CPost.intro (by k_asm) (by assumption) _ (fun p hp => hp) off (Or.inr ⟨W.listOf vO.toArray nO, by k_mem, rfl, nO, rfl⟩) ⟨rfl, ?_⟩
      rw [List.take_add_one, ho, List.map_append]
      exact IntsAre.append hA2 (.cons _ _ .nil)
    rintro zs2 news ⟨rfl, hZ2⟩
    rw [List.take_of_length_le (by rw [List.size_toArray]; omega)] at hZ2
    k_steps
    rename_i D7 h7 tk7 o7 D8 h8 F99 N99 l8
    have hfew : ck.length ≤ 40 := by
      have : vD.length ≤ 3 := by omega
      omega
    have N4 : News g L' h8 [(D8, tupOf [.ref D7, .ref t, .ref c] 0), (D7, LCg.lst zs2), (t, W.listOf vt.toArray nt), (c, W.listOf vc.toArray nc)] := news_sub N99 (by lcg_sub)
    exact hq _ _ D8 D7 t c zs2 _ vt nt vc nc os _ tb ck (keep_of G F99) (fun q hq => ⟨N4.get hq, G.fresh (News.fresh N4 hq) (fun h => nomatch h)⟩) hZ2 hTI hCI hO (packed_ok hO hod hP hfew)
end
section
example : True := by w_top off; trivial
variable {prog : Program} {w : World} {b₀ : Heap} {p : Program} {loose : List Str} {mean : ExcName → Option Value} {mg mb : Str → Option Value}
theorem owners_unique {rs : List Rw} {os os' : List Int} (h : OwnersOK rs os) (h' : OwnersOK rs os') : os = os' := by
  refine List.ext_getElem? fun j => ?_
  rcases Nat.lt_or_ge j rs.length with hj | hj
  · obtain ⟨o, e, _, s1, m1⟩ := h.2 j hj
    obtain ⟨o', e', _, s2, m2⟩ := h'.2 j hj
    have : o = o' := by
      rcases Nat.lt_trichotomy o o' with c | c | c
      · exact absurd s1 (m2 o c)
      · exact c
      · exact absurd s2 (m1 o' c)
    rw [e, e', this]
  · rw [List.getElem?_eq_none (by rw [h.1]; exact hj), List.getElem?_eq_none (by rw [h'.1]; exact hj)]
abbrev attrE (P : Params) (n : Str) (k : Nat) (v : Value) : DictEntry := ⟨PyData.keyHash P n, Value.str n k, v⟩
abbrev rowsD (P : Params) (b t c o : Addr) (k1 k2 k3 k4 : Nat) : Obj := dictOf [attrE P (Str.ofString "bases") k1 (.ref b), attrE P (Str.ofString "table") k2 (.ref t), attrE P (Str.ofString "check") k3 (.ref c), attrE P (Str.ofString "owners") k4 (.ref o)] 4
theorem rows_init (X : (hd.heap_39 w.params).In b₀) (T : Top p loose mean mg mb b₀) {A : Around} {s : Shared} {x d b t c o : Addr} {R : Result → Shared → Prop} (hd : A.depth + 2 < recursionLimit) (hu : A.units + 60 < cLine) (S : b₀.StaysIn s.heap) (hx0 : b₀.get? x = none) (hd0 : b₀.get? d = none)
    (hx : s.heap.get? x = some (instObj 273 d)) (hdx : s.heap.get? d = some (dictOf [] 0)) (hne : @Ne Nat x d)
    (hq : ∀ h' tk k1 k2 k3 k4, Keep [d] s.heap h' → h'.get? d = some (rowsD w.params b t c o k1 k2 k3 k4) → R (.ok (.ret .none)) { s with heap := h', toks := tk }) :
    codeAny (model prog w) A (.call (.ref 223) ⟨[.ref x, .ref b, .ref t, .ref c, .ref o], []⟩) R s := by
  refine enterK X T S (mt := [(x, instObj 273 d), (d, dictOf [] 0)]) ?hM (by k_is) (by k_is) (by omega) (BindsTo.of_eq (binds := [("self", .ref x), ("bases", .ref b), ("table", .ref t), ("check", .ref c), ("owners", .ref o)]) rfl) (locs rfl) rfl rfl rfl (by decide) ?_
  case hM =>
    intro q hq
    rcases List.mem_cons.mp hq with rfl | hq
    · exact ⟨hx, hx0⟩
    · rcases List.mem_cons.mp hq with rfl | hq
      · exact ⟨hdx, hd0⟩
      · cases hq
  intro g L' h₁ tk₁ G F N K' T' hk₁ hL' lt
  k_lt lt
  k_steps
  rename_i h9 F9 N9
  refine hq _ _ _ _ _ _ (fun b o e n => ?_) (News.get N9 (by k_mem))
  by_cases hb : b = x
  · subst hb
    rw [hx] at e
    exact (Option.some.inj e) ▸ News.get N9 (by k_mem)
  · exact F9.keep _ _ (G.of _ _ e (not_two hb fun q => n (List.mem_singleton.mpr q)))
/-- PackedRows(bases, table, check, owners) -/
theorem rows_make (X : (hd.heap_39 w.params).In b₀) (T : Top p loose mean mg mb b₀) {A : Around} {E : Value → Shared → Prop} {s : Shared} {L : Addr} {m : Str → Option Value} {news : List (Addr × Obj)} {b t c o : Addr} {Q : Value → Shared → Prop}
    (F : Fr b₀ L s.heap m) (N : News b₀ L s.heap news) (hd : A.depth + 4 < recursionLimit) (hu : A.units + 100 < cLine)
    (hq : ∀ h' tk x d k1 k2 k3 k4, Fr b₀ L h' m → News b₀ L h' ((x, instObj 273 d) :: (d, rowsD w.params b t c o k1 k2 k3 k4) :: news) → (∀ q ∈ news, q.1 < d) → d < x → Q (.ref x) { s with heap := h', toks := tk }) :
    wpAny (model prog w) A (call (.ref 273) [.ref b, .ref t, .ref c, .ref o]) Q E s := by
  refine call_cls F X N (by k_is) (by k_is) (by k_is) fun x d h1 F1 N1 l1 l2 => ?_
  have zd := N1 (d, dictOf [] 0) (List.mem_cons_of_mem _ List.mem_cons_self)
  have zx := N1 (x, instObj 273 d) List.mem_cons_self
  refine rows_init X T (s := { s with heap := h1 }) (by rw [depth_under_make]; omega) (by rw [under_units]; omega) F1.keep zx.2.2 zd.2.2 zx.1 zd.1 (Nat.ne_of_gt l2) fun h2 tk2 k1 k2 k3 k4 K2 hd2 => ?_
  refine ⟨rfl, ?_⟩
  have F2 := fr_keep F1 K2 (fun q => zd.2.1 (List.mem_singleton.mp q).symm) (fun a ha => by rw [List.mem_singleton.mp ha]; exact zd.2.2)
  refine hq h2 tk2 x d k1 k2 k3 k4 F2 ?_ l1 l2
  exact news_cons (K2 _ _ zx.1 (fun q => absurd (List.mem_singleton.mp q) (Nat.ne_of_gt l2))) zx.2.1 zx.2.2 (news_cons hd2 zd.2.1 zd.2.2 (news_keep (news_sub N1 fun q hq => List.mem_cons_of_mem _ (List.mem_cons_of_mem _ hq)) K2 fun q hq m => Nat.ne_of_lt (l1 q hq) (List.mem_singleton.mp m)))
local macro_rules | `(tactic| walk_at "call ref") => `(tactic| (refine Stop.in ?_))
theorem packed_spec (X : (hd.heap_39 w.params).In b₀) (T : Top p loose mean mg mb b₀) {dp un : Nat} {fr : Option (List Env)} {gd : Option (List Code)} {s : Shared} {l : Addr} {ys : List Value} {rs : List Rw} {Q E : Value → Shared → Prop}
    (hd : dp + 80 < recursionLimit) (hu : un + 800 < cLine) (S : b₀.StaysIn s.heap) (hl : s.heap.IsList l ys.toArray) (hR : All2 (RowAt prog w (inH s.heap)) ys rs) (hlen : rs.length ≤ 3)
    (hq : ∀ h' tk x d b t c o k1 k2 k3 k4 vb nb vt nt vc nc vo no os ob tb ck, Keep [] s.heap h' → Fresh s.heap h' [(x, instObj 273 d), (d, rowsD w.params b t c o k1 k2 k3 k4), (b, listOf vb.toArray nb), (t, listOf vt.toArray nt), (c, listOf vc.toArray nc), (o, listOf vo.toArray no)] →
      IntsAre vb ob → IntsAre vt tb → IntsAre vc ck → IntsAre vo os → OwnersOK rs os → PackedOK rs os ob tb ck → Q (.ref x) { s with heap := h', toks := tk }) :
    wpAny (model prog w) (ar dp un fr gd) (call (.ref 284) [.ref l]) Q E s := by
  refine enterP X T S (mt := []) (fun _ h => nomatch h) (by k_is) (by k_is) (by show dp < recursionLimit; omega) (BindsTo.of_eq (binds := [("rows", .ref l)]) rfl) (locs rfl) rfl rfl rfl (by decide) ?_
  intro g L' h₁ tk₁ G F N K' T' hk₁ hL'
  have hlg : g.IsList l ys.toArray := by obtain ⟨o, ho, r⟩ := hl; exact ⟨o, G.of _ _ ho (fun h => nomatch h), r⟩
  have hRg : All2 (RowAt prog w (inH g)) ys rs := hR.mono fun _ _ q => q.mono fun a o e => G.of _ _ e (fun h => nomatch h)
  k_steps
  unfold Stop
  refine pack_spec K' T' (by dsimp only [ar, Around.deeper]; first | exact room1 hd (by decide) | exact room0 hd (by decide) | omega) (by dsimp only [ar, Around.deeper]; first | exact room0 hu (by decide) | omega) F.keep (F.lst hlg) (hRg.mono fun _ _ q => q.mono fun a o e => F.keep _ _ e) hlen fun h2 tk2 a b t c vb nb vt nt vc nc os ob tb ck K2 fr2 hB hT hC hO hP => ?_
  have F2 := fr_keep F K2 (by simp) (by simp)
  have N2 := news_fresh F fr2
  clear F N
  k_steps
  unfold Stop
  rename_i F3 N3
  refine owners_spec K' T' (by dsimp only [ar, Around.deeper]; first | exact room1 hd (by decide) | exact room0 hd (by decide) | omega) (by dsimp only [ar, Around.deeper]; first | exact room0 hu (by decide) | omega) F3.keep (F3.lst hlg) (hRg.mono fun _ _ q => q.mono fun a o e => F3.keep _ _ e) (by omega) fun h4 tk4 aO vO nO os' K4 fO gO hI hO' => ?_
  obtain rfl := owners_unique hO hO'
  have F4 := fr_keep F3 K4 (by simp) (by simp)
  have N4 : News g L' h4 [(aO, W.listOf vO.toArray nO), (a, tupOf [.ref b, .ref t, .ref c] 0), (b, W.listOf vb.toArray nb), (t, W.listOf vt.toArray nt), (c, W.listOf vc.toArray nc)] := news_app (news_fresh (new := [(aO, _)]) F3 (fun p hp => by rw [List.mem_singleton.mp hp]; exact ⟨gO, fO⟩)) (news_keep N3 K4 (by simp))
  clear F3 N3
  k_steps
  unfold Stop
  refine rows_make K' T' F4 N4 (by dsimp only [ar, Around.deeper]; first | exact room1 hd (by decide) | exact room0 hd (by decide) | omega) (by dsimp only [ar, Around.deeper]; first | exact room0 hu (by decide) | omega) fun h5 tk5 x d k1 k2 k3 k4 F5 N5 l5 l6 => ?_
  have N6 : News g L' h5 [(x, instObj 273 d), (d, rowsD w.params b t c aO k1 k2 k3 k4), (b, W.listOf vb.toArray nb), (t, W.listOf vt.toArray nt), (c, W.listOf vc.toArray nc), (aO, W.listOf vO.toArray nO)] := by
    intro q hq
    refine N5 q ?_
    simp only [List.mem_cons, List.not_mem_nil, or_false] at hq ⊢
    rcases hq with e | e | e | e | e | e <;> simp [e]
  k_steps
  exact hq _ _ x d b t c aO k1 k2 k3 k4 vb nb vt nt vc nc vO nO os ob tb ck (keep_of G F5) (fun q hq => ⟨N6.get hq, G.fresh (News.fresh N6 hq) (fun h => nomatch h)⟩) hB hT hC hI hO hP
end
section
example : True := by w_top off; trivial
variable {prog : Program} {w : World} {b₀ : Heap} {p : Program} {loose : List Str} {mean : ExcName → Option Value} {mg mb : Str → Option Value}
/-- what the dict of owner o holds once the cells before i are read -/
def heldAt (ob tb ck : List Int) (i : Nat) (o : Nat) : Rw := ((List.range i).filter fun j => decide (ck.getD j 0 = (o : Int) + 1)).map fun j : Nat => ((j : Int) - ob.getD o 0, tb.getD j 0)
theorem heldAt_succ (ob tb ck : List Int) (i o : Nat) : heldAt ob tb ck (i + 1) o = heldAt ob tb ck i o ++ (if ck.getD i 0 = (o : Int) + 1 then [((i : Int) - ob.getD o 0, tb.getD i 0)] else []) := by
  unfold heldAt
  rw [List.range_succ, List.filter_append, List.map_append]
  congr 1
  by_cases h : ck.getD i 0 = (o : Int) + 1
  · rw [if_pos h, List.filter_cons_of_pos (by rw [decide_eq_true_eq]; exact h)]; rfl
  · rw [if_neg h, List.filter_cons_of_neg (by rw [decide_eq_true_eq]; exact h)]; rfl
theorem heldAt_key {ob tb ck : List Int} {i o : Nat} {q : Int × Int} (h : q ∈ heldAt ob tb ck i o) : q.1 < (i : Int) - ob.getD o 0 := by
  obtain ⟨j, hj, rfl⟩ := List.mem_map.mp h
  have := List.mem_range.mp (List.mem_filter.mp hj).1
  show (j : Int) - ob.getD o 0 < _
  omega
theorem heldAt_len (ob tb ck : List Int) (i o : Nat) : (heldAt ob tb ck i o).length ≤ i := by
  unfold heldAt
  rw [List.length_map]
  have := List.length_filter_le (fun j => decide (ck.getD j 0 = (o : Int) + 1)) (List.range i)
  rwa [List.length_range] at this
theorem held_same {rs : List Rw} {os ob tb ck : List Int} (h : PackedOK rs os ob tb ck) {o : Nat} (ho : o < rs.length) (hoo : os.getD o 0 = (o : Int)) : Same (heldAt ob tb ck ck.length o) (rs.getD o []) := fun q => by
  constructor
  · intro hq
    obtain ⟨j, hj, rfl⟩ := List.mem_map.mp hq
    have h1 := of_decide_eq_true (List.mem_filter.mp hj).2
    obtain ⟨o', _, _, h2, h3⟩ := h.only j (by rw [h1]; omega)
    have : o = o' := by omega
    subst this
    exact h3
  · intro hq
    obtain ⟨h1, h2, h3, h4⟩ := h.hold o ho hoo q hq
    refine List.mem_map.mpr ⟨(ob.getD o 0 + q.1).toNat, List.mem_filter.mpr ⟨List.mem_range.mpr (by omega), decide_eq_true h4⟩, ?_⟩
    rw [h3]
    exact Prod.ext (by show ((ob.getD o 0 + q.1).toNat : Int) - ob.getD o 0 = q.1; omega) rfl
theorem stored_new {K : Type} [DecidableEq K] {kvs : List (K × Value)} {k : K} {v : Value} (h : ∀ q ∈ kvs, q.1 ≠ k) : stored kvs k v = kvs ++ [(k, v)] := by
  unfold stored
  rw [if_neg]
  intro ha
  obtain ⟨q, hq, e⟩ := List.any_eq_true.mp ha
  exact h q hq (of_decide_eq_true e)
theorem all2_by {α β : Type} {R : α → β → Prop} : ∀ {l : List α} {r : List β}, l.length = r.length → (∀ (i : Nat) (a : α) (b : β), l[i]? = some a → r[i]? = some b → R a b) → All2 R l r
  | [], [], _, _ => .nil
  | [], _ :: _, e, _ => nomatch e
  | _ :: _, [], e, _ => nomatch e
  | _ :: _, _ :: _, e, h => .cons (h 0 _ _ rfl rfl) (all2_by (Nat.succ.inj e) fun i a b ha hb => h (i + 1) a b ha hb)
theorem not_six {a x d b t c o : Addr} (h1 : @Ne Nat a x) (h2 : @Ne Nat a d) (h3 : @Ne Nat a b) (h4 : @Ne Nat a t) (h5 : @Ne Nat a c) (h6 : @Ne Nat a o) : a ∉ [x, d, b, t, c, o] := fun m => by
  simp only [List.mem_cons, List.not_mem_nil, or_false] at m
  rcases m with e | e | e | e | e | e
  · exact h1 e
  · exact h2 e
  · exact h3 e
  · exact h4 e
  · exact h5 e
  · exact h6 e
theorem owner_self {rs : List Rw} {os : List Int} (hO : OwnersOK rs os) {i o : Nat} (hi : i < rs.length) (h : OwnerAt rs i o) : o < rs.length ∧ os.getD o 0 = (o : Int) := by
  have ho : o < rs.length := Nat.lt_of_le_of_lt h.1 hi
  obtain ⟨o2, e2, l2, s2, m2⟩ := hO.2 o ho
  refine ⟨ho, ?_⟩
  rcases Nat.lt_or_ge o2 o with c | c
  · exact absurd (fun q => (s2 q).trans (h.2.1 q)) (h.2.2 o2 c)
  · have : o2 = o := Nat.le_antisymm l2 c
    rw [List.getD_eq_getElem?_getD, e2, this]; rfl
/-- dict(d) of a row -/
theorem dict_copy {A : Around} {E : Value → Shared → Prop} {s : Shared} {d : Addr} {o : Obj} {r : Rw} {Q : Value → Shared → Prop} (lo : (d == sysModules) = false) (hd : s.heap.get? d = some o) (hR : RowO prog w o r) (hl : r.length ≤ 1000)
    (hq : ∀ h' a o', a = s.heap.objs.size → Keep [] s.heap h' → s.heap.get? a = none → h'.get? a = some o' → RowO prog w o' r → Q (.ref a) { s with heap := h' }) :
    wpAny (model prog w) A (call (.type "dict") [.ref d]) Q E s := by
  obtain ⟨kvs, hk, hv⟩ := hR
  have hlen := hv.length
  refine kt_call_dict (knd := intKind prog w) lo (Heap.dictOf_iff.mpr ⟨o, hd, hk⟩) (by rw [sizeLine_eq]; omega) fun h' hD hs => ?_
  obtain ⟨o', ho', hk'⟩ := Heap.dictOf_iff.mp hD
  refine hq h' _ o' rfl (fun b ob e _ => ?_) (Heap.get?_none_of_le (Nat.le_refl _)) ho' ⟨kvs, hk', hv⟩
  exact (hs.2 b (Nat.ne_of_lt (Heap.lt_size e))).trans (Heap.get?_push_of_some _ e)
/-- a dict from ints to ints, where it stands -/
def RowY (prog : Program) (w : World) (M : Wd) (y : Value) (r : Rw) : Prop := ∃ a o, y = .ref a ∧ M a o ∧ (a == sysModules) = false ∧ RowO prog w o r
/-- an entry at a new key -/
theorem rowO_set {A : Around} {E : Value → Shared → Prop} {s : Shared} {d : Addr} {o : Obj} {r : Rw} {k v : Int} {tk tv : Tok} {Q : Unit → Shared → Prop} (hd : s.heap.get? d = some o) (hR : RowO prog w o r) (hn : ∀ q ∈ r, q.1 ≠ k) (hl : r.length ≤ 1000)
    (hq : ∀ h' o', h'.get? d = some o' → RowO prog w o' (r ++ [(k, v)]) → Keep [d] s.heap h' → Q () { s with heap := h', toks := s.toks + 1 }) :
    wpAny (model prog w) A (setItem (.ref d) (.int k tk) (.int v tv)) Q E s := by
  obtain ⟨kvs, hk, hv⟩ := hR
  have hlen := hv.length
  refine wpAny_setItem_pairs (knd := intKind prog w) (k := k) (by simp [intKind, Value.isInt]) (Heap.dictOf_iff.mpr ⟨o, hd, hk⟩) (fun h' hD hs => ?_) (by rw [sizeLine_eq]; omega)
  rw [stored_new fun q hq => by
    obtain ⟨i, hi⟩ := List.mem_iff_getElem?.mp hq
    obtain ⟨b, hb, e, _⟩ := hv.get i q hi
    rw [e]; exact hn b (List.mem_of_getElem? hb)] at hD
  obtain ⟨o', ho', hk'⟩ := Heap.dictOf_iff.mp hD
  exact hq h' o' ho' ⟨_, hk', hv.snoc ⟨rfl, tv, rfl⟩⟩ (keep_same hs)
section
variable {A : Around} {E : Value → Shared → Prop} {s : Shared} {env : Env} {h₀ : Heap} {x : Str} {body : List Stmt} {Q : Flow → Shared → Prop}
/-- over a range, where the loop's own name and one more are stored -/
theorem range_W {r : Addr} {b₁ : Int} {t₀ u₀ v₀ : Tok} {n : Nat} {m₀ : Str → Option Value} {news : List (Addr × Obj)} (z : Str) (J : Nat → List (Addr × Obj) → Prop)
    (hh : A.handled = none) (hr : IsRange s.heap r 0 b₁ 1 t₀ u₀ v₀) (hsmall : Builtin.Range.small 0 b₁ 1 = true) (hn : Builtin.Range.rangeSize 0 b₁ 1 = (n : Int)) (F : Fr h₀ env.locals s.heap m₀) (N : News h₀ env.locals s.heap news) (hj : J 0 news)
    (turn : ∀ i t oz nx h tk I oI, i < n → J i nx → (∀ p ∈ nx, @Ne Nat p.1 I) → Fr h₀ env.locals h (fun y => if y = x then some (.int (i : Int) t) else if y = z then oz else m₀ y) → News h₀ env.locals h ((I, oI) :: nx) →
      wpAny (model prog w) A (execs body env) (TPost h₀ env.locals (fun m nx => (∀ y, y ≠ x → y ≠ z → m y = m₀ y) ∧ J (i + 1) nx) I oI { s with heap := h, toks := tk } Q) E { s with heap := h, toks := tk })
    (done : ∀ ox oz nx h tk, J n nx → Fr h₀ env.locals h (fun y => if y = x then ox else if y = z then oz else m₀ y) → News h₀ env.locals h nx → Q .next { s with heap := h, toks := tk }) :
    wpAny (model prog w) A (pyIter (.ref r)) (fun it s₂ => LoopAtV prog w A h₀ env x body Q E it s₂) E s := by
  have form : ∀ (m : Str → Option Value), (∀ y, y ≠ x → y ≠ z → m y = m₀ y) → m = fun y => if y = x then m x else if y = z then m z else m₀ y := fun m hm => by
    funext y
    by_cases h1 : y = x
    · rw [if_pos h1, h1]
    · by_cases h2 : y = z
      · rw [if_neg h1, if_pos h2, h2]
      · rw [if_neg h1, if_neg h2]; exact hm y h1 h2
  refine range_G (n := n) (J := fun i m nx => (∀ y, y ≠ x → y ≠ z → m y = m₀ y) ∧ J i nx) hh hr hsmall hn F N ⟨fun _ _ _ => rfl, hj⟩ ?_ ?_
  · rintro i t m₁ nx h tk I oI hi ⟨hm, hJ⟩ hoff F' N'
    rw [form m₁ hm, two_ite] at F'
    exact turn i t (m₁ z) nx h tk I oI hi hJ hoff F' N'
  · rintro m₁ nx h tk ⟨hm, hJ⟩ F' N'
    rw [form m₁ hm] at F'
    exact done _ _ nx h tk hJ F' N'
end
theorem item_led {A : Around} {E : Value → Shared → Prop} {s : Shared} {h₀ : Heap} {L l : Addr} {news : List (Addr × Obj)} {vs : List Value} {nn : Nat} {Q : Value → Shared → Prop} {value slice : PySem.Expr} {k : Int} {u : Tok} {v : Value} (N : News h₀ L s.heap news) (hm : (l, listOf vs.toArray nn) ∈ news) (hv : vs[k.toNat]? = some v) (h0 : 0 ≤ k) (h1 : k ≤ 1000) (h : Q v s)
    (hs : subscripted slice false (.ref l) (.int k u) = operate [.ref l, .int k u] (getItem (.ref l) (.int k u)) := by with_unfolding_all rfl) (hg : ∀ r, letTemporaryGo value (.ref l) r = pure () := by intro _; with_unfolding_all rfl) :
    wpAny (model prog w) A (subscriptTail value slice (.ref l) (.int k u)) Q E s := item_listL (N.isList hm) h0 (by omega) hv h hs hg
theorem mem_set_cases {α : Type} {l : List α} {k : Nat} {v q : α} (h : q ∈ l.set k v) : q = v ∨ ∃ j, j ≠ k ∧ l[j]? = some q := by
  obtain ⟨j, hj⟩ := List.mem_iff_getElem?.mp h
  rw [List.getElem?_set] at hj
  split at hj
  · rename_i e
    split at hj
    · exact .inl (Option.some.inj hj).symm
    · cases hj
  · rename_i e
    exact .inr ⟨j, fun c => e c.symm, hj⟩
local macro_rules | `(tactic| walk_at "pyIter ref") => `(tactic| (refine Stop.in ?_))
local macro_rules | `(tactic| walk_at "setItem ref int") => `(tactic| (refine Stop.in ?_))
local macro_rules | `(tactic| walk_at "CompSrc") => `(tactic| refine Stop.in ?_)
local macro_rules | `(tactic| walk_at "exec For Name Call cons nil") => `(tactic| (k_here; (rename Fr _ _ _ _ => lF'); (with_unfolding_all refine' For_invVF lF' ?k1 ?k2 ?_; (case k1 => exact rfl); (case k2 => exact rfl); k_whole)))
local macro_rules | `(tactic| walk_at "eval ListComp") => `(tactic| (k_here; k_dflt (refine LCg.ListComp_U (F₀ := by k_asm) (by with_unfolding_all rfl) (by decide) (by rfl) (by decide) (by rfl) ?_)))
theorem unpacked_spec (X : (hd.heap_39 w.params).In b₀) (T : Top p loose mean mg mb b₀) {dp un : Nat} {fr : Option (List Env)} {gd : Option (List Code)} {s : Shared} {x d b t c oo : Addr} {k1 k2 k3 k4 nb nt nc no : Nat} {vb vt vc vo : List Value} {rs : List Rw} {os ob tb ck : List Int} {Q E : Value → Shared → Prop}
    (hd : dp + 30 < recursionLimit) (hu : un + 300 < cLine) (S : b₀.StaysIn s.heap)
    (hM : ∀ q ∈ [(x, instObj 273 d), (d, rowsD w.params b t c oo k1 k2 k3 k4), (b, W.listOf vb.toArray nb), (t, W.listOf vt.toArray nt), (c, W.listOf vc.toArray nc), (oo, W.listOf vo.toArray no)], s.heap.get? q.1 = some q.2 ∧ b₀.get? q.1 = none)
    (hB : IntsAre vb ob) (hT : IntsAre vt tb) (hC : IntsAre vc ck) (hV : IntsAre vo os) (hO : OwnersOK rs os) (hP : PackedOK rs os ob tb ck) (hlen : rs.length ≤ 100)
    (hq : ∀ h' tk a vs n us, Keep [] s.heap h' → s.heap.get? a = none → h'.get? a = some (W.listOf vs.toArray n) → (∀ y ∈ vs, ∃ a, y = .ref a ∧ s.heap.get? a = none) → All2 (RowY prog w (inH h')) vs us → us.length = rs.length → (∀ i, i < rs.length → Same (us.getD i []) (rs.getD i [])) → Q (.ref a) { s with heap := h', toks := tk }) :
    wpAny (model prog w) (ar dp un fr gd) (call (.ref 235) [.ref x]) Q E s := by
  refine enterC X T S hM (by k_is) (by k_is) (by show dp < recursionLimit; omega) (BindsTo.of_eq (binds := [("self", .ref x)]) rfl) (by rfl) (by decide +kernel) rfl rfl rfl ?_
  intro g L' h₁ tk₁ cells G F N Yc K' T' hk₁ hL' hcl l1
  k_lt l1
  k_cells Yc
  try simp only [List.cons_append, List.nil_append] at N
  k_steps
  unfold Stop
  have hvo := hV.length
  have hol := hO.1
  have hvc := hC.length
  have hvt := hT.length
  have hvb := hB.length
  have htl := hP.len
  have hfew := hP.few
  have hbl := hP.blen
  refine LCg.CompSrc.ledger (k := no) (by rfl) (by k_asm) N (show (oo, W.listOf vo.toArray no) ∈ _ by k_mem) (by rw [sizeLine_eq, List.size_toArray]; omega) ?_
  intro gh
  refine compRest_inv (Inv := fun i zs news => ∃ dl : List (Addr × Obj), news = (L' + 1, _) :: (x, instObj 273 d) :: (d, rowsD w.params b t c oo k1 k2 k3 k4) :: (b, W.listOf vb.toArray nb) :: (t, W.listOf vt.toArray nt) :: (c, W.listOf vc.toArray nc) :: (oo, W.listOf vo.toArray no) :: dl ∧
    zs = dl.reverse.map (fun p => Value.ref p.1) ∧ dl.length = i ∧ (dl.map (·.1)).Nodup ∧ (∀ p ∈ dl, RowO prog w p.2 [] ∧ (p.1 == sysModules) = false) ∧ (∀ p ∈ dl, L' + 1 < p.1)) ?step ?fin _ 0 [] _ (Nat.zero_add _) ⟨[], rfl, rfl, rfl, by simp, by simp, by simp⟩
  case step =>
    rintro i zs news v I oI C oC D2 m₂ h tk E' hi ⟨dl, rfl, rfl, hdl, hnd, hdo, hgt⟩ hv hC hx F6 N6 off ne
    simp only [LCg.Off3] at off
    obtain ⟨of1, of2, of3, of4, of5, of6, of7, of8⟩ := off
    k_steps
    rename_i d7 h7 o7 F7 N7 lo7 hs7 fs7 hi7 fi7 l7
    obtain ⟨l71, l72, l73, l74, l75, l76, l77, l78, l79, l710, l711⟩ := l7
    refine CPost.intro F7 N7 ((L' + 1, _) :: (x, instObj 273 d) :: (d, rowsD w.params b t c oo k1 k2 k3 k4) :: (b, W.listOf vb.toArray nb) :: (t, W.listOf vt.toArray nt) :: (c, W.listOf vc.toArray nc) :: (oo, W.listOf vo.toArray no) :: (d7, o7) :: dl) (by lcg_sub) ?_ (Or.inr ⟨W.listOf vo.toArray no, by k_mem, rfl, no, rfl⟩) ⟨(d7, o7) :: dl, rfl, by simp, by simp [hdl], ?_, ?_, ?_⟩
    · simp only [LCg.Off3]
      exact ⟨of1, of2, of3, of4, of5, of6, of7, ⟨Nat.ne_of_gt l71, Nat.ne_of_gt l72, Nat.ne_of_gt l73⟩, of8⟩
    · rw [List.map_cons, List.nodup_cons]
      refine ⟨fun hm => ?_, hnd⟩
      obtain ⟨q, hq, e⟩ := List.mem_map.mp hm
      exact allLt_ne l711 q hq e
    · intro q hq
      rcases List.mem_cons.mp hq with rfl | hq
      · exact ⟨⟨[], hi7, .nil⟩, lo7⟩
      · exact hdo q hq
    · intro q hq
      rcases List.mem_cons.mp hq with rfl | hq
      · exact l74
      · exact hgt q hq
  rintro zs news ⟨dl0, rfl, rfl, hdl, hnd, hdo, hgt⟩
  have hg7 : ∀ p ∈ dl0, @Ne Nat p.1 (L' + 1) := fun p hp => Nat.ne_of_gt (hgt p hp)
  obtain ⟨lx, ld, lb, lt, lc, loo⟩ := id l1
  k_steps
  unfold Stop
  rename IsRange _ _ _ _ _ _ _ _ => hr
  rename_i D h5 tk5 neD h6 oC F6 N6 dC h7 tk7 t71 t72 t73 F7 N7 K7
  obtain ⟨nD1, nD2, nD3, nD4, nD5, nD6, nD7, nD8⟩ := neD
  have N7r : News g L' h7 ((D, LCg.lst (dl0.reverse.map (fun p => Value.ref p.1))) :: (L' + 1, oC) :: (x, instObj 273 d) :: (d, rowsD w.params b t c oo k1 k2 k3 k4) :: (b, W.listOf vb.toArray nb) :: (t, W.listOf vt.toArray nt) :: (c, W.listOf vc.toArray nc) :: (oo, W.listOf vo.toArray no) :: dl0.reverse) := fun q hq => by
    refine N7 q ?_
    rcases List.mem_append.mp (show q ∈ [(D, LCg.lst (dl0.reverse.map (fun p => Value.ref p.1))), (L' + 1, oC), (x, instObj 273 d), (d, rowsD w.params b t c oo k1 k2 k3 k4), (b, W.listOf vb.toArray nb), (t, W.listOf vt.toArray nt), (c, W.listOf vc.toArray nc), (oo, W.listOf vo.toArray no)] ++ dl0.reverse from hq) with hq | hq
    · exact List.mem_append_left dl0 hq
    · iterate 8 apply List.mem_cons_of_mem
      exact List.mem_reverse.mp hq
  refine range_W (n := ck.length) (z := Str.ofString "owner") (J := fun i nx => ∃ dl : List (Addr × Obj), nx = (D, LCg.lst (dl0.reverse.map (fun p => Value.ref p.1))) :: (L' + 1, oC) :: (x, instObj 273 d) :: (d, rowsD w.params b t c oo k1 k2 k3 k4) :: (b, W.listOf vb.toArray nb) :: (t, W.listOf vt.toArray nt) :: (c, W.listOf vc.toArray nc) :: (oo, W.listOf vo.toArray no) :: dl ∧
    dl.map (·.1) = dl0.reverse.map (·.1) ∧ ∀ k p, dl[k]? = some p → RowO prog w p.2 (heldAt ob tb ck i k)) (by rfl) hr (range_sm (by omega) (by omega)) (by rw [range_sz (by omega)]; simp) F7 N7r ?start ?turn ?done
  case start =>
    exact ⟨dl0.reverse, rfl, rfl, fun k q hk => (hdo q (List.mem_reverse.mp (List.mem_of_getElem? hk))).1⟩
  case turn =>
    rintro i ti oz nx h tk I oI hi ⟨dl, rfl, hda, hdr⟩ hoff F9 N9
    have hit : (i : Int).toNat = i := Int.toNat_natCast i
    have hdl9 : dl.length = rs.length := by
      have := congrArg List.length hda
      rw [List.length_map, List.length_map, List.length_reverse, hdl, List.size_toArray] at this
      omega
    k_steps
    · rename_i t1 hne t2 h8 F8 N8 t3
      rw [hit] at hne F8 ⊢
      obtain ⟨o, ho, hoo, hco, hin⟩ := hP.only i hne
      have e1 : (o : Int) + 1 - 1 = o := by omega
      rw [hco, e1] at F8 ⊢
      obtain ⟨pd, hpd⟩ : ∃ pd, dl[o]? = some pd := ⟨_, List.getElem?_eq_getElem (lt_of_len ho hdl9)⟩
      have hz : (dl0.reverse.map (fun p => Value.ref p.1))[(o : Int).toNat]? = some (Value.ref pd.1) := by
        have ha : (dl0.reverse.map (·.1))[o]? = some pd.1 := by rw [← hda, List.getElem?_map, hpd]; rfl
        rw [List.getElem?_map] at ha
        obtain ⟨q, hq, e⟩ := Option.map_eq_some_iff.mp ha
        rw [Int.toNat_natCast, List.getElem?_map, hq, ← e]; rfl
      refine item_led N8 (List.mem_cons_of_mem _ List.mem_cons_self) hz (Int.natCast_nonneg _) (le_th ho (by assumption)) ?_
      have hobl : o < ob.length := lt_of_len ho (by assumption)
      k_steps
      unfold Stop
      have hot : (o : Int).toNat = o := Int.toNat_natCast o
      rw [hot]
      have hpm : pd ∈ dl := List.mem_of_getElem? hpd
      have hmem8 : ∀ q ∈ dl, q ∈ (I, oI) :: (D, LCg.lst (dl0.reverse.map (fun p => Value.ref p.1))) :: (L' + 1, oC) :: (x, instObj 273 d) :: (d, rowsD w.params b t c oo k1 k2 k3 k4) :: (b, W.listOf vb.toArray nb) :: (t, W.listOf vt.toArray nt) :: (c, W.listOf vc.toArray nc) :: (oo, W.listOf vo.toArray no) :: dl := fun q hq => by
        iterate 9 apply List.mem_cons_of_mem
        exact hq
      refine rowO_set (N8 _ (hmem8 _ hpm)).1 (hdr o pd hpd) (fun q hq => ?_) (by have := heldAt_len ob tb ck i o; omega) fun h10 o10 ho10 hR10 K10 => ?_
      · have := heldAt_key hq
        omega
      have zp := N8 _ (hmem8 _ hpm)
      have F10 := fr_keep F8 K10 (fun q => zp.2.1 (List.mem_singleton.mp q).symm) (fun a ha => by rw [List.mem_singleton.mp ha]; exact zp.2.2)
      have hpa : L' + 1 < pd.1 := by
        have : pd.1 ∈ dl0.reverse.map (·.1) := by rw [← hda]; exact List.mem_map_of_mem hpm
        obtain ⟨q, hq, e⟩ := List.mem_map.mp this
        rw [← e]
        exact hgt q (List.mem_reverse.mp hq)
      have hpD : @Ne Nat D pd.1 := fun e => by
        have z1 := (N8 _ (List.mem_cons_of_mem _ List.mem_cons_self)).1
        dsimp only at z1
        rw [e, zp.1] at z1
        obtain ⟨kvs, ⟨es, ep, hex, _⟩, _⟩ := hdr o pd hpd
        rw [Option.some.inj z1] at hex
        exact nomatch (show Value.type "list" = Value.type "dict" from hex.1)
      have hpm8 : pd ∈ (D, LCg.lst (dl0.reverse.map (fun p => Value.ref p.1))) :: (L' + 1, oC) :: (x, instObj 273 d) :: (d, rowsD w.params b t c oo k1 k2 k3 k4) :: (b, W.listOf vb.toArray nb) :: (t, W.listOf vt.toArray nt) :: (c, W.listOf vc.toArray nc) :: (oo, W.listOf vo.toArray no) :: dl := by
        iterate 8 apply List.mem_cons_of_mem
        exact hpm
      have hpI : @Ne Nat I pd.1 := Ne.symm (hoff pd hpm8)
      have hnd9 : (dl.map (·.1)).Nodup := by rw [hda, List.map_reverse]; exact (List.reverse_perm _).symm.nodup hnd
      have N10 : News g L' h10 ((I, oI) :: (D, LCg.lst (dl0.reverse.map (fun p => Value.ref p.1))) :: (L' + 1, oC) :: (x, instObj 273 d) :: (d, rowsD w.params b t c oo k1 k2 k3 k4) :: (b, W.listOf vb.toArray nb) :: (t, W.listOf vt.toArray nt) :: (c, W.listOf vc.toArray nc) :: (oo, W.listOf vo.toArray no) :: dl.set o (pd.1, o10)) := by
        have kp : ∀ q, q ∈ (I, oI) :: (D, LCg.lst (dl0.reverse.map (fun p => Value.ref p.1))) :: (L' + 1, oC) :: (x, instObj 273 d) :: (d, rowsD w.params b t c oo k1 k2 k3 k4) :: (b, W.listOf vb.toArray nb) :: (t, W.listOf vt.toArray nt) :: (c, W.listOf vc.toArray nc) :: (oo, W.listOf vo.toArray no) :: dl → @Ne Nat q.1 pd.1 → h10.get? q.1 = some q.2 ∧ q.1 ≠ L' ∧ g.get? q.1 = none :=
          fun q hq hn => ⟨K10 _ _ (N8 q hq).1 (fun m => hn (List.mem_singleton.mp m)), (N8 q hq).2⟩
        intro q hq
        rcases List.mem_append.mp (show q ∈ [(I, oI), (D, LCg.lst (dl0.reverse.map (fun p => Value.ref p.1))), (L' + 1, oC), (x, instObj 273 d), (d, rowsD w.params b t c oo k1 k2 k3 k4), (b, W.listOf vb.toArray nb), (t, W.listOf vt.toArray nt), (c, W.listOf vc.toArray nc), (oo, W.listOf vo.toArray no)] ++ dl.set o (pd.1, o10) from hq) with hq | hq
        · refine kp q (List.mem_append_left dl hq) ?_
          have hlt : ∀ a : Addr, a < L' → @Ne Nat a pd.1 := fun a ha => Nat.ne_of_lt (Nat.lt_trans ha (Nat.lt_trans (Nat.lt_succ_self _) hpa))
          exact (allNe_cons hpI (allNe_cons hpD (allNe_cons (Nat.ne_of_lt hpa) (allNe_cons (hlt x lx) (allNe_cons (hlt d ld) (allNe_cons (hlt b lb) (allNe_cons (hlt t lt) (allNe_cons (hlt c lc) (allNe_cons (hlt oo loo) (fun _ h => absurd h List.not_mem_nil)))))))))) q hq
        · rcases mem_set_cases hq with rfl | ⟨j, hj, e⟩
          · exact ⟨ho10, zp.2⟩
          · refine kp q (by iterate 9 apply List.mem_cons_of_mem
                            exact List.mem_of_getElem? e) fun e2 => hj ?_
            have g1 : (dl.map (·.1))[j]? = some pd.1 := by rw [List.getElem?_map, e, ← e2]; rfl
            have g2 : (dl.map (·.1))[o]? = some pd.1 := by rw [List.getElem?_map, hpd]; rfl
            exact (List.getElem?_inj (List.getElem?_eq_some_iff.mp g1).1 hnd9).mp (g1.trans g2.symm)
      clear F8 N8
      k_steps
      refine TEnd.intro ((D, LCg.lst (dl0.reverse.map (fun p => Value.ref p.1))) :: (L' + 1, oC) :: (x, instObj 273 d) :: (d, rowsD w.params b t c oo k1 k2 k3 k4) :: (b, W.listOf vb.toArray nb) :: (t, W.listOf vt.toArray nt) :: (c, W.listOf vc.toArray nc) :: (oo, W.listOf vo.toArray no) :: dl.set o (pd.1, o10)) F10 N10 (fun p hp => hp) ?_ ⟨fun y h1 h2 => ?_, dl.set o (pd.1, o10), rfl, ?_, fun k q hk => ?_⟩
      · intro q hq
        rcases List.mem_append.mp (show q ∈ [(D, LCg.lst (dl0.reverse.map (fun p => Value.ref p.1))), (L' + 1, oC), (x, instObj 273 d), (d, rowsD w.params b t c oo k1 k2 k3 k4), (b, W.listOf vb.toArray nb), (t, W.listOf vt.toArray nt), (c, W.listOf vc.toArray nc), (oo, W.listOf vo.toArray no)] ++ dl.set o (pd.1, o10) from hq) with hq | hq
        · exact hoff q (List.mem_append_left dl hq)
        · rcases mem_set_cases hq with rfl | ⟨j, hj, e⟩
          · exact Ne.symm hpI
          · exact hoff q (by iterate 8 apply List.mem_cons_of_mem
                             exact List.mem_of_getElem? e)
      · simp only [if_neg h1, if_neg h2]
      · rw [← hda]
        refine List.ext_getElem? fun k => ?_
        rw [List.getElem?_map, List.getElem?_map, List.getElem?_set]
        split
        · rename_i e
          subst e
          rw [if_pos (lt_of_len ho hdl9), hpd]; rfl
        · rfl
      · rw [List.getElem?_set] at hk
        split at hk
        · rename_i e
          subst e
          rw [if_pos (lt_of_len ho hdl9)] at hk
          obtain rfl := Option.some.inj hk
          rw [heldAt_succ, if_pos hco]
          exact hR10
        · rename_i e
          rw [heldAt_succ, if_neg (by rw [hco]; omega), List.append_nil]
          exact hdr k q hk
    · rename_i t1 hze
      rw [hit] at hze
      refine TEnd.intro _ F9 N9 (fun p hp => hp) hoff ⟨fun y h1 h2 => ?_, dl, rfl, hda, fun k q hk => ?_⟩
      · simp only [if_neg h1, if_neg h2]
      · rw [heldAt_succ, if_neg (by rw [hze]; omega), List.append_nil]
        exact hdr k q hk
  case done =>
    rintro ox oz nx h tk ⟨dl, rfl, hda, hdr⟩ F9 N9
    have hdl9 : dl.length = rs.length := by
      have := congrArg List.length hda
      rw [List.length_map, List.length_map, List.length_reverse, hdl, List.size_toArray] at this
      omega
    k_steps
    unfold Stop
    refine LCg.CompSrc.ledger (k := no) (by rfl) F9 N9 (show (oo, W.listOf vo.toArray no) ∈ _ by k_mem) (by rw [sizeLine_eq, List.size_toArray]; omega) ?_
    intro gh2
    refine compRest_inv (Inv := fun i zs news => ∃ cl : List (Addr × Obj), news = (D, W.listOf (dl0.reverse.map (fun p => Value.ref p.1)).toArray _) :: (L' + 1, oC) :: (x, instObj 273 d) :: (d, rowsD w.params b t c oo k1 k2 k3 k4) :: (b, W.listOf vb.toArray nb) :: (t, W.listOf vt.toArray nt) :: (c, W.listOf vc.toArray nc) :: (oo, W.listOf vo.toArray no) :: (cl ++ dl) ∧
      zs = cl.reverse.map (fun p => Value.ref p.1) ∧ cl.length = i ∧ (∀ p ∈ cl, L' + 1 < p.1) ∧ (∀ (k : Nat) (p : Addr × Obj), cl.reverse[k]? = some p → (p.1 == sysModules) = false ∧ ∃ o : Nat, os[k]? = some (o : Int) ∧ o < rs.length ∧ RowO prog w p.2 (heldAt ob tb ck ck.length o))) ?step2 ?fin2 _ 0 [] _ (Nat.zero_add _) ⟨[], rfl, rfl, rfl, by simp, by simp⟩
    case step2 =>
      rintro i zs news v I oI C oC2 D2 m₂ h10 tk10 E' hi ⟨cl, rfl, rfl, hcl2, hclt, hcr⟩ hv hC hx F6 N6 off ne
      obtain ⟨o', to, rfl, ho'⟩ := hV.at i v (by simpa using hv)
      have hir : i < rs.length := by rw [← hol]; exact (List.getElem?_eq_some_iff.mp ho').1
      obtain ⟨o, ho, hle, _⟩ := hO.2 i hir
      obtain rfl : o' = (o : Int) := Option.some.inj (ho'.symm.trans ho)
      obtain ⟨pd, hpd⟩ : ∃ pd, dl[o]? = some pd := ⟨_, List.getElem?_eq_getElem (lt_of_len (Nat.lt_of_le_of_lt hle hir) (by assumption))⟩
      have ha : (dl0.reverse.map (·.1))[o]? = some pd.1 := by rw [← hda, List.getElem?_map, hpd]; rfl
      rw [List.getElem?_map] at ha
      obtain ⟨q0, hq0, e0⟩ := Option.map_eq_some_iff.mp ha
      have hz : (dl0.reverse.map (fun p => Value.ref p.1))[(o : Int).toNat]? = some (Value.ref pd.1) := by
        rw [Int.toNat_natCast, List.getElem?_map, hq0, ← e0]; rfl
      have hlo : (pd.1 == sysModules) = false := by
        rw [← e0]
        exact (hdo q0 (List.mem_reverse.mp (List.mem_of_getElem? hq0))).2
      k_steps
      refine item_led N6 (List.mem_cons_of_mem _ (List.mem_cons_of_mem _ (List.mem_cons_of_mem _ List.mem_cons_self))) hz (Int.natCast_nonneg _) (le_th (Nat.lt_of_le_of_lt hle hir) (by assumption)) ?_
      k_steps
      have hpm : pd ∈ dl := List.mem_of_getElem? hpd
      have hmem6 : ∀ q ∈ cl ++ dl, q ∈ (I, oI) :: (C, oC2) :: (D2, LCg.lst (cl.reverse.map (fun p => Value.ref p.1))) :: (D, LCg.lst (dl0.reverse.map (fun p => Value.ref p.1))) :: (L' + 1, oC) :: (x, instObj 273 d) :: (d, rowsD w.params b t c oo k1 k2 k3 k4) :: (b, W.listOf vb.toArray nb) :: (t, W.listOf vt.toArray nt) :: (c, W.listOf vc.toArray nc) :: (oo, W.listOf vo.toArray no) :: (cl ++ dl) := fun q hq => by
        iterate 11 apply List.mem_cons_of_mem
        exact hq
      have zp := N6 _ (hmem6 _ (List.mem_append_right cl hpm))
      refine dict_copy hlo zp.1 (hdr o pd hpd) (by have := heldAt_len ob tb ck ck.length o; omega) fun h11 a o11 ea K11 fr11 ho11 hR11 => ?_
      have F11 := fr_keep F6 K11 (by simp) (by simp)
      have hna : ∀ {q : Addr × Obj}, h10.get? q.1 = some q.2 → @Ne Nat q.1 a := fun e => by rw [ea]; exact Nat.ne_of_lt (Heap.lt_size e)
      have zL := (N6 (L' + 1, oC) (by k_mem)).1
      have hLa : L' + 1 < a := by rw [ea]; exact Heap.lt_size zL
      have loa : (a == sysModules) = false := by
        rw [ea]
        exact Fr.notModules F6 (modules_low T'.nolimit)
      have N11 : News g L' h11 ((a, o11) :: (I, oI) :: (C, oC2) :: (D2, LCg.lst (cl.reverse.map (fun p => Value.ref p.1))) :: (D, LCg.lst (dl0.reverse.map (fun p => Value.ref p.1))) :: (L' + 1, oC) :: (x, instObj 273 d) :: (d, rowsD w.params b t c oo k1 k2 k3 k4) :: (b, W.listOf vb.toArray nb) :: (t, W.listOf vt.toArray nt) :: (c, W.listOf vc.toArray nc) :: (oo, W.listOf vo.toArray no) :: (cl ++ dl)) :=
        news_app (a := [(a, o11)]) (news_fresh F6 (fun p hp => by rw [List.mem_singleton.mp hp]; exact ⟨ho11, fr11⟩)) (news_keep N6 K11 (by simp))
      have naI : @Ne Nat a I := Ne.symm (hna (N6 (I, oI) List.mem_cons_self).1)
      have naC : @Ne Nat a C := Ne.symm (hna (N6 (C, oC2) (List.mem_cons_of_mem _ List.mem_cons_self)).1)
      have naD : @Ne Nat a D2 := Ne.symm (hna (N6 (D2, _) (List.mem_cons_of_mem _ (List.mem_cons_of_mem _ List.mem_cons_self))).1)
      clear F6 N6
      k_steps
      simp only [LCg.Off3] at off
      obtain ⟨f1, f2, f3, f4, f5, f6, f7, f8, f9⟩ := off
      refine CPost.intro F11 N11 ((D, LCg.lst (dl0.reverse.map (fun p => Value.ref p.1))) :: (L' + 1, oC) :: (x, instObj 273 d) :: (d, rowsD w.params b t c oo k1 k2 k3 k4) :: (b, W.listOf vb.toArray nb) :: (t, W.listOf vt.toArray nt) :: (c, W.listOf vc.toArray nc) :: (oo, W.listOf vo.toArray no) :: (a, o11) :: (cl ++ dl)) (by lcg_sub) ?_ (Or.inr ⟨W.listOf vo.toArray no, by k_mem, rfl, no, rfl⟩) ⟨(a, o11) :: cl, rfl, by simp, by simp [hcl2], ?_, ?_⟩
      · simp only [LCg.Off3]
        exact ⟨f1, f2, f3, f4, f5, f6, f7, f8, ⟨naI, naC, naD⟩, f9⟩
      · intro q hq
        rcases List.mem_cons.mp hq with rfl | hq
        · exact hLa
        · exact hclt q hq
      · intro k q hk
        rw [List.reverse_cons, List.getElem?_append] at hk
        split at hk
        · exact hcr k q hk
        · rename_i hge
          rw [List.length_reverse] at hge hk
          have : k - cl.length = 0 := by
            have := (List.getElem?_eq_some_iff.mp hk).1
            rw [List.length_singleton] at this
            omega
          rw [this] at hk
          obtain rfl := Option.some.inj hk
          have hki : k = i := by omega
          exact ⟨loa, o, hki ▸ ho, Nat.lt_of_le_of_lt hle hir, hR11⟩
    rintro zs news ⟨cl, rfl, rfl, hcl2, hclt, hcr⟩
    k_steps
    rename_i D9 h9 tk9 F99 N99 o99
    obtain ⟨o91, o92, o93, o94, o95, o96, o97, o98, _⟩ := o99
    have hcl3 : cl.length = rs.length := by rw [hcl2, List.size_toArray]; omega
    have hcmem : ∀ q ∈ cl, q ∈ (D9, LCg.lst (cl.reverse.map (fun p => Value.ref p.1))) :: (D, LCg.lst (dl0.reverse.map (fun p => Value.ref p.1))) :: (L' + 1, oC) :: (x, instObj 273 d) :: (d, rowsD w.params b t c oo k1 k2 k3 k4) :: (b, W.listOf vb.toArray nb) :: (t, W.listOf vt.toArray nt) :: (c, W.listOf vc.toArray nc) :: (oo, W.listOf vo.toArray no) :: (cl ++ dl) := fun q hq => by
      iterate 9 apply List.mem_cons_of_mem
      exact List.mem_append_left dl hq
    refine hq h9 tk9 D9 (cl.reverse.map (fun p => Value.ref p.1)) _ (os.map fun o => heldAt ob tb ck ck.length o.toNat) (keep_ro G F99 (news_sub N99 (by lcg_sub)) fun q hq => (hM q hq).1) (G.fresh (News.fresh N99 List.mem_cons_self) (not_six (Ne.symm o93) (Ne.symm o94) (Ne.symm o95) (Ne.symm o96) (Ne.symm o97) (Ne.symm o98)))
      (N99.get List.mem_cons_self) (fun y hy => ?_) (all2_by (by rw [List.length_map, List.length_map, List.length_reverse]; omega) fun k y u hy hu => ?_) (by rw [List.length_map]; exact hol) fun i hi => ?_
    · obtain ⟨q, hq9, rfl⟩ := List.mem_map.mp hy
      have hq9 := List.mem_reverse.mp hq9
      have hlt := hclt q hq9
      have hgt : ∀ {z : Addr}, z < L' → @Ne Nat q.1 z := fun hz => Nat.ne_of_gt (Nat.lt_trans hz (Nat.lt_trans (Nat.lt_succ_self _) hlt))
      exact ⟨q.1, rfl, G.fresh (News.fresh N99 (hcmem q hq9)) (not_six (hgt lx) (hgt ld) (hgt lb) (hgt lt) (hgt lc) (hgt loo))⟩
    · rw [List.getElem?_map] at hy hu
      obtain ⟨q, hk, rfl⟩ := Option.map_eq_some_iff.mp hy
      obtain ⟨o', ho', rfl⟩ := Option.map_eq_some_iff.mp hu
      obtain ⟨lo, o, ho, hlt, hR⟩ := hcr k q hk
      obtain rfl : o' = (o : Int) := Option.some.inj (ho'.symm.trans ho)
      rw [Int.toNat_natCast]
      exact ⟨q.1, q.2, rfl, N99.get (hcmem q (List.mem_reverse.mp (List.mem_of_getElem? hk))), lo, hR⟩
    · obtain ⟨o, ho, hOA⟩ := hO.2 i hi
      obtain ⟨h1, h2⟩ := owner_self hO hi hOA
      rw [List.getD_eq_getElem?_getD, List.getElem?_map, ho, Option.map_some, Option.getD_some, Int.toNat_natCast]
      exact fun z => (held_same hP h1 h2 z).trans (hOA.2.1 z)
end
section
example : True := by w_top off; trivial
variable {prog : Program} {w : World} {b₀ : Heap} {p : Program} {loose : List Str} {mean : ExcName → Option Value} {mg mb : Str → Option Value}
/-- the attributes behind Tables.__init__ -/
abbrev tabD (P : Params) (ln ll lh lb l9 d9 : Addr) (t5 : Tok) (k1 k2 k3 k4 k5 k6 k7 : Nat) : Obj := dictOf [attrE P (Str.ofString "names") k1 (.ref ln), attrE P (Str.ofString "terminal_count") k2 (.int 5 t5), attrE P (Str.ofString "lefts") k3 (.ref ll), attrE P (Str.ofString "lengths") k4 (.ref lh), attrE P (Str.ofString "befores") k5 (.ref lb), attrE P (Str.ofString "defaults") k6 (.ref l9), attrE P (Str.ofString "numbers") k7 (.ref d9)] 7
theorem news_hide {h₀ : Heap} {L : Addr} {h : Heap} {q : Addr × Obj} {l : List (Addr × Obj)} (N : News h₀ L h (q :: l)) : ∃ r, r = l ∧ News h₀ L h (q :: r) := ⟨l, rfl, N⟩
/-- an entry under a text -/
theorem strD_set {A : Around} {E : Value → Shared → Prop} {s : Shared} {d : Addr} {o : Obj} {kvs : List (Str × Value)} {k : Str} {tk : Tok} {v : Value} {Q : Unit → Shared → Prop} (hd : s.heap.get? d = some o) (hR : o.IsDictOf (PySem.strKind prog w) kvs) (hl : kvs.length ≤ 1000)
    (hq : ∀ h' o' kvs', h'.get? d = some o' → o'.IsDictOf (PySem.strKind prog w) kvs' → kvs'.length ≤ kvs.length + 1 → Keep [d] s.heap h' → Q () { s with heap := h', toks := s.toks + 1 }) :
    wpAny (model prog w) A (setItem (.ref d) (.str k tk) v) Q E s := by
  refine wpAny_setItem_pairs (knd := PySem.strKind prog w) (k := k) (by simp [PySem.strKind, Value.isStrOf]) (Heap.dictOf_iff.mpr ⟨o, hd, hR⟩) (fun h' hD hs => ?_) (by rw [sizeLine_eq]; omega)
  obtain ⟨o', ho', hk'⟩ := Heap.dictOf_iff.mp hD
  exact hq h' o' _ ho' hk' (stored_length_le kvs k v) (keep_same hs)
local macro_rules | `(tactic| walk_at "pyIter ref") => `(tactic| (refine Stop.in ?_))
local macro_rules | `(tactic| walk_at "setItem ref str") => `(tactic| (refine Stop.in ?_))
theorem tables_init (X : (hd.heap_39 w.params).In b₀) (T : Top p loose mean mg mb b₀) {A : Around} {s : Shared} {x d ln ll lh lb : Addr} {t5 : Tok} {vs : List Value} {n : Nat} {R : Result → Shared → Prop} (hh : A.handled = none) (hd : A.depth + 2 < recursionLimit) (hu : A.units + 60 < cLine) (S : b₀.StaysIn s.heap) (hx0 : b₀.get? x = none) (hd0 : b₀.get? d = none)
    (hn0 : b₀.get? ln = none) (hx : s.heap.get? x = some (instObj 329 d)) (hdx : s.heap.get? d = some (dictOf [] 0)) (hln : s.heap.get? ln = some (listOf vs.toArray n)) (hvs : ∀ (i : Nat), i < 5 → ∃ k t, vs[i]? = some (.str k t)) (hne : @Ne Nat x d)
    (hne2 : @Ne Nat x ln) (hne3 : @Ne Nat d ln)
    (hq : ∀ h' tk l9 d9 k1 k2 k3 k4 k5 k6 k7, Keep [d] s.heap h' → h'.get? d = some (tabD w.params ln ll lh lb l9 d9 t5 k1 k2 k3 k4 k5 k6 k7) → R (.ok (.ret .none)) { s with heap := h', toks := tk }) :
    codeAny (model prog w) A (.call (.ref 35) ⟨[.ref x, .ref ln, .int 5 t5, .ref ll, .ref lh, .ref lb], []⟩) R s := by
  refine enterK X T S (mt := [(x, instObj 329 d), (d, dictOf [] 0), (ln, listOf vs.toArray n)]) ?hM (by k_is) (by k_is) (by omega) (BindsTo.of_eq (binds := [("self", .ref x), ("names", .ref ln), ("terminal_count", .int 5 t5), ("lefts", .ref ll), ("lengths", .ref lh), ("befores", .ref lb)]) rfl) (locs rfl) rfl rfl rfl (by decide) ?_
  case hM =>
    intro q hq
    rcases List.mem_cons.mp hq with rfl | hq
    · exact ⟨hx, hx0⟩
    · rcases List.mem_cons.mp hq with rfl | hq
      · exact ⟨hdx, hd0⟩
      · rcases List.mem_cons.mp hq with rfl | hq
        · exact ⟨hln, hn0⟩
        · cases hq
  intro g L' h₁ tk₁ G F N K' T' hk₁ hL' lt
  k_lt lt
  k_steps
  unfold Stop
  rename IsRange _ _ _ _ _ _ _ _ => hr
  rename_i h9 h8 h7 h6 h5 l9 h4 l91 h3 d9 h2 oN lo9 hs9 fs9 hi9 fi9 l92 h1 F1 N1 h0 tk0 tE1 tE2 tE3 FE NE KE
  obtain ⟨rest, hrest, NE2⟩ := news_hide NE
  refine range_G (n := 5) (J := fun i m nx => ∃ (oN : Obj) (kvs : List (Str × Value)) (on : Option Value), nx = (d9, oN) :: rest ∧ m = (fun y => if y = Str.ofString "number" then on else List.lookup y [(Str.ofString "self", Value.ref x), (Str.ofString "names", Value.ref ln), (Str.ofString "terminal_count", Value.int 5 t5), (Str.ofString "lefts", Value.ref ll), (Str.ofString "lengths", Value.ref lh), (Str.ofString "befores", Value.ref lb)].reverse) ∧
    oN.IsDictOf (PySem.strKind prog w) kvs ∧ kvs.length ≤ i) (by exact hh) hr (range_sm (by omega) (by omega)) (by rw [range_sz (by omega)]; rfl) FE NE2 ?start ?turn ?done
  case start =>
    refine ⟨oN, [], none, rfl, ?_, hs9, by simp⟩
    funext y
    by_cases h1 : y = Str.ofString "number"
    · subst h1; rfl
    · simp only [if_neg h1]
  case turn =>
    rintro i t m₁ nx h tk I oI hi ⟨oN', kvs, on, rfl, rfl, hD, hkl⟩ hoff F9 N9
    subst hrest
    k_steps
    obtain ⟨ks, ts, hks⟩ := hvs i hi
    refine item_led (l := ln) (vs := vs) (nn := n) N9 (by k_mem) (by rw [Int.toNat_natCast]; exact hks) (by omega) (by omega) ?_
    k_steps
    unfold Stop
    have zN := N9 (d9, oN') (by k_mem)
    have nI : @Ne Nat I d9 := Ne.symm (hoff _ List.mem_cons_self)
    obtain ⟨m1, m2, m3, m4⟩ := id l92
    refine strD_set zN.1 hD (by omega) fun h11 o11 kvs11 ho11 hD11 hl11 K11 => ?_
    have F11 := fr_keep F9 K11 (fun q => zN.2.1 (List.mem_singleton.mp q).symm) (fun a ha => by rw [List.mem_singleton.mp ha]; exact zN.2.2)
    have NK := news_keep (news_sub (b := (I, oI) :: _) N9 (fun q hq => (List.mem_cons.mp hq).elim (fun e => e ▸ List.mem_cons_self) fun hq => List.mem_cons_of_mem _ (List.mem_cons_of_mem _ hq))) K11 (by
      intro q hq hm
      have hm := List.mem_singleton.mp hm
      exact allNe_cons nI (allNe_cons (Nat.ne_of_lt m1) (allNe_cons (Nat.ne_of_lt m2) (allNe_cons (Nat.ne_of_lt m3) (allNe_cons (Nat.ne_of_lt m4) (fun _ h => absurd h List.not_mem_nil))))) q hq hm)
    have N11 := news_cons (p := (d9, o11)) ho11 zN.2.1 zN.2.2 NK
    clear F9 N9 NK
    k_steps
    refine TEnd.intro ((d9, o11) :: _) F11 N11 (by lcg_sub) (allNe_cons (Ne.symm nI) fun q hq => hoff q (List.mem_cons_of_mem _ hq)) ⟨o11, kvs11, some (Value.int (i : Int) t), rfl, two_ite, hD11, by omega⟩
  case done =>
    rintro m₁ nx h tk ⟨oN', kvs, on, rfl, rfl, hD, hkl⟩ F9 N9
    subst hrest
    k_steps
    exact hq _ _ _ _ _ _ _ _ _ _ _ (fun b o e n => by
      by_cases hb : b ∈ [x, d, ln]
      · rcases List.mem_cons.mp hb with rfl | hb
        · rw [hx] at e; exact (Option.some.inj e) ▸ News.get N9 (by k_mem)
        · rcases List.mem_cons.mp hb with rfl | hb
          · exact absurd List.mem_cons_self n
          · rw [List.mem_singleton.mp hb, hln] at e; exact (Option.some.inj e) ▸ (List.mem_singleton.mp hb) ▸ News.get N9 (by k_mem)
      · exact F9.keep _ _ (G.of _ _ e hb)) (News.get N9 (by k_mem))
end
section
example : True := by w_top off; trivial
variable {prog : Program} {w : World} {b₀ : Heap} {p : Program} {loose : List Str} {mean : ExcName → Option Value} {mg mb : Str → Option Value}
theorem tables_call (X : (hd.heap_39 w.params).In b₀) (T : Top p loose mean mg mb b₀) {A : Around} {s : Shared} {x d ln ll lh lb : Addr} {t5 : Tok} {vs : List Value} {n : Nat} {Q E : Value → Shared → Prop} (hh : A.handled = none) (hd : A.depth + 2 < recursionLimit) (hu : A.units + 60 < cLine) (S : b₀.StaysIn s.heap) (hx0 : b₀.get? x = none) (hd0 : b₀.get? d = none)
    (hn0 : b₀.get? ln = none) (hx : s.heap.get? x = some (instObj 329 d)) (hdx : s.heap.get? d = some (dictOf [] 0)) (hln : s.heap.get? ln = some (listOf vs.toArray n)) (hvs : ∀ (i : Nat), i < 5 → ∃ k t, vs[i]? = some (.str k t)) (hne : @Ne Nat x d)
    (hne2 : @Ne Nat x ln) (hne3 : @Ne Nat d ln)
    (hq : ∀ h' tk l9 d9 k1 k2 k3 k4 k5 k6 k7, Keep [d] s.heap h' → h'.get? d = some (tabD w.params ln ll lh lb l9 d9 t5 k1 k2 k3 k4 k5 k6 k7) → Q .none { s with heap := h', toks := tk }) :
    wpAny (model prog w) A (call (.ref 35) [.ref x, .ref ln, .int 5 t5, .ref ll, .ref lh, .ref lb]) Q E s :=
  wpAny_call (tables_init X T hh hd hu S hx0 hd0 hn0 hx hdx hln hvs hne hne2 hne3 hq)
local macro_rules | `(tactic| walk_at "call ref") => `(tactic| (refine Stop.in ?_))
/-- the attributes of a PackedTables -/
abbrev packD (P : Params) (ln ll lh lb df d9 a ab at' ac ao go gb gt gc gow gdf gms : Addr) (t5 : Tok) (k1 k2 k3 k4 k5 k6 k7 k8 k9 k10 k11 k12 k13 k14 k15 k16 k17 k18 k19 : Nat) : Obj :=
  dictOf [attrE P (Str.ofString "names") k1 (.ref ln), attrE P (Str.ofString "terminal_count") k2 (.int 5 t5), attrE P (Str.ofString "lefts") k3 (.ref ll), attrE P (Str.ofString "lengths") k4 (.ref lh), attrE P (Str.ofString "befores") k5 (.ref lb), attrE P (Str.ofString "defaults") k6 (.ref df), attrE P (Str.ofString "numbers") k7 (.ref d9),
    attrE P (Str.ofString "actions") k8 (.ref a), attrE P (Str.ofString "bases") k9 (.ref ab), attrE P (Str.ofString "table") k10 (.ref at'), attrE P (Str.ofString "check") k11 (.ref ac), attrE P (Str.ofString "owners") k12 (.ref ao),
    attrE P (Str.ofString "gotos") k13 (.ref go), attrE P (Str.ofString "goto_bases") k14 (.ref gb), attrE P (Str.ofString "goto_table") k15 (.ref gt), attrE P (Str.ofString "goto_check") k16 (.ref gc), attrE P (Str.ofString "goto_owners") k17 (.ref gow), attrE P (Str.ofString "goto_defaults") k18 (.ref gdf), attrE P (Str.ofString "goto_masks") k19 (.ref gms)] 19
def PackO (P : Params) (ln ll lh lb df d9 a ab at' ac ao go gb gt gc gow gdf gms : Addr) (t5 : Tok) (o : Obj) : Prop := ∃ k1 k2 k3 k4 k5 k6 k7 k8 k9 k10 k11 k12 k13 k14 k15 k16 k17 k18 k19, o = packD P ln ll lh lb df d9 a ab at' ac ao go gb gt gc gow gdf gms t5 k1 k2 k3 k4 k5 k6 k7 k8 k9 k10 k11 k12 k13 k14 k15 k16 k17 k18 k19
theorem packed_init (X : (hd.heap_39 w.params).In b₀) (T : Top p loose mean mg mb b₀) {A : Around} {s : Shared} {x d fr ln ll lh lb df a da ab at' ac ao go dg gb gt gc gow gdf gms : Addr} {t5 : Tok} {vs : List Value} {n nf k1 k2 k3 k4 g1 g2 g3 g4 : Nat} {R : Result → Shared → Prop} (hh : A.handled = none) (hd : A.depth + 6 < recursionLimit) (hu : A.units + 100 < cLine) (S : b₀.StaysIn s.heap)
    (hM : ∀ q ∈ [(x, instObj 329 d), (d, dictOf [] 0), (fr, tupOf [.ref ln, .int 5 t5, .ref ll, .ref lh, .ref lb] nf), (ln, listOf vs.toArray n), (a, instObj 273 da), (da, rowsD w.params ab at' ac ao k1 k2 k3 k4), (go, instObj 273 dg), (dg, rowsD w.params gb gt gc gow g1 g2 g3 g4)], s.heap.get? q.1 = some q.2 ∧ b₀.get? q.1 = none)
    (hvs : ∀ (i : Nat), i < 5 → ∃ k t, vs[i]? = some (.str k t)) (hne : ∀ q ∈ [x, fr, ln, a, da, go, dg], @Ne Nat q d) (hx : ∀ q ∈ [fr, ln, a, da, go, dg], @Ne Nat q x)
    (hq : ∀ h' tk d9 o, Keep [d] s.heap h' → h'.get? d = some o → PackO w.params ln ll lh lb df d9 a ab at' ac ao go gb gt gc gow gdf gms t5 o → R (.ok (.ret .none)) { s with heap := h', toks := tk }) :
    codeAny (model prog w) A (.call (.ref 298) ⟨[.ref x, .ref fr, .ref df, .ref a, .ref go, .ref gdf, .ref gms], []⟩) R s := by
  obtain ⟨ha9, A1, A2, A3, A4⟩ := A
  change ha9 = none at hh
  subst hh
  refine enterK X T S hM (by k_is) (by k_is) (by dsimp only at hd ⊢; omega) (BindsTo.of_eq (binds := [("self", .ref x), ("frame", .ref fr), ("defaults", .ref df), ("actions", .ref a), ("gotos", .ref go), ("goto_defaults", .ref gdf), ("goto_masks", .ref gms)]) rfl) (locs rfl) rfl rfl rfl (by decide) ?_
  intro g L' h₁ tk₁ G F N K' T' hk₁ hL' lt
  k_lt lt
  k_steps
  unfold Stop
  rename_i F5 N5
  have nx : ∀ q ∈ [fr, ln, a, da, go, dg], @Ne Nat q x := hx
  have zx := N5 (x, instObj 329 d) (by k_mem)
  have zd := N5 (d, dictOf [] 0) (by k_mem)
  have zl := N5 (ln, listOf vs.toArray n) (by k_mem)
  have nxd := hne x (by simp)
  have nld := hne ln (by simp)
  have nxl := hx ln (by simp)
  have nfd := hne fr (by simp)
  have nad := hne a (by simp)
  have ndd := hne da (by simp)
  have ngd := hne go (by simp)
  have nhd := hne dg (by simp)
  refine tables_call K' T' (by rfl) (by dsimp only [Around.deeper] at hd ⊢; omega) (by dsimp only [Around.deeper] at hu ⊢; omega) F5.keep zx.2.2 zd.2.2 zl.2.2 zx.1 zd.1 zl.1 hvs nxd (Ne.symm nxl) (Ne.symm nld) fun h6 tk6 l9 d9 k1' k2' k3' k4' k5' k6' k7' K6 hd6 => ?_
  have F6 := fr_keep F5 K6 (fun q => zd.2.1 (List.mem_singleton.mp q).symm) (fun b hb => by rw [List.mem_singleton.mp hb]; exact zd.2.2)
  have NK := news_keep (news_sub (b := [(x, instObj 329 d), (fr, tupOf [.ref ln, .int 5 t5, .ref ll, .ref lh, .ref lb] nf), (ln, listOf vs.toArray n), (a, instObj 273 da), (da, rowsD w.params ab at' ac ao k1 k2 k3 k4), (go, instObj 273 dg), (dg, rowsD w.params gb gt gc gow g1 g2 g3 g4)]) N5 (by lcg_sub)) K6 (by
    intro q hq hm
    exact hne q.1 (List.mem_map_of_mem (f := (·.1)) hq) (List.mem_singleton.mp hm))
  have N6 := news_cons (p := (d, tabD w.params ln ll lh lb l9 d9 t5 k1' k2' k3' k4' k5' k6' k7')) hd6 zd.2.1 zd.2.2 NK
  clear F5 N5 NK
  k_steps
  rename_i h9 F9 N9
  refine hq _ _ d9 _ (fun b o e nb => ?_) (News.get N9 List.mem_cons_self) ⟨_, _, _, _, _, _, _, _, _, _, _, _, _, _, _, _, _, _, _, rfl⟩
  by_cases hb : b ∈ [x, fr, ln, a, da, go, dg]
  · obtain ⟨q, hq9, rfl⟩ := List.mem_map.mp (show b ∈ [(x, instObj 329 d), (fr, tupOf [.ref ln, .int 5 t5, .ref ll, .ref lh, .ref lb] nf), (ln, listOf vs.toArray n), (a, instObj 273 da), (da, rowsD w.params ab at' ac ao k1 k2 k3 k4), (go, instObj 273 dg), (dg, rowsD w.params gb gt gc gow g1 g2 g3 g4)].map (·.1) from hb)
    rw [(hM q (by revert hq9; exact (show ∀ z ∈ _, z ∈ _ by lcg_sub) q)).1] at e
    exact (Option.some.inj e) ▸ N9.get (List.mem_cons_of_mem _ hq9)
  · refine F9.keep _ _ (G.of _ _ e fun hm => ?_)
    rcases List.mem_cons.mp (show b ∈ x :: d :: [fr, ln, a, da, go, dg] from hm) with rfl | hm
    · exact hb List.mem_cons_self
    · rcases List.mem_cons.mp hm with rfl | hm
      · exact nb List.mem_cons_self
      · exact hb (List.mem_cons_of_mem _ hm)
/-- PackedTables(frame, defaults, actions, gotos, goto_defaults, goto_masks) -/
theorem packed_make (X : (hd.heap_39 w.params).In b₀) (T : Top p loose mean mg mb b₀) {A : Around} {E : Value → Shared → Prop} {s : Shared} {L : Addr} {m : Str → Option Value} {news : List (Addr × Obj)} {fr ln ll lh lb df a da ab at' ac ao go dg gb gt gc gow gdf gms : Addr} {t5 : Tok} {vs : List Value} {n nf k1 k2 k3 k4 g1 g2 g3 g4 : Nat} {Q : Value → Shared → Prop}
    (hh : A.handled = none) (F : Fr b₀ L s.heap m) (N : News b₀ L s.heap news) (hd : A.depth + 8 < recursionLimit) (hu : A.units + 200 < cLine)
    (hM : ∀ q ∈ [(fr, tupOf [.ref ln, .int 5 t5, .ref ll, .ref lh, .ref lb] nf), (ln, listOf vs.toArray n), (a, instObj 273 da), (da, rowsD w.params ab at' ac ao k1 k2 k3 k4), (go, instObj 273 dg), (dg, rowsD w.params gb gt gc gow g1 g2 g3 g4)], q ∈ news)
    (hvs : ∀ (i : Nat), i < 5 → ∃ k t, vs[i]? = some (.str k t))
    (hq : ∀ h' tk x d d9 o, Fr b₀ L h' m → News b₀ L h' ((x, instObj 329 d) :: (d, o) :: news) → (∀ q ∈ news, q.1 < d) → d < x → PackO w.params ln ll lh lb df d9 a ab at' ac ao go gb gt gc gow gdf gms t5 o → Q (.ref x) { s with heap := h', toks := tk }) :
    wpAny (model prog w) A (call (.ref 329) [.ref fr, .ref df, .ref a, .ref go, .ref gdf, .ref gms]) Q E s := by
  refine call_cls F X N (by k_is) (by k_is) (by k_is) fun x d h1 F1 N1 l1 l2 => ?_
  have zd := N1 (d, dictOf [] 0) (List.mem_cons_of_mem _ List.mem_cons_self)
  have zx := N1 (x, instObj 329 d) List.mem_cons_self
  have hlt : ∀ q ∈ [fr, ln, a, da, go, dg], q < d := fun q hq => by
    obtain ⟨r, hr, rfl⟩ := List.mem_map.mp (show q ∈ [(fr, tupOf [.ref ln, .int 5 t5, .ref ll, .ref lh, .ref lb] nf), (ln, W.listOf vs.toArray n), (a, instObj 273 da), (da, rowsD w.params ab at' ac ao k1 k2 k3 k4), (go, instObj 273 dg), (dg, rowsD w.params gb gt gc gow g1 g2 g3 g4)].map (·.1) from hq)
    exact l1 r (hM r hr)
  refine packed_init (d := d) (da := da) (dg := dg) (ln := ln) (ll := ll) (lh := lh) (lb := lb) (ab := ab) (at' := at') (ac := ac) (ao := ao) (gb := gb) (gt := gt) (gc := gc) (gow := gow) (t5 := t5) (vs := vs) (n := n) (nf := nf) (k1 := k1) (k2 := k2) (k3 := k3) (k4 := k4) (g1 := g1) (g2 := g2) (g3 := g3) (g4 := g4) X T (s := { s with heap := h1 }) (by exact hh) (by rw [depth_under_make]; omega) (by rw [under_units]; omega) F1.keep (fun q hq => ?_) hvs (fun q hq => ?_) (fun q hq => Nat.ne_of_lt (Nat.lt_trans (hlt q hq) l2)) fun h2 tk2 d9 o K2 hd2 hO => ?_
  · rcases List.mem_cons.mp hq with rfl | hq
    · exact ⟨zx.1, zx.2.2⟩
    · rcases List.mem_cons.mp hq with rfl | hq
      · exact ⟨zd.1, zd.2.2⟩
      · have z := N1 q (List.mem_cons_of_mem _ (List.mem_cons_of_mem _ (hM q hq)))
        exact ⟨z.1, z.2.2⟩
  · rcases List.mem_cons.mp hq with rfl | hq
    · exact Nat.ne_of_gt l2
    · exact Nat.ne_of_lt (hlt q hq)
  refine ⟨rfl, ?_⟩
  have F2 := fr_keep F1 K2 (fun q => zd.2.1 (List.mem_singleton.mp q).symm) (fun a ha => by rw [List.mem_singleton.mp ha]; exact zd.2.2)
  refine hq h2 tk2 x d d9 o F2 ?_ l1 l2 hO
  exact news_cons (K2 _ _ zx.1 (fun q => absurd (List.mem_singleton.mp q) (Nat.ne_of_gt l2))) zx.2.1 zx.2.2 (news_cons hd2 zd.2.1 zd.2.2 (news_keep (news_sub N1 fun q hq => List.mem_cons_of_mem _ (List.mem_cons_of_mem _ hq)) K2 fun q hq m => Nat.ne_of_lt (l1 q hq) (List.mem_singleton.mp m)))
end
section
example : True := by w_top off; trivial
variable {prog : Program} {w : World} {b₀ : Heap} {p : Program} {loose : List Str} {mean : ExcName → Option Value} {mg mb : Str → Option Value}
/-- how many octets a list takes -/
def octO (ns : List Int) : Int := (ns.length : Int) * (kindOf ns).2
/-- a list of ints, where it stands -/
def ListAt (M : Wd) (a : Addr) (ns : List Int) : Prop := ∃ vs n, M a (listOf vs.toArray n) ∧ IntsAre vs ns
theorem ListAt.mono {M M' : Wd} {a : Addr} {ns : List Int} (h : ListAt M a ns) (k : ∀ a o, M a o → M' a o) : ListAt M' a ns := by
  obtain ⟨vs, n, h, i⟩ := h
  exact ⟨vs, n, k _ _ h, i⟩
theorem kind_led (X : (hd.heap_39 w.params).In b₀) (T : Top p loose mean mg mb b₀) {dp un : Nat} {fr : Option (List Env)} {gd : Option (List Code)} {hp : Heap} {gn dr os} {tk₀ : Nat} {L l : Addr} {m : Str → Option Value} {news : List (Addr × Obj)} {ns : List Int} {Q E : Value → Shared → Prop}
    (F : Fr b₀ L hp m) (N : News b₀ L hp news) (hl : ListAt (inH b₀) l ns) (hlen : ns.length ≤ 1000) (hd : dp + 10 < recursionLimit) (hu : un + 100 < cLine)
    (hq : ∀ h' tk a t t' n, Fr b₀ L h' m → News b₀ L h' news → h'.get? a = some (tupOf [.str (kindOf ns).1 t, .int (kindOf ns).2 t'] n) → Q (.ref a) ⟨h', gn, dr, tk, os⟩) :
    wpAny (model prog w) (ar dp un fr gd) (call (.ref 338) [.ref l]) Q E ⟨hp, gn, dr, tk₀, os⟩ := by
  obtain ⟨vs, n, hl, hI⟩ := hl
  refine kind_spec X T hd hu F.keep (F.lst ⟨_, hl, rfl, n, rfl⟩) hI hlen fun h' tk a K fr ⟨t, t', n, hk⟩ => ?_
  exact hq h' tk a t t' n (fr_keep F K (by simp) (by simp)) (news_keep N K (by simp)) hk
theorem len_at {A : Around} {E : Value → Shared → Prop} {hp : Heap} {gn dr os} {tk₀ : Nat} {h₀ : Heap} {L l : Addr} {m : Str → Option Value} {ns : List Int} {Q : Value → Shared → Prop} (F : Fr h₀ L hp m) (hl : ListAt (inH h₀) l ns) (hn : ns.length ≤ 1000) (h : ∀ t tk, Q (.int (ns.length : Int) t) ⟨hp, gn, dr, tk, os⟩) : wpAny (model prog w) A (call (.builtin "len") [.ref l]) Q E ⟨hp, gn, dr, tk₀, os⟩ := by
  obtain ⟨vs, n, hl, hI⟩ := hl
  exact len_base (s := ⟨hp, gn, dr, tk₀, os⟩) F ⟨_, hl, rfl, n, rfl⟩ hI.length hn h
section
variable {A : Around} {E : Value → Shared → Prop} {s : Shared} {env : Env} {h₀ : Heap} {x : Str} {body : List Stmt} {Q : Flow → Shared → Prop}
/-- over a tuple of the ledger -/
theorem tupN_G {l : Addr} {vs : List Value} {nn : Nat} {m₀ : Str → Option Value} {news : List (Addr × Obj)} (J : Nat → (Str → Option Value) → List (Addr × Obj) → Prop)
    (hh : A.handled = none) (hl : (l, tupOf vs nn) ∈ news) (F : Fr h₀ env.locals s.heap m₀) (N : News h₀ env.locals s.heap news) (hj : J 0 m₀ news)
    (turn : ∀ i v m₁ nx h tk I oI, vs[i]? = some v → (l, tupOf vs nn) ∈ nx → J i m₁ nx → (∀ p ∈ nx, @Ne Nat p.1 I) → Fr h₀ env.locals h (fun y => if y = x then some v else m₁ y) → News h₀ env.locals h ((I, oI) :: nx) →
      wpAny (model prog w) A (execs body env) (TPost h₀ env.locals (fun m nx => (l, tupOf vs nn) ∈ nx ∧ J (i + 1) m nx) I oI { s with heap := h, toks := tk } Q) E { s with heap := h, toks := tk })
    (done : ∀ m₁ nx h tk, (l, tupOf vs nn) ∈ nx → J vs.length m₁ nx → Fr h₀ env.locals h m₁ → News h₀ env.locals h nx → Q .next { s with heap := h, toks := tk }) :
    wpAny (model prog w) A (pyIter (.ref l)) (fun it s₂ => LoopAtV prog w A h₀ env x body Q E it s₂) E s := by
  have hol : s.heap.get? l = some (tupOf vs nn) := (N _ hl).1
  have hls : s.heap.IsTuple l vs.toArray := ⟨_, hol, rfl, nn, rfl⟩
  have hne : l ≠ s.heap.objs.size := Nat.ne_of_lt (Heap.lt_size hol)
  refine wpAny_pyIter_tuple hls ?_
  have W := Walks.tuple (prog := prog) (w := w) hh s.heap.objs.size l hne vs.toArray
  have hlen : vs.toArray.size = vs.length := by simp
  rw [hlen] at W
  refine loop_G (fun nx => (l, tupOf vs nn) ∈ nx) J W ?_ (next_is_new F) List.mem_cons_self ?_ ?_ ?_ ⟨⟨_, Heap.get?_push_size _ rfl, rfl, rfl⟩, hls.at fun o e => Heap.get?_push_of_some _ e⟩ (F.push _) (fun p hp => ⟨Heap.get?_push_of_some _ (N p hp).1, (N p hp).2⟩) hl hj ?_ done
  · intro hm
    rcases List.mem_cons.mp hm with e | hm
    · exact absurd F.ns.lt (e ▸ Nat.lt_irrefl _)
    · exact (N _ hl).2.1 ((List.mem_singleton.mp hm).symm)
  · intro i h hs
    obtain ⟨⟨o, e, _⟩, _⟩ := hs
    exact ⟨o, e⟩
  · intro b hb hne _
    rcases List.mem_cons.mp hb with e | hb
    · exact absurd e hne
    · rw [List.mem_singleton.mp hb]
      exact ⟨_, fun nx h => h⟩
  · intro p hp e
    exact absurd (Heap.lt_size (N p hp).1) (e ▸ Nat.lt_irrefl _)
  · intro i v m₁ nx h tk oI hi hP hR hJ hoff F' N'
    exact turn i v m₁ nx h tk _ oI (by simpa using hP) hR hJ hoff F' N'
end
theorem len_h {A : Around} {E : Value → Shared → Prop} {hp : Heap} {gn dr os} {tk₀ : Nat} {l : Addr} {ns : List Int} {Q : Value → Shared → Prop} (hl : ListAt (inH hp) l ns) (hn : ns.length ≤ 1000) (h : ∀ t tk, Q (.int (ns.length : Int) t) ⟨hp, gn, dr, tk, os⟩) : wpAny (model prog w) A (call (.builtin "len") [.ref l]) Q E ⟨hp, gn, dr, tk₀, os⟩ := by
  obtain ⟨vs, n, hl, hI⟩ := hl
  have e := hI.length
  refine len_list (s := ⟨hp, gn, dr, tk₀, os⟩) ⟨_, hl, rfl, n, rfl⟩ (by rw [List.size_toArray]; omega) ?_
  rw [List.size_toArray, e]
  exact h _ _
/-- the octets of some lists -/
def octS (l : List (List Int)) : Int := (l.map octO).sum
theorem octS_take {l : List (List Int)} {i : Nat} {n : List Int} (h : l[i]? = some n) : octS (l.take (i + 1)) = octS (l.take i) + (n.length : Int) * (kindOf n).2 := by
  unfold octS
  rw [List.take_add_one, h, List.map_append, List.sum_append]
  simp [octO]
theorem fr_name {h₀ : Heap} {L : Addr} {h : Heap} {m : Str → Option Value} {x : Str} {v : Value} (F : Fr h₀ L h m) (e : m x = some v) : Fr h₀ L h (fun y => if y = x then some v else m y) := by
  have : (fun y => if y = x then some v else m y) = m := by
    funext y
    by_cases h : y = x
    · rw [if_pos h, h, e]
    · rw [if_neg h]
  rw [this]; exact F
theorem octS_app (a b : List (List Int)) : octS (a ++ b) = octS a + octS b := by
  unfold octS
  rw [List.map_append, List.sum_append]
/-- a PackedRows in the ledger, and its lists in the ground -/
def RowsIn (w : World) (g : Heap) (base : List (Addr × Obj)) (v : Value) (r : List (List Int)) : Prop := ∃ a da b t c o k1 k2 k3 k4 n1 n2 n3 n4, v = .ref a ∧ (a, instObj 273 da) ∈ base ∧ (da, rowsD w.params b t c o k1 k2 k3 k4) ∈ base ∧ r = [n1, n2, n3, n4] ∧
  All2 (fun v n => ∃ b, v = Value.ref b ∧ ListAt (inH g) b n ∧ n.length ≤ 1000) [.ref b, .ref t, .ref c, .ref o] r
local macro_rules | `(tactic| walk_at "call ref") => `(tactic| (k_here; (with_reducible show wpAny _ _ (call (Value.ref 338) [Value.ref _]) _ _ _); k_dflt (refine' kind_led ?X ?T ?F ?N ?l ?n ?hd ?hu ?_; (case X => k_asm); (case T => k_asm); (case F => k_asm); (case N => k_asm); (case l => assumption); (case n => assumption); (case hd => (dsimp only [ar, Around.deeper]; first | exact room1 (by assumption) (by decide) | exact room0 (by assumption) (by decide) | omega)); (case hu => (dsimp only [ar, Around.deeper]; first | exact room0 (by assumption) (by decide) | omega))); intro h' tk' a' t' u' n' F' N' g'; (try k_sweep)))
local macro_rules | `(tactic| walk_at "call builtin:len") => `(tactic| (k_here; k_dflt (refine' len_at ?F ?l ?n ?_; (case F => assumption); (case l => assumption); (case n => assumption)); intro t' tk'))
local macro_rules | `(tactic| walk_at "subscriptTail") => `(tactic| (k_here; (with_reducible show wpAny _ _ (subscriptTail _ _ (Value.ref _) (Value.int 1 _)) _ _ _); k_dflt (refine' item_pair1 (by assumption) ?_)))
local macro_rules | `(tactic| walk_at "pyIter ref") => `(tactic| (refine Stop.in ?_))
local macro_rules | `(tactic| walk_at "exec For Name Tuple") => `(tactic| (k_here; (rename Fr _ _ _ _ => lF'); (with_unfolding_all refine' For_invVF lF' ?k1 ?k2 ?_; (case k1 => exact rfl); (case k2 => exact rfl); k_whole)))
local macro_rules | `(tactic| walk_at "exec For Name Tuple cons nil") => `(tactic| (k_here; (rename Fr _ _ _ _ => lF'); (with_unfolding_all refine' For_invVF lF' ?k1 ?k2 ?_; (case k1 => exact rfl); (case k2 => exact rfl); k_whole)))
theorem octets_spec (X : (hd.heap_39 w.params).In b₀) (T : Top p loose mean mg mb b₀) {dp un : Nat} {fr : Option (List Env)} {gd : Option (List Code)} {s : Shared} {x d ln ll lh lb df d9 a da ab at' ac ao go dg gb gt gc gow gdf gms : Addr} {t5 : Tok} {po : Obj} {k1 k2 k3 k4 g1 g2 g3 g4 : Nat} {n1 n2 n3 n4 n5 n6 n7 n8 n9 n10 : List Int} {Q E : Value → Shared → Prop}
    (hd : dp + 30 < recursionLimit) (hu : un + 300 < cLine) (S : b₀.StaysIn s.heap) (hP : PackO w.params ln ll lh lb df d9 a ab at' ac ao go gb gt gc gow gdf gms t5 po)
    (hM : ∀ q ∈ [(x, instObj 329 d), (d, po), (a, instObj 273 da), (da, rowsD w.params ab at' ac ao k1 k2 k3 k4), (go, instObj 273 dg), (dg, rowsD w.params gb gt gc gow g1 g2 g3 g4)], s.heap.get? q.1 = some q.2 ∧ b₀.get? q.1 = none)
    (l1 : ListAt (inH s.heap) ab n1) (l2 : ListAt (inH s.heap) at' n2) (l3 : ListAt (inH s.heap) ac n3) (l4 : ListAt (inH s.heap) ao n4) (l5 : ListAt (inH s.heap) gb n5) (l6 : ListAt (inH s.heap) gt n6) (l7 : ListAt (inH s.heap) gc n7) (l8 : ListAt (inH s.heap) gow n8) (l9 : ListAt (inH s.heap) df n9) (l10 : ListAt (inH s.heap) gdf n10)
    (hoff : ∀ b ∈ [ab, at', ac, ao, gb, gt, gc, gow, df, gdf], b ∉ [x, d, a, da, go, dg]) (hlen : ∀ n ∈ [n1, n2, n3, n4, n5, n6, n7, n8, n9, n10], n.length ≤ 1000)
    (hq : ∀ h' tk t, Keep [] s.heap h' → Q (.int (octO n1 + octO n2 + octO n3 + octO n4 + octO n5 + octO n6 + octO n7 + octO n8 + octO n9 + octO n10) t) { s with heap := h', toks := tk }) :
    wpAny (model prog w) (ar dp un fr gd) (call (.ref 345) [.ref x]) Q E s := by
  obtain ⟨k01, k02, k03, k04, k05, k06, k07, k08, k09, k010, k011, k012, k013, k014, k015, k016, k017, k018, k019, rfl⟩ := hP
  refine enterP X T S hM (by k_is) (by k_is) (by show dp < recursionLimit; omega) (BindsTo.of_eq (binds := [("packed", .ref x)]) rfl) (locs rfl) rfl rfl rfl (by decide) ?_
  intro g L' h₁ tk₁ G F N K' T' hk₁ hL'
  have tr : ∀ {b : Addr} {n : List Int}, ListAt (inH s.heap) b n → b ∉ [x, d, a, da, go, dg] → ListAt (inH g) b n := fun ⟨vs, n, h, i⟩ ho => ⟨vs, n, G.of _ _ h ho, i⟩
  replace l1 := tr l1 (hoff ab (by simp))
  replace l2 := tr l2 (hoff at' (by simp))
  replace l3 := tr l3 (hoff ac (by simp))
  replace l4 := tr l4 (hoff ao (by simp))
  replace l5 := tr l5 (hoff gb (by simp))
  replace l6 := tr l6 (hoff gt (by simp))
  replace l7 := tr l7 (hoff gc (by simp))
  replace l8 := tr l8 (hoff gow (by simp))
  replace l9 := tr l9 (hoff df (by simp))
  replace l10 := tr l10 (hoff gdf (by simp))
  have e1 := hlen n1 (by simp)
  have e2 := hlen n2 (by simp)
  have e3 := hlen n3 (by simp)
  have e4 := hlen n4 (by simp)
  have e5 := hlen n5 (by simp)
  have e6 := hlen n6 (by simp)
  have e7 := hlen n7 (by simp)
  have e8 := hlen n8 (by simp)
  have e9 := hlen n9 (by simp)
  have e10 := hlen n10 (by simp)
  clear hoff hlen tr
  have A1 : All2 (fun v n => ∃ b, v = Value.ref b ∧ ListAt (inH g) b n ∧ n.length ≤ 1000) [.ref ab, .ref at', .ref ac, .ref ao] [n1, n2, n3, n4] := .cons ⟨_, rfl, l1, e1⟩ (.cons ⟨_, rfl, l2, e2⟩ (.cons ⟨_, rfl, l3, e3⟩ (.cons ⟨_, rfl, l4, e4⟩ .nil)))
  have A2 : All2 (fun v n => ∃ b, v = Value.ref b ∧ ListAt (inH g) b n ∧ n.length ≤ 1000) [.ref gb, .ref gt, .ref gc, .ref gow] [n5, n6, n7, n8] := .cons ⟨_, rfl, l5, e5⟩ (.cons ⟨_, rfl, l6, e6⟩ (.cons ⟨_, rfl, l7, e7⟩ (.cons ⟨_, rfl, l8, e8⟩ .nil)))
  have A3 : All2 (fun v n => ∃ b, v = Value.ref b ∧ ListAt (inH g) b n ∧ n.length ≤ 1000) [.ref df, .ref gdf] [n9, n10] := .cons ⟨_, rfl, l9, e9⟩ (.cons ⟨_, rfl, l10, e10⟩ .nil)
  clear l1 l2 l3 l4 l5 l6 l7 l8 l9 l10 e1 e2 e3 e4 e5 e6 e7 e8 e9 e10
  k_steps
  unfold Stop
  rename_i h3 D3 h4 F4 N4 l4
  obtain ⟨base, hbase, N5⟩ := news_hide N4
  have R1 : RowsIn w g base (.ref a) [n1, n2, n3, n4] := ⟨a, da, ab, at', ac, ao, k1, k2, k3, k4, n1, n2, n3, n4, rfl, by rw [hbase]; k_mem, by rw [hbase]; k_mem, rfl, A1⟩
  have R2 : RowsIn w g base (.ref go) [n5, n6, n7, n8] := ⟨go, dg, gb, gt, gc, gow, g1, g2, g3, g4, n5, n6, n7, n8, rfl, by rw [hbase]; k_mem, by rw [hbase]; k_mem, rfl, A2⟩
  have RR : All2 (RowsIn w g base) [.ref a, .ref go] [[n1, n2, n3, n4], [n5, n6, n7, n8]] := .cons R1 (.cons R2 .nil)
  clear N4 A1 A2 R1 R2
  refine tupN_G (J := fun i m nx => nx = (D3, tupOf [.ref a, .ref go] 0) :: base ∧ m (Str.ofString "packed") = some (.ref x) ∧ ∃ t, m (Str.ofString "total") = some (.int (octS (List.take i [[n1, n2, n3, n4], [n5, n6, n7, n8]]).flatten) t)) (by rfl) List.mem_cons_self F4 N5 ⟨rfl, rfl, _, rfl⟩ ?turn ?done
  case turn =>
    rintro i v m₁ nx h tk I oI hv _ ⟨rfl, hpk, t, htot⟩ hoff F9 N9
    obtain ⟨r, hr, a9, da9, b9, t9, c9, o9, j1, j2, j3, j4, q1, q2, q3, q4, rfl, ma, md, hr4, hA⟩ := RR.get i v hv
    have N10 : News g L' h ((a9, instObj 273 da9) :: (da9, rowsD w.params b9 t9 c9 o9 j1 j2 j3 j4) :: (I, oI) :: (D3, tupOf [.ref a, .ref go] 0) :: base) := fun q hq => by
      rcases List.mem_cons.mp hq with rfl | hq
      · exact N9 _ (List.mem_cons_of_mem _ (List.mem_cons_of_mem _ ma))
      · rcases List.mem_cons.mp hq with rfl | hq
        · exact N9 _ (List.mem_cons_of_mem _ (List.mem_cons_of_mem _ md))
        · exact N9 q hq
    have F10 := fr_name F9 (x := Str.ofString "total") (show _ = _ from htot)
    clear F9 N9
    generalize hT : octS (List.take i [[n1, n2, n3, n4], [n5, n6, n7, n8]]).flatten = T0 at F10 htot
    k_steps
    unfold Stop
    rename_i D5 h5 F5 N5 l5
    obtain ⟨base2, hb2, N6⟩ := news_hide N5
    clear N5
    refine tupN_G (J := fun k m nx => nx = (D5, tupOf [.ref b9, .ref t9, .ref c9, .ref o9] 0) :: base2 ∧ m (Str.ofString "packed") = some (.ref x) ∧ ∃ t, m (Str.ofString "total") = some (.int (T0 + octS (List.take k r)) t)) (by rfl) List.mem_cons_self F5 N6 ⟨rfl, hpk, t, by rw [show octS (List.take 0 r) = 0 from rfl, Int.add_zero]; rfl⟩ ?turn2 ?done2
    case turn2 =>
      rintro k v m₂ nx h tk I2 oI2 hv _ ⟨rfl, hpk2, t2, ht2⟩ hoff2 F7 N7
      obtain ⟨n, hn, b8, rfl, hb8, hlen8⟩ := hA.get k v hv
      have F8 := fr_name F7 (x := Str.ofString "total") (show _ = _ from ht2)
      clear F7 F5
      k_steps
      rename_i F9 N9
      exact TEnd.intro ((D5, _) :: base2) F9 N9 (fun p hp => hp) hoff2 ⟨List.mem_cons_self, rfl, hpk2, _, by rw [octS_take hn, ← Int.add_assoc]; rfl⟩
    case done2 =>
      rintro m₂ nx h tk _ ⟨rfl, hpk2, t2, ht2⟩ F7 N7
      subst hb2
      k_steps
      refine TEnd.intro ((D3, _) :: base) F7 N7 (by lcg_sub) hoff ⟨List.mem_cons_self, rfl, hpk2, t2, ht2.trans ?_⟩
      rw [List.take_add_one, hr, List.flatten_append, octS_app, hT, hr4]
      rfl
  case done =>
    rintro m₁ nx h tk _ ⟨rfl, hpk, t, htot⟩ F9 N9
    have F10 := fr_name (fr_name F9 htot) (x := Str.ofString "packed") (v := .ref x) hpk
    clear F9
    generalize hT : octS (List.take _ [[n1, n2, n3, n4], [n5, n6, n7, n8]]).flatten = T0 at F10 htot
    subst hbase
    k_steps
    unfold Stop
    rename_i D5 h5 F5 N5 l5
    obtain ⟨base2, hb2, N6⟩ := news_hide N5
    clear N5
    refine tupN_G (J := fun k m nx => nx = (D5, tupOf [.ref df, .ref gdf] 0) :: base2 ∧ ∃ t, m (Str.ofString "total") = some (.int (T0 + octS (List.take k [n9, n10])) t)) (by rfl) List.mem_cons_self F5 N6 ⟨rfl, t, by rw [show octS (List.take 0 [n9, n10]) = 0 from rfl, Int.add_zero]; rfl⟩ ?turn3 ?done3
    case turn3 =>
      rintro k v m₂ nx h tk I2 oI2 hv _ ⟨rfl, t2, ht2⟩ hoff2 F7 N7
      obtain ⟨n, hn, b8, rfl, hb8, hlen8⟩ := A3.get k v hv
      have F8 := fr_name F7 (x := Str.ofString "total") (show _ = _ from ht2)
      clear F7 F5
      k_steps
      rename_i F9 N9
      exact TEnd.intro ((D5, _) :: base2) F9 N9 (fun p hp => hp) hoff2 ⟨List.mem_cons_self, rfl, _, by rw [octS_take hn, ← Int.add_assoc]; rfl⟩
    case done3 =>
      rintro m₂ nx h tk _ ⟨rfl, t2, ht2⟩ F7 N7
      have F8 := fr_name F7 ht2
      clear F7 F5
      subst hb2
      k_steps
      dsimp only
      have e : octO n1 + octO n2 + octO n3 + octO n4 + octO n5 + octO n6 + octO n7 + octO n8 + octO n9 + octO n10 = T0 + octS (List.take [Value.ref df, Value.ref gdf].length [n9, n10]) := by
        rw [← hT]
        show _ = octS [n1, n2, n3, n4, n5, n6, n7, n8] + octS [n9, n10]
        simp only [octS, List.map, List.sum_cons, List.sum_nil]
        omega
      rw [← e]
      exact hq _ _ _ (keep_ro G (by assumption) (news_sub (by assumption) (by lcg_sub)) fun q hq => (hM q hq).1)
end
section
example : True := by w_top off; trivial
variable {prog : Program} {w : World} {b₀ : Heap} {p : Program} {loose : List Str} {mean : ExcName → Option Value} {mg mb : Str → Option Value}
local macro_rules | `(tactic| walk_at "CompSrc") => `(tactic| refine Stop.in ?_)
theorem tray_spec (X : (hd.heap_39 w.params).In b₀) (T : Top p loose mean mg mb b₀) {dp un : Nat} {fr : Option (List Env)} {gd : Option (List Code)} {s : Shared} {l : Addr} {vs : List Value} {ns : List Int} {Q E : Value → Shared → Prop}
    (hd : dp + 10 < recursionLimit) (hu : un + 100 < cLine) (S : b₀.StaysIn s.heap) (hl : s.heap.IsList l vs.toArray) (hI : IntsAre vs ns) (hlen : ns.length ≤ 63)
    (hq : ∀ h' tk t c ot oc, Keep [] s.heap h' → Fresh s.heap h' [(t, ot), (c, oc)] → @Ne Nat t c → TrayO c ot oc 0 → Q (.ref t) { s with heap := h', toks := tk }) :
    wpAny (model prog w) (ar dp un fr gd) (call (.ref 356) [.ref l]) Q E s := by
  refine enterP X T S (mt := []) (fun _ h => nomatch h) (by k_is) (by k_is) (by show dp < recursionLimit; omega) (BindsTo.of_eq (binds := [("script", .ref l)]) rfl) (locs rfl) rfl rfl rfl (by decide) ?_
  intro g L' h₁ tk₁ G F N K' T' hk₁ hL'
  have hlg : g.IsList l vs.toArray := by obtain ⟨o, ho, r⟩ := hl; exact ⟨o, G.of _ _ ho (fun h => nomatch h), r⟩
  k_steps
  unfold Stop
  rename_i D1 ws h1 F1 N1 hW hc1 hc2 lT
  have hwl := hW.length
  refine LCg.CompSrc.ledger (k := 0) (by rfl) F1 N1 List.mem_cons_self (by rw [sizeLine_eq, List.size_toArray]; omega) ?_
  intro gh
  refine compRest_inv (Inv := fun i ys news => news = [(D1, W.listOf ws.toArray 0)] ∧ ∃ ms, IntsAre ys ms ∧ ms.length = i ∧ ∀ x ∈ ms, 0 ≤ x) ?step ?fin _ 0 [] _ (Nat.zero_add _) ⟨rfl, [], .nil, rfl, by simp⟩
  case step =>
    rintro i ys news v I oI C oC D2 m₂ h tk E' hi ⟨rfl, ms, hms, hml, hpos⟩ hv hC hx F2 N2 off ne
    obtain ⟨ne1, ne2, ne3⟩ := ne
    obtain ⟨z, tz, rfl, hz⟩ := hW.at i v (by simpa using hv)
    k_steps
    dsimp only
    refine CPost.intro (by k_asm) (by assumption) _ (fun p hp => hp) off (Or.inr ⟨_, List.mem_cons_self, rfl, _, rfl⟩) ⟨rfl, ms ++ [_], IntsAre.append hms (.cons _ _ .nil), by simp [hml], fun x hx => ?_⟩
    rcases List.mem_append.mp hx with hx | hx
    · exact hpos x hx
    · rw [List.mem_singleton.mp hx]
      exact Int.fmod_nonneg_of_pos _ (by decide)
  rintro ys news ⟨rfl, ms, hms, hml, hpos⟩
  k_steps
  rename_i D3 h3 tk3 o3 l4 h4 F4 N4 l5
  obtain ⟨m1, m2⟩ := l5
  have N5 : News g L' h4 [(l4, listOf #[.ref D3, .int 0 tk3] 0), (D3, LCg.lst ys)] := news_sub N4 (by lcg_sub)
  have hyl := hms.length
  exact hq _ _ l4 D3 _ _ (keep_of G F4) (fun q hq => ⟨N5.get hq, G.fresh (News.fresh N5 hq) (fun h => nomatch h)⟩) (Nat.ne_of_gt m1) ⟨0, tk3, 0, ys, _, ms, rfl, rfl, hms, hpos, Int.le_refl _, Int.le_refl _, by rw [hml, List.size_toArray]; omega⟩
end
section
example : True := by w_top off; trivial
variable {prog : Program} {w : World} {b₀ : Heap} {p : Program} {loose : List Str} {mean : ExcName → Option Value} {mg mb : Str → Option Value}
/-! the law's body, read off the row -/
def stBody (s : Stmt) : List Stmt := match s with
  | .FunctionDef _ _ b _ _ _ _ _ _ _ => b
  | _ => []
def stScope (s : Stmt) : Scope := match s with
  | .FunctionDef _ _ _ _ _ _ c _ _ _ => c
  | _ => default
def litB {l l' : List Stmt} (_ : l = l') : List Stmt := l'
def litS {l l' : Scope} (_ : l = l') : Scope := l'
noncomputable def lawBody : List Stmt := litB (l := stBody (PySem.Challenge.pw_qd0061_01.main.body.getD 24 (.Pass ⟨0, 0, 0, 0⟩))) (l' := _ :: _) (by with_unfolding_all rfl)
noncomputable def lawScope : Scope := litS (l := stScope (PySem.Challenge.pw_qd0061_01.main.body.getD 24 (.Pass ⟨0, 0, 0, 0⟩))) (l' := ⟨_, _, _, _, _⟩) (by with_unfolding_all rfl)
noncomputable abbrev lawEnv (L f : Addr) (cdv : Value) : Env := envOfC (Str.ofString "law") lawScope L f cdv
theorem expose {M : Model} {A : Around} {l : List Stmt} {a : Stmt} {t : List Stmt} {env : Env} {Q : Flow → Shared → Prop} {E : Value → Shared → Prop} {s : Shared} (h : l = a :: t) (k : wpAny M A (execs (a :: t) env) Q E s) : wpAny M A (execs l env) Q E s := h ▸ k
/-! two tuples of a kind -/
theorem tupSI_ne {A : Around} {E : Value → Shared → Prop} {s : Shared} {a b : Addr} {x : Str} {i : Int} {t u t' u' : Tok} {n n' : Nat} {Q : Value → Shared → Prop} (ha : s.heap.get? a = some (tupOf [.str x t, .int i u] n)) (hb : s.heap.get? b = some (tupOf [.str x t', .int i u'] n')) (hu : A.units < cLine) (h : Q (.bool false) s) :
    wpAny (model prog w) A (compareOp .NotEq (.ref a) (.ref b)) Q E s := by
  have ha' : s.heap.IsTuple a #[.str x t, .int i u] := ⟨_, ha, rfl, n, rfl⟩
  have hb' : s.heap.IsTuple b #[.str x t', .int i u'] := ⟨_, hb, rfl, n', rfl⟩
  refine PySem.SeqAt.RcNeAt.tuples (e := fun _ => true) ha' hb' hu (fun j h1 h2 => ?_) prog w E Q ?_
  · match j, h1, h2 with
    | 0, _, _ => exact (beq_self_eq_true x) ▸ PySem.SeqAt.EqAt.str_str x t x t'
    | 1, _, _ => exact (beq_self_eq_true i) ▸ PySem.SeqAt.EqAt.int_int i u i u'
  · rw [show (List.range (min _ _)).all (fun _ => true) = true from List.all_eq_true.mpr fun _ _ => rfl]
    exact h
/-! the kinds -/
theorem kindOf_mem {a b : List Int} (h : ∀ x, x ∈ a ↔ x ∈ b) : kindOf a = kindOf b := by
  have k : ∀ p : Int → Bool, a.all p = b.all p := fun p => by
    rw [Bool.eq_iff_iff, List.all_eq_true, List.all_eq_true]
    exact ⟨fun q x hx => q x ((h x).mpr hx), fun q x hx => q x ((h x).mp hx)⟩
  unfold kindOf
  simp only [k]
theorem kindOf_mono {a b : List Int} (h : ∀ x ∈ a, x ∈ b) : (kindOf a).2 ≤ (kindOf b).2 := by
  have k : ∀ p : Int → Bool, b.all p = true → a.all p = true := fun p q => List.all_eq_true.mpr fun x hx => List.all_eq_true.mp q x (h x hx)
  unfold kindOf
  repeat' split
  all_goals first
    | decide
    | (rename_i h1; exact absurd (k _ h1) (by assumption))
    | (exfalso; simp_all; done)
/-! two lists of rows -/
theorem pairs_any {prog' : Program} {w' : World} {es : List DictEntry} {kvs : List (Int × Value)} (x : Pairs (intKind prog w) es kvs) : Pairs (intKind prog' w') es kvs := by
  induction x with
  | nil => exact .nil
  | cons h h' _ ih => exact .cons h h' ih
theorem dictOf_any {prog' : Program} {w' : World} {h : Heap} {a : Addr} {kvs : List (Int × Value)} (x : h.DictOf (intKind prog w) a kvs) : h.DictOf (intKind prog' w') a kvs := by
  obtain ⟨o, es, ep, ho, hex, hd, hk, hp, hn⟩ := x
  exact ⟨o, es, ep, ho, hex, hd, hk, pairs_any hp, hn⟩
theorem row_hits {A : Around} {s : Shared} {kb : List (Int × Value)} {r : Rw} (hn : (kb.map (·.1)).Nodup) (hb : All2 ValR kb r) : ∀ {ka : List (Int × Value)} {u : Rw}, All2 ValR ka u → (∀ q ∈ u, q ∈ r) → KeqHits A s kb ka true := by
  intro ka u ha
  induction ha with
  | nil => intro _; exact .nil
  | @cons kv q _ _ x _ ih =>
    intro hm
    obtain ⟨e1, t, e2⟩ := x
    obtain ⟨k, v⟩ := kv
    dsimp only at e1 e2
    subst e1 e2
    obtain ⟨tv, hv⟩ := row_valueAt hn hb (hm q List.mem_cons_self)
    have z := KeqHits.hit hv (PySem.SeqAt.EqAt.int_int (A := A) (s := s) q.2 t q.2 tv) (ih fun y hy => hm y (List.mem_cons_of_mem _ hy))
    simpa using z
theorem nodup_of_keys {l : Rw} (h : (l.map (·.1)).Nodup) : l.Nodup := List.Pairwise.of_map _ (fun _ _ h e => h (e ▸ rfl)) h
theorem rows_eqAt {A : Around} {s : Shared} {y z : Value} {u r : Rw} (hy : RowY prog w (inH s.heap) y u) (hz : RowY prog w (inH s.heap) z r) (hs : Same u r) (hu : A.units < cLine) : PySem.SeqAt.EqAt A s y z true := by
  obtain ⟨a, oa, rfl, ha, la, ka, hda, hva⟩ := hy
  obtain ⟨b, ob, rfl, hb, lb, kb, hdb, hvb⟩ := hz
  by_cases e : a = b
  · subst e; exact PySem.SeqAt.EqAt.same _
  · refine PySem.SeqAt.EqAt.of_refs e fun prog' w' E Q h => ?_
    have da : s.heap.DictOf (intKind prog w) a ka := Heap.dictOf_iff.mpr ⟨oa, ha, hda⟩
    have db : s.heap.DictOf (intKind prog w) b kb := Heap.dictOf_iff.mpr ⟨ob, hb, hdb⟩
    obtain ⟨_, _, _, _, _, _, hna⟩ := hda
    obtain ⟨_, _, _, _, _, _, hnb⟩ := hdb
    have hl : ka.length = kb.length := by
      rw [hva.length, hvb.length]
      rw [hva.keys] at hna
      rw [hvb.keys] at hnb
      exact ((List.perm_ext_iff_of_nodup (nodup_of_keys hna) (nodup_of_keys hnb)).mpr hs).length_eq
    refine keq_eq (knd := intKind prog' w') (r := true) la lb (dictOf_any da) (dictOf_any db) hu (fun _ => row_hits hnb hvb hva fun q hq => (hs q).mp hq) ?_
    rw [hl, beq_self_eq_true, Bool.and_true]
    exact h
theorem RowAt.y {M : Wd} {y : Value} {r : Rw} (h : RowAt prog w M y r) : RowY prog w M y r := by
  obtain ⟨a, o, e, m, lo, hR, _⟩ := h
  exact ⟨a, o, e, m, lo, hR⟩
theorem rows_ne {A : Around} {E : Value → Shared → Prop} {s : Shared} {a b : Addr} {vs ys : List Value} {us rs : List Rw} {Q : Value → Shared → Prop} (ha : s.heap.IsList a vs.toArray) (hb : s.heap.IsList b ys.toArray) (hv : All2 (RowY prog w (inH s.heap)) vs us) (hy : All2 (RowY prog w (inH s.heap)) ys rs)
    (hl : us.length = rs.length) (hs : ∀ i, i < rs.length → Same (us.getD i []) (rs.getD i [])) (hu : A.units + 4 < cLine) (h : Q (.bool false) s) : wpAny (model prog w) A (compareOp .NotEq (.ref a) (.ref b)) Q E s := by
  have h1 := hv.length
  have h2 := hy.length
  refine PySem.SeqAt.RcNeAt.lists (e := fun _ => true) ha hb (by simp; omega) (by omega) (fun j j1 j2 => ?_) prog w E Q ?_
  · have j1' : j < vs.length := by simpa using j1
    have j2' : j < ys.length := by simpa using j2
    obtain ⟨u, hu', x⟩ := hv.get j vs[j] (List.getElem?_eq_getElem j1')
    obtain ⟨r, hr', z⟩ := hy.get j ys[j] (List.getElem?_eq_getElem j2')
    have hsj := hs j (by omega)
    rw [List.getD_eq_getElem?_getD, List.getD_eq_getElem?_getD, hu', hr'] at hsj
    have := rows_eqAt (A := A.in1) x z hsj (by show A.units + 1 < cLine; omega)
    simpa using this
  · rw [show (List.range _).all (fun _ => true) = true from List.all_eq_true.mpr fun _ _ => rfl]
    exact h
end
section
local macro_rules | `(tactic| walk_at "call ref") => `(tactic| (refine Stop.in ?_))
local macro_rules | `(tactic| walk_at "call ref") => `(tactic| (k_here; (with_reducible show wpAny _ _ (call (Value.ref 363) [Value.ref _, Value.int _ _]) _ _ _); k_dflt (refine' pour_led ?X ?T ?F ?N ?Y ?U1 ?U2 ?ne ?hd ?hu ?hN ?h1 ?h2 ?_; (case X => k_asm); (case T => k_asm); (case F => k_asm); (case N => k_asm); (case Y => k_asm); (case U1 => k_updF); (case U2 => intro o'; k_updF); (case ne => assumption); (case hd => (dsimp only [ar, Around.deeper]; first | exact room1 (by assumption) (by decide) | exact room0 (by assumption) (by decide) | omega)); (case hu => (dsimp only [ar, Around.deeper]; first | exact room0 (by assumption) (by decide) | omega)); (case hN => omega); (case h1 => decide); (case h2 => decide)); intro h' tk' r' tr' ot' oc' F' N' Y' r0' r1'; (try k_sweep)))
local macro_rules | `(tactic| walk_at "call ref") => `(tactic| (k_here; (with_reducible show wpAny _ _ (call (Value.ref 370) [Value.ref _]) _ _ _); k_dflt (refine' number_led ?X ?T ?F ?N ?Y ?U1 ?U2 ?ne ?hd ?hu ?hN ?_; (case X => k_asm); (case T => k_asm); (case F => k_asm); (case N => k_asm); (case Y => k_asm); (case U1 => k_updF); (case U2 => intro o'; k_updF); (case ne => assumption); (case hd => (dsimp only [ar, Around.deeper]; first | exact room1 (by assumption) (by decide) | exact room0 (by assumption) (by decide) | omega)); (case hu => (dsimp only [ar, Around.deeper]; first | exact room0 (by assumption) (by decide) | omega)); (case hN => omega)); intro h' tk' r' tr' ot' oc' F' N' Y'; (try k_sweep)))
section
example : True := by w_top off; trivial
variable {prog : Program} {w : World} {b₀ : Heap} {p : Program} {loose : List Str} {mean : ExcName → Option Value} {mg mb : Str → Option Value}
theorem tup2_eq {A : Around} {E : Value → Shared → Prop} {s : Shared} {a b u v : Addr} {n n' : Nat} {Q : Value → Shared → Prop} (ha : s.heap.get? a = some (tupOf [.ref u, .ref v] n)) (hb : s.heap.get? b = some (tupOf [.ref u, .ref v] n')) (hu : A.units < cLine) (h : Q (.bool true) s) :
    wpAny (model prog w) A (compareOp .Eq (.ref a) (.ref b)) Q E s := by
  have ha' : s.heap.IsTuple a #[.ref u, .ref v] := ⟨_, ha, rfl, n, rfl⟩
  have hb' : s.heap.IsTuple b #[.ref u, .ref v] := ⟨_, hb, rfl, n', rfl⟩
  refine PySem.SeqAt.RcAt.tuples (e := fun _ => true) ha' hb' hu (fun j h1 h2 => ?_) prog w E Q ?_
  · match j, h1, h2 with
    | 0, _, _ => exact PySem.SeqAt.EqAt.same _
    | 1, _, _ => exact PySem.SeqAt.EqAt.same _
  · rw [show (List.range (min _ _)).all (fun _ => true) = true from List.all_eq_true.mpr fun _ _ => rfl]
    exact h
theorem cls_inst {a : Addr} {d : Addr} : (instObj a d).cls ≠ .type "list" := nofun
theorem list_off {h : Heap} {a b : Addr} {vs : Array Value} {n : Nat} {o : Obj} (ha : h.get? a = some (listOf vs n)) (hb : h.get? b = some o) (hc : o.cls ≠ .type "list") : a ≠ b := fun e => by
  subst e
  rw [ha] at hb
  exact hc (Option.some.inj hb ▸ rfl)
/-- what stands behind the making of the packed tables -/
structure PackAt (prog : Program) (w : World) (M : Wd) (ab at' ac ao df st : Addr) (n1 n2 n3 n4 n9 : List Int) (rs : List Rw) : Prop where
  l1 : ListAt M ab n1
  l2 : ListAt M at' n2
  l3 : ListAt M ac n3
  l4 : ListAt M ao n4
  l9 : ListAt M df n9
  st : ∃ ys n, M st (listOf ys.toArray n) ∧ All2 (RowAt prog w M) ys rs
  own : OwnersOK rs n4
  pack : PackedOK rs n4 n1 n2 n3
  few : rs.length ≤ 3
  len : n9.length ≤ 3
theorem unp_led (X : (hd.heap_39 w.params).In b₀) (T : Top p loose mean mg mb b₀) {dp un : Nat} {fr : Option (List Env)} {gd : Option (List Code)} {hp : Heap} {gn dr os} {tk₀ : Nat} {L : Addr} {m : Str → Option Value} {news : List (Addr × Obj)}
    {a da ab at' ac ao df st : Addr} {k1 k2 k3 k4 : Nat} {n1 n2 n3 n4 n9 : List Int} {rs : List Rw} {M : Wd} {Q E : Value → Shared → Prop}
    (F : Fr b₀ L hp m) (N : News b₀ L hp news) (hd : dp + 30 < recursionLimit) (hu : un + 300 < cLine) (ma : (a, instObj 273 da) ∈ news) (md : (da, rowsD w.params ab at' ac ao k1 k2 k3 k4) ∈ news) (h1 : PackAt prog w M ab at' ac ao df st n1 n2 n3 n4 n9 rs) (hM : ∀ a o, M a o → (a, o) ∈ news)
    (hq : ∀ h' tk a9 vs us ys, Fr b₀ L h' m → News b₀ L h' news → h'.IsList a9 vs.toArray → h'.IsList st ys.toArray → All2 (RowY prog w (inH h')) vs us → All2 (RowY prog w (inH h')) ys rs → us.length = rs.length → (∀ i, i < rs.length → Same (us.getD i []) (rs.getD i [])) → Q (.ref a9) ⟨h', gn, dr, tk, os⟩) :
    wpAny (model prog w) (ar dp un fr gd) (call (.ref 235) [.ref a]) Q E ⟨hp, gn, dr, tk₀, os⟩ := by
  obtain ⟨⟨v1, c1, m1, i1⟩, ⟨v2, c2, m2, i2⟩, ⟨v3, c3, m3, i3⟩, ⟨v4, c4, m4, i4⟩, _, ⟨ys, n', mst, hR⟩, hO, hP, h3, _⟩ := h1
  refine unpacked_spec (x := a) (d := da) (b := ab) (t := at') (c := ac) (oo := ao) (k1 := k1) (k2 := k2) (k3 := k3) (k4 := k4) (nb := c1) (nt := c2) (nc := c3) (no := c4) (vb := v1) (vt := v2) (vc := v3) (vo := v4) X T hd hu F.keep (fun q hq => ?_) i1 i2 i3 i4 hO hP (by omega) fun h' tk a9 vs n us K fr hl _ hA hlen hS => ?_
  · have z : q ∈ news := by
      simp only [List.mem_cons, List.not_mem_nil, or_false] at hq
      rcases hq with rfl | rfl | rfl | rfl | rfl | rfl
      · exact ma
      · exact md
      · exact hM _ _ m1
      · exact hM _ _ m2
      · exact hM _ _ m3
      · exact hM _ _ m4
    exact ⟨(N q z).1, (N q z).2.2⟩
  · have N' := news_keep N K (by simp)
    exact hq h' tk a9 vs us ys (fr_keep F K (by simp) (by simp)) N' ⟨_, hl, rfl, n, rfl⟩ (N'.isList (hM _ _ mst)) hA (hR.mono fun _ _ q => (q.mono fun a o m => (N' (a, o) (hM _ _ m)).1).y) hlen hS
local macro_rules | `(tactic| walk_at "compareOp NotEq ref ref") => `(tactic| (refine Stop.in ?_))
local macro_rules | `(tactic| walk_at "compareOp Eq ref ref") => `(tactic| (refine Stop.in ?_))
theorem law6 (X : (hd.heap_39 w.params).In b₀) (T : Top p loose mean mg mb b₀) {dp un : Nat} {fr : Option (List Env)} {gd : Option (List Code)} {L f : Addr} {cdv : Value} {hp : Heap} {gn dr os} {tk : Nat} {m₀ : Str → Option Value} {rest : List (Addr × Obj)}
    {x d ln ll lh lb df d9 a da ab at' ac ao go dg gb gt gc gow gdf gms st nt : Addr} {t5 tt : Tok} {po : Obj} {k1 k2 k3 k4 g1 g2 g3 g4 : Nat} {n1 n2 n3 n4 n5 n6 n7 n8 n9 n10 : List Int} {rs rs2 : List Rw} {tot : Int} {Q : Flow → Shared → Prop}
    (hd : dp + 100 < recursionLimit) (hu : un + 1000 < cLine) (hP : PackO w.params ln ll lh lb df d9 a ab at' ac ao go gb gt gc gow gdf gms t5 po)
    (F : Fr b₀ L hp (fun y => if y = Str.ofString "packed" then some (.ref x) else if y = Str.ofString "total" then some (.int tot tt) else if y = Str.ofString "states" then some (.ref st) else if y = Str.ofString "nonterminals" then some (.ref nt) else if y = Str.ofString "rules" then some (.ref df) else if y = Str.ofString "goals" then some (.ref gdf) else m₀ y))
    (N : News b₀ L hp ((x, instObj 329 d) :: (d, po) :: (a, instObj 273 da) :: (da, rowsD w.params ab at' ac ao k1 k2 k3 k4) :: (go, instObj 273 dg) :: (dg, rowsD w.params gb gt gc gow g1 g2 g3 g4) :: rest))
    (h1 : PackAt prog w (inL rest) ab at' ac ao df st n1 n2 n3 n4 n9 rs) (h2 : PackAt prog w (inL rest) gb gt gc gow gdf nt n5 n6 n7 n8 n10 rs2)
    (htot : tot = octO n1 + octO n2 + octO n3 + octO n4 + octO n9 + octO n5 + octO n6 + octO n7 + octO n8 + octO n10)
    (hQ : ∀ h' tk m, Fr b₀ L h' m → Q (.ret (.bool true)) ⟨h', gn, dr, tk, os⟩) :
    wpAny (model prog w) ((ar dp un fr gd).deeper (lawEnv L f cdv)) (execs (lawBody.drop 13) (lawEnv L f cdv)) Q (fun _ _ => False) ⟨hp, gn, dr, tk, os⟩ := by
  obtain ⟨k01, k02, k03, k04, k05, k06, k07, k08, k09, k010, k011, k012, k013, k014, k015, k016, k017, k018, k019, rfl⟩ := id hP
  refine' expose ?e ?_
  case e => with_unfolding_all rfl
  have hr1 : ∀ b9 o9, inL rest b9 o9 → (b9, o9) ∈ (x, instObj 329 d) :: (d, packD w.params ln ll lh lb df d9 a ab at' ac ao go gb gt gc gow gdf gms t5 k01 k02 k03 k04 k05 k06 k07 k08 k09 k010 k011 k012 k013 k014 k015 k016 k017 k018 k019) :: (a, instObj 273 da) :: (da, rowsD w.params ab at' ac ao k1 k2 k3 k4) :: (go, instObj 273 dg) :: (dg, rowsD w.params gb gt gc gow g1 g2 g3 g4) :: rest := fun b9 o9 m => by
    iterate 6 apply List.mem_cons_of_mem
    exact m
  k_steps
  unfold Stop
  dsimp only [List.append_nil]
  refine unp_led X T F N (by dsimp only [ar, Around.deeper]; first | exact room1 hd (by decide) | exact room0 hd (by decide) | omega) (by dsimp only [ar, Around.deeper]; first | exact room0 hu (by decide) | omega) (by k_mem) (by k_mem) h1 hr1 fun h3 tk3 a3 vs3 us3 ys3 F3 N3 L3 M3 A3 B3 e3 S3 => ?_
  clear F N
  k_steps
  unfold Stop
  refine rows_ne L3 M3 A3 B3 e3 S3 (by dsimp only [ar, Around.deeper]; omega) ?_
  k_steps
  unfold Stop
  dsimp only [List.append_nil]
  refine unp_led X T F3 N3 (by dsimp only [ar, Around.deeper]; first | exact room1 hd (by decide) | exact room0 hd (by decide) | omega) (by dsimp only [ar, Around.deeper]; first | exact room0 hu (by decide) | omega) (by k_mem) (by k_mem) h2 hr1 fun h4 tk4 a4 vs4 us4 ys4 F4 N4 L4 M4 A4 B4 e4 S4 => ?_
  clear F3 N3
  k_steps
  unfold Stop
  refine rows_ne L4 M4 A4 B4 e4 S4 (by dsimp only [ar, Around.deeper]; omega) ?_
  k_steps
  unfold Stop
  have lo : ∀ {b9 : Addr} {n : List Int}, ListAt (inL rest) b9 n → ListAt (inH h4) b9 n ∧ b9 ∉ [x, d, a, da, go, dg] := fun {b9 n} h => by
    refine ⟨h.mono fun b9 o9 m => N4.get (hr1 _ _ m), ?_⟩
    obtain ⟨vs, c, m, _⟩ := h
    have hb := N4.get (hr1 _ _ m)
    exact not_six (list_off hb (N4.get (show (x, instObj 329 d) ∈ _ by k_mem)) cls_inst) (list_off hb (N4.get (show (d, packD w.params ln ll lh lb df d9 a ab at' ac ao go gb gt gc gow gdf gms t5 k01 k02 k03 k04 k05 k06 k07 k08 k09 k010 k011 k012 k013 k014 k015 k016 k017 k018 k019) ∈ _ by k_mem)) (fun e => by injection e with e; exact absurd e (by decide)))
      (list_off hb (N4.get (show (a, instObj 273 da) ∈ _ by k_mem)) cls_inst) (list_off hb (N4.get (show (da, rowsD w.params ab at' ac ao k1 k2 k3 k4) ∈ _ by k_mem)) (fun e => by injection e with e; exact absurd e (by decide))) (list_off hb (N4.get (show (go, instObj 273 dg) ∈ _ by k_mem)) cls_inst) (list_off hb (N4.get (show (dg, rowsD w.params gb gt gc gow g1 g2 g3 g4) ∈ _ by k_mem)) (fun e => by injection e with e; exact absurd e (by decide)))
  have hl1 := h1.own.1
  have hl2 := h1.pack.blen
  have hl3 := h1.pack.len
  have hl4 := h1.pack.few
  have hl5 := h1.few
  have hl6 := h1.len
  have hm1 := h2.own.1
  have hm2 := h2.pack.blen
  have hm3 := h2.pack.len
  have hm4 := h2.pack.few
  have hm5 := h2.few
  have hm6 := h2.len
  refine octets_spec (x := x) (d := d) (a := a) (da := da) (go := go) (dg := dg) (k1 := k1) (k2 := k2) (k3 := k3) (k4 := k4) (g1 := g1) (g2 := g2) (g3 := g3) (g4 := g4) X T (by dsimp only [ar, Around.deeper]; first | exact room1 hd (by decide) | exact room0 hd (by decide) | omega) (by dsimp only [ar, Around.deeper]; first | exact room0 hu (by decide) | omega) F4.keep hP (fun q hq => ?_) (lo h1.l1).1 (lo h1.l2).1 (lo h1.l3).1 (lo h1.l4).1 (lo h2.l1).1 (lo h2.l2).1 (lo h2.l3).1 (lo h2.l4).1 (lo h1.l9).1 (lo h2.l9).1 (fun b hb => ?_) (fun n hn => ?_) fun h5 tk5 tt5 K5 => ?_
  · have z : q ∈ _ := List.mem_append_left rest hq
    exact ⟨(N4 q z).1, (N4 q z).2.2⟩
  · simp only [List.mem_cons, List.not_mem_nil, or_false] at hb
    rcases hb with rfl | rfl | rfl | rfl | rfl | rfl | rfl | rfl | rfl | rfl
    · exact (lo h1.l1).2
    · exact (lo h1.l2).2
    · exact (lo h1.l3).2
    · exact (lo h1.l4).2
    · exact (lo h2.l1).2
    · exact (lo h2.l2).2
    · exact (lo h2.l3).2
    · exact (lo h2.l4).2
    · exact (lo h1.l9).2
    · exact (lo h2.l9).2
  · simp only [List.mem_cons, List.not_mem_nil, or_false] at hn
    rcases hn with rfl | rfl | rfl | rfl | rfl | rfl | rfl | rfl | rfl | rfl <;> omega
  have F5 := fr_keep F4 K5 (by simp) (by simp)
  have N5 := news_keep N4 K5 (by simp)
  clear F4 N4 lo
  rw [show octO n1 + octO n2 + octO n3 + octO n4 + octO n5 + octO n6 + octO n7 + octO n8 + octO n9 + octO n10 = tot by omega]
  k_steps
  · unfold Stop
    rename_i D7 h7 l7 D8 h8 F8 N8 l8
    refine tup2_eq (N8.get (List.mem_cons_of_mem _ List.mem_cons_self)) (N8.get List.mem_cons_self) (by dsimp only [ar, Around.deeper]; omega) ?_
    k_steps
    dsimp only
    exact hQ _ _ _ F8
  · rename_i hne
    exact absurd rfl hne
end
section
example : True := by w_top off; trivial
variable {prog : Program} {w : World} {b₀ : Heap} {p : Program} {loose : List Str} {mean : ExcName → Option Value} {mg mb : Str → Option Value}
theorem due_at (X : (hd.heap_39 w.params).In b₀) (T : Top p loose mean mg mb b₀) {dp un : Nat} {fr : Option (List Env)} {gd : Option (List Code)} {hp : Heap} {gn dr os} {tk₀ : Nat} {L l : Addr} {m : Str → Option Value} {news : List (Addr × Obj)} {ns : List Int} {Q E : Value → Shared → Prop}
    (F : Fr b₀ L hp m) (N : News b₀ L hp news) (hl : ListAt (inH hp) l ns) (hlen : ns.length ≤ 1000) (hd : dp + 10 < recursionLimit) (hu : un + 100 < cLine)
    (hq : ∀ h' tk a t t' n, Keep [] hp h' → Fr b₀ L h' m → News b₀ L h' news → h'.get? a = some (tupOf [.str (kindOf ns).1 t, .int (kindOf ns).2 t'] n) → Q (.ref a) ⟨h', gn, dr, tk, os⟩) :
    wpAny (model prog w) (ar dp un fr gd) (call (.ref 375) [.ref l]) Q E ⟨hp, gn, dr, tk₀, os⟩ := by
  obtain ⟨vs, n, hl, hI⟩ := hl
  refine due_spec X T hd hu F.keep (s := ⟨hp, gn, dr, tk₀, os⟩) ⟨_, hl, rfl, n, rfl⟩ hI hlen fun h' tk a K fr ⟨t, t', n, hk⟩ => ?_
  exact hq h' tk a t t' n K (fr_keep F K (by simp) (by simp)) (news_keep N K (by simp)) hk
theorem two_names {x z : Str} (h : z ≠ x) {v w' ox oz : Option Value} {g : Str → Option Value} : (fun y => if y = z then w' else (fun y => if y = x then v else (fun y => if y = x then ox else if y = z then oz else g y) y) y) = fun y => if y = x then v else if y = z then w' else g y := by
  funext y
  by_cases h1 : y = z
  · subst h1; simp only [if_true, if_neg h]
  · by_cases h2 : y = x
    · simp only [if_neg h1, if_pos h2]
    · simp only [if_neg h1, if_neg h2]
theorem start_names {x : Str} {f : Str → Option Value} : f = fun y => if y = x then f x else f y := by
  funext y
  by_cases h : y = x
  · rw [if_pos h, h]
  · rw [if_neg h]
local macro_rules | `(tactic| walk_at "pyIter ref") => `(tactic| (refine Stop.in ?_))
local macro_rules | `(tactic| walk_at "exec For Name Tuple") => `(tactic| (k_here; (rename Fr _ _ _ _ => lF'); (with_unfolding_all refine' For_invVF lF' ?k1 ?k2 ?_; (case k1 => exact rfl); (case k2 => exact rfl); k_whole)))
local macro_rules | `(tactic| walk_at "exec For Name Tuple cons nil") => `(tactic| (k_here; (rename Fr _ _ _ _ => lF'); (with_unfolding_all refine' For_invVF lF' ?k1 ?k2 ?_; (case k1 => exact rfl); (case k2 => exact rfl); k_whole)))
local macro_rules | `(tactic| walk_at "call builtin:len") => `(tactic| (k_here; k_dflt (refine' len_h ?l ?n ?_; (case l => assumption); (case n => assumption)); intro t' tk'))
local macro_rules | `(tactic| walk_at "subscriptTail") => `(tactic| (k_here; (with_reducible show wpAny _ _ (subscriptTail _ _ (Value.ref _) (Value.int 1 _)) _ _ _); k_dflt (refine' item_pair1 (by assumption) ?_)))
theorem law5 (X : (hd.heap_39 w.params).In b₀) (T : Top p loose mean mg mb b₀) {dp un : Nat} {fr : Option (List Env)} {gd : Option (List Code)} {L f : Addr} {cdv : Value} {hp : Heap} {gn dr os} {tk : Nat} {m₀ : Str → Option Value} {rest : List (Addr × Obj)}
    {x d ln ll lh lb df d9 a da ab at' ac ao go dg gb gt gc gow gdf gms st nt : Addr} {t5 : Tok} {po : Obj} {k1 k2 k3 k4 g1 g2 g3 g4 : Nat} {n1 n2 n3 n4 n5 n6 n7 n8 n9 n10 : List Int} {rs rs2 : List Rw} {Q : Flow → Shared → Prop}
    (hd : dp + 100 < recursionLimit) (hu : un + 1000 < cLine) (hP : PackO w.params ln ll lh lb df d9 a ab at' ac ao go gb gt gc gow gdf gms t5 po)
    (F : Fr b₀ L hp (fun y => if y = Str.ofString "packed" then some (.ref x) else if y = Str.ofString "states" then some (.ref st) else if y = Str.ofString "nonterminals" then some (.ref nt) else if y = Str.ofString "rules" then some (.ref df) else if y = Str.ofString "goals" then some (.ref gdf) else m₀ y))
    (N : News b₀ L hp ((x, instObj 329 d) :: (d, po) :: (a, instObj 273 da) :: (da, rowsD w.params ab at' ac ao k1 k2 k3 k4) :: (go, instObj 273 dg) :: (dg, rowsD w.params gb gt gc gow g1 g2 g3 g4) :: rest))
    (h1 : PackAt prog w (inL rest) ab at' ac ao df st n1 n2 n3 n4 n9 rs) (h2 : PackAt prog w (inL rest) gb gt gc gow gdf nt n5 n6 n7 n8 n10 rs2)
    (hQ : ∀ h' tk m, Fr b₀ L h' m → Q (.ret (.bool true)) ⟨h', gn, dr, tk, os⟩) :
    wpAny (model prog w) ((ar dp un fr gd).deeper (lawEnv L f cdv)) (execs (lawBody.drop 10) (lawEnv L f cdv)) Q (fun _ _ => False) ⟨hp, gn, dr, tk, os⟩ := by
  obtain ⟨k01, k02, k03, k04, k05, k06, k07, k08, k09, k010, k011, k012, k013, k014, k015, k016, k017, k018, k019, rfl⟩ := id hP
  refine' expose ?e ?_
  case e => with_unfolding_all rfl
  k_steps
  unfold Stop
  rename_i h3 D3 h4 F4 N4 l4
  have hl1 := h1.own.1
  have hl2 := h1.pack.blen
  have hl3 := h1.pack.len
  have hl4 := h1.pack.few
  have hl5 := h1.few
  have hl6 := h1.len
  have hm1 := h2.own.1
  have hm2 := h2.pack.blen
  have hm3 := h2.pack.len
  have hm4 := h2.pack.few
  have hm5 := h2.few
  have hm6 := h2.len
  have a1 : All2 (fun v n => ∃ b, v = Value.ref b ∧ ListAt (inL rest) b n ∧ n.length ≤ 1000) [.ref ab, .ref at', .ref ac, .ref ao, .ref df] [n1, n2, n3, n4, n9] :=
    .cons ⟨_, rfl, h1.l1, by omega⟩ (.cons ⟨_, rfl, h1.l2, by omega⟩ (.cons ⟨_, rfl, h1.l3, by omega⟩ (.cons ⟨_, rfl, h1.l4, by omega⟩ (.cons ⟨_, rfl, h1.l9, by omega⟩ .nil))))
  have a2 : All2 (fun v n => ∃ b, v = Value.ref b ∧ ListAt (inL rest) b n ∧ n.length ≤ 1000) [.ref gb, .ref gt, .ref gc, .ref gow, .ref gdf] [n5, n6, n7, n8, n10] :=
    .cons ⟨_, rfl, h2.l1, by omega⟩ (.cons ⟨_, rfl, h2.l2, by omega⟩ (.cons ⟨_, rfl, h2.l3, by omega⟩ (.cons ⟨_, rfl, h2.l4, by omega⟩ (.cons ⟨_, rfl, h2.l9, by omega⟩ .nil))))
  obtain ⟨base, hbase, N5⟩ := news_hide N4
  have hr : ∀ b9 o9, inL rest b9 o9 → (b9, o9) ∈ base := fun b9 o9 m => by
    rw [hbase]
    iterate 6 apply List.mem_cons_of_mem
    exact m
  clear N4
  refine tupN_G (J := fun i m nx => ∃ t os9, nx = (D3, tupOf [.ref ab, .ref at', .ref ac, .ref ao, .ref df] 0) :: base ∧ m = (fun y => if y = Str.ofString "some" then os9 else if y = Str.ofString "total" then some (.int (octS (List.take i [n1, n2, n3, n4, n9])) t) else (fun y => if y = Str.ofString "packed" then some (.ref x) else if y = Str.ofString "states" then some (.ref st) else if y = Str.ofString "nonterminals" then some (.ref nt) else if y = Str.ofString "rules" then some (.ref df) else if y = Str.ofString "goals" then some (.ref gdf) else m₀ y) y)) (by rfl) List.mem_cons_self F4 N5 ?start ?turn ?done
  case start =>
    exact ⟨tk, _, rfl, start_names⟩
  case turn =>
    rintro i v m₁ nx h tk I oI hv _ ⟨t, os9, rfl, rfl⟩ hoff F9 N9
    obtain ⟨n, hn, b9, rfl, hb9, hlen9⟩ := a1.get i v hv
    have hbh : ListAt (inH h) b9 n := hb9.mono fun b o m => N9.get (List.mem_cons_of_mem _ (List.mem_cons_of_mem _ (hr b o m)))
    k_steps
    unfold Stop
    refine due_at X T (by assumption) (by assumption) hbh hlen9 (by dsimp only [ar, Around.deeper]; first | exact room1 hd (by decide) | exact room0 hd (by decide) | omega) (by dsimp only [ar, Around.deeper]; first | exact room0 hu (by decide) | omega) fun h6 tk6 a6 t6 u6 c6 K6 F6 N6 g6 => ?_
    clear F9 N9
    k_steps
    rename_i F7 N7
    exact TEnd.intro ((D3, _) :: base) F7 N7 (fun p hp => hp) hoff ⟨List.mem_cons_self, _, some (.ref b9), rfl, by rw [octS_take hn]; exact two_names (by decide)⟩
  case done =>
    rintro m₁ nx h tk _ ⟨t, os9, rfl, rfl⟩ F9 N9
    subst hbase
    k_steps
    unfold Stop
    rename_i D6 h6 F6 N6 l6
    obtain ⟨base, hbase, N7⟩ := news_hide (news_sub (b := (D6, _) :: (x, instObj 329 d) :: (d, packD w.params ln ll lh lb df d9 a ab at' ac ao go gb gt gc gow gdf gms t5 k01 k02 k03 k04 k05 k06 k07 k08 k09 k010 k011 k012 k013 k014 k015 k016 k017 k018 k019) :: (a, instObj 273 da) :: (da, rowsD w.params ab at' ac ao k1 k2 k3 k4) :: (go, instObj 273 dg) :: (dg, rowsD w.params gb gt gc gow g1 g2 g3 g4) :: rest) N6 (by lcg_sub))
    have hr : ∀ b9 o9, inL rest b9 o9 → (b9, o9) ∈ base := fun b9 o9 m => by
      rw [hbase]
      iterate 6 apply List.mem_cons_of_mem
      exact m
    clear N6
    refine tupN_G (J := fun i m nx => ∃ t os9, nx = (D6, tupOf [.ref gb, .ref gt, .ref gc, .ref gow, .ref gdf] 0) :: base ∧ m = (fun y => if y = Str.ofString "some" then os9 else if y = Str.ofString "total" then some (.int (octS [n1, n2, n3, n4, n9] + octS (List.take i [n5, n6, n7, n8, n10])) t) else (fun y => if y = Str.ofString "packed" then some (.ref x) else if y = Str.ofString "states" then some (.ref st) else if y = Str.ofString "nonterminals" then some (.ref nt) else if y = Str.ofString "rules" then some (.ref df) else if y = Str.ofString "goals" then some (.ref gdf) else m₀ y) y)) (by rfl) List.mem_cons_self F6 N7 ?start ?turn ?done
    case start =>
      refine ⟨t, os9, rfl, ?_⟩
      rw [show octS (List.take 0 [n5, n6, n7, n8, n10]) = 0 from rfl, Int.add_zero]
      rfl
    case turn =>
      rintro i v m₁ nx h tk I oI hv _ ⟨t, os9, rfl, rfl⟩ hoff F9 N9
      obtain ⟨n, hn, b9, rfl, hb9, hlen9⟩ := a2.get i v hv
      have hbh : ListAt (inH h) b9 n := hb9.mono fun b o m => N9.get (List.mem_cons_of_mem _ (List.mem_cons_of_mem _ (hr b o m)))
      k_steps
      unfold Stop
      refine due_at X T (by assumption) (by assumption) hbh hlen9 (by dsimp only [ar, Around.deeper]; first | exact room1 hd (by decide) | exact room0 hd (by decide) | omega) (by dsimp only [ar, Around.deeper]; first | exact room0 hu (by decide) | omega) fun h6 tk6 a6 t6 u6 c6 K6 F6 N6 g6 => ?_
      clear F9 N9
      k_steps
      rename_i F7 N7
      exact TEnd.intro ((D6, _) :: base) F7 N7 (fun p hp => hp) hoff ⟨List.mem_cons_self, _, some (.ref b9), rfl, by rw [octS_take hn, ← Int.add_assoc]; exact two_names (by decide)⟩
    case done =>
      rintro m₁ nx h tk _ ⟨t, os9, rfl, rfl⟩ F9 N9
      subst hbase
      refine law6 (m₀ := _) X T hd hu hP (fr_name (fr_name (fr_name (fr_name (fr_name (fr_name F9 (x := Str.ofString "goals") (v := .ref gdf) rfl) (x := Str.ofString "rules") (v := .ref df) rfl) (x := Str.ofString "nonterminals") (v := .ref nt) rfl) (x := Str.ofString "states") (v := .ref st) rfl) (x := Str.ofString "total") (v := .int (octS [n1, n2, n3, n4, n9] + octS [n5, n6, n7, n8, n10]) t) rfl) (x := Str.ofString "packed") (v := .ref x) rfl) (news_sub N9 fun q hq => List.mem_cons_of_mem _ hq) h1 h2 ?_ hQ
      simp only [octS, List.map, List.sum_cons, List.sum_nil]
      omega
end
section
example : True := by w_top off; trivial
variable {prog : Program} {w : World} {b₀ : Heap} {p : Program} {loose : List Str} {mean : ExcName → Option Value} {mg mb : Str → Option Value}
theorem packed_led (X : (hd.heap_39 w.params).In b₀) (T : Top p loose mean mg mb b₀) {dp un : Nat} {fr : Option (List Env)} {gd : Option (List Code)} {hp : Heap} {gn dr os} {tk₀ : Nat} {L l : Addr} {m : Str → Option Value} {news : List (Addr × Obj)} {rs : List Rw} {ys : List Value} {n : Nat} {Q E : Value → Shared → Prop}
    (F : Fr b₀ L hp m) (N : News b₀ L hp news) (hm : (l, listOf ys.toArray n) ∈ news) (hR : All2 (RowAt prog w (inL news)) ys rs) (hlen : rs.length ≤ 3) (hd : dp + 80 < recursionLimit) (hu : un + 800 < cLine)
    (hq : ∀ h' tk x d b t c o k1 k2 k3 k4 vb nb vt nt vc nc vo no os' ob tb ck, Fr b₀ L h' m → News b₀ L h' ((x, instObj 273 d) :: (d, rowsD w.params b t c o k1 k2 k3 k4) :: (b, listOf vb.toArray nb) :: (t, listOf vt.toArray nt) :: (c, listOf vc.toArray nc) :: (o, listOf vo.toArray no) :: news) →
      IntsAre vb ob → IntsAre vt tb → IntsAre vc ck → IntsAre vo os' → OwnersOK rs os' → PackedOK rs os' ob tb ck → Q (.ref x) ⟨h', gn, dr, tk, os⟩) :
    wpAny (model prog w) (ar dp un fr gd) (call (.ref 284) [.ref l]) Q E ⟨hp, gn, dr, tk₀, os⟩ := by
  refine packed_spec X T hd hu F.keep (s := ⟨hp, gn, dr, tk₀, os⟩) (N.isList hm) (hR.mono fun _ _ q => q.mono fun a o m => N.get m) hlen fun h' tk x d b t c o k1 k2 k3 k4 vb nb vt nt vc nc vo no os' ob tb ck K fr hB hT hC hV hO hP => ?_
  exact hq h' tk x d b t c o k1 k2 k3 k4 vb nb vt nt vc nc vo no os' ob tb ck (fr_keep F K (by simp) (by simp)) (news_app (a := [_, _, _, _, _, _]) (news_fresh F fr) (news_keep N K (by simp))) hB hT hC hV hO hP
/-- what the law holds ahead of the packing: rows and their numbers -/
structure RowsAt (prog : Program) (w : World) (M : Wd) (st df : Addr) (rs : List Rw) (n9 : List Int) : Prop where
  st : ∃ ys n, M st (listOf ys.toArray n) ∧ All2 (RowAt prog w M) ys rs
  l9 : ListAt M df n9
  few : rs.length ≤ 3
  len : n9.length ≤ 3
theorem law4 (X : (hd.heap_39 w.params).In b₀) (T : Top p loose mean mg mb b₀) {dp un : Nat} {fr : Option (List Env)} {gd : Option (List Code)} {L f : Addr} {cdv : Value} {hp : Heap} {gn dr os} {tk : Nat} {m₀ : Str → Option Value} {rest : List (Addr × Obj)}
    {ln df gdf st nt : Addr} {vn : List Value} {nn : Nat} {oth : Int} {to : Tok} {n9 n10 : List Int} {rs rs2 : List Rw} {Q : Flow → Shared → Prop}
    (hd : dp + 200 < recursionLimit) (hu : un + 2000 < cLine)
    (F : Fr b₀ L hp (fun y => if y = Str.ofString "names" then some (.ref ln) else if y = Str.ofString "states" then some (.ref st) else if y = Str.ofString "nonterminals" then some (.ref nt) else if y = Str.ofString "rules" then some (.ref df) else if y = Str.ofString "goals" then some (.ref gdf) else if y = Str.ofString "others" then some (.int oth to) else m₀ y))
    (N : News b₀ L hp rest) (hn : (ln, listOf vn.toArray nn) ∈ rest) (hvn : ∀ (i : Nat), i < 5 → ∃ k t, vn[i]? = some (.str k t)) (ho : 1 ≤ oth ∧ oth ≤ 2)
    (h1 : RowsAt prog w (inL rest) st df rs n9) (h2 : RowsAt prog w (inL rest) nt gdf rs2 n10)
    (hQ : ∀ h' tk m, Fr b₀ L h' m → Q (.ret (.bool true)) ⟨h', gn, dr, tk, os⟩) :
    wpAny (model prog w) ((ar dp un fr gd).deeper (lawEnv L f cdv)) (execs (lawBody.drop 9) (lawEnv L f cdv)) Q (fun _ _ => False) ⟨hp, gn, dr, tk, os⟩ := by
  refine' expose ?e ?_
  case e => with_unfolding_all rfl
  k_steps
  unfold Stop
  rename_i la g1 e1 lb g2 e2 lc g3 e3 fr9 g4 F3 N3 e4
  have N4 : News b₀ L g4 ((fr9, tupOf [.ref ln, .int 5 tk, .ref la, .ref lb, .ref lc] 0) :: (ln, listOf vn.toArray nn) :: rest) := news_sub N3 fun q hq => by
    rcases List.mem_cons.mp hq with rfl | hq
    · exact List.mem_cons_self
    · rcases List.mem_cons.mp hq with rfl | hq
      · exact List.mem_append_right [_, _, _, _] hn
      · exact List.mem_append_right [_, _, _, _] hq
  clear N3
  obtain ⟨⟨ys1, c1, m1, R1⟩, L1, few1, len1⟩ := id h1
  obtain ⟨⟨ys2, c2, m2, R2⟩, L2, few2, len2⟩ := id h2
  refine packed_led X T F3 N4 (List.mem_append_right [_, _] m1) (R1.mono fun _ _ q => q.mono fun _ _ m => List.mem_append_right [_, _] m) few1 (by dsimp only [ar, Around.deeper]; first | exact room1 hd (by decide) | exact room0 hd (by decide) | omega) (by dsimp only [ar, Around.deeper]; first | exact room0 hu (by decide) | omega) fun h5 tk5 a da ab at' ac ao k1 k2 k3 k4 vb nb vt nt' vc nc vo no os1 ob tb ck F5 N5 B5 T5 C5 O5 ok5 pk5 => ?_
  clear F3 N4
  k_steps
  unfold Stop
  refine packed_led X T (by assumption) N5 (List.mem_append_right [_, _, _, _, _, _, _, _] m2) (R2.mono fun _ _ q => q.mono fun _ _ m => List.mem_append_right [_, _, _, _, _, _, _, _] m) few2 (by dsimp only [ar, Around.deeper]; first | exact room1 hd (by decide) | exact room0 hd (by decide) | omega) (by dsimp only [ar, Around.deeper]; first | exact room0 hu (by decide) | omega) fun h6 tk6 go dg gb gt gc gow j1 j2 j3 j4 vb2 nb2 vt2 nt2 vc2 nc2 vo2 no2 os2 ob2 tb2 ck2 F6 N6 B6 T6 C6 O6 ok6 pk6 => ?_
  clear F5 N5
  k_steps
  unfold Stop
  rename_i lz h7 F7 N7 l7 gms h8 F8 N8 i8 q1 q2 q3 q4 q5 l8
  clear F7 N7
  refine packed_make (fr := fr9) (ln := ln) (ll := la) (lh := lb) (lb := lc) (a := a) (da := da) (go := go) (dg := dg) (ab := ab) (at' := at') (ac := ac) (ao := ao) (gb := gb) (gt := gt) (gc := gc) (gow := gow) (t5 := tk) (vs := vn) (n := nn) (nf := 0) (k1 := k1) (k2 := k2) (k3 := k3) (k4 := k4) (g1 := j1) (g2 := j2) (g3 := j3) (g4 := j4) X T (by rfl) F8 N8 (by dsimp only [ar, Around.deeper]; first | exact room1 hd (by decide) | exact room0 hd (by decide) | omega) (by dsimp only [ar, Around.deeper]; first | exact room0 hu (by decide) | omega) (by lcg_sub) hvn fun h9 tk9 x d d9 po F9 N9 l9 l10 hPO => ?_
  have N10 : News b₀ L h9 ((x, instObj 329 d) :: (d, po) :: (a, instObj 273 da) :: (da, rowsD w.params ab at' ac ao k1 k2 k3 k4) :: (go, instObj 273 dg) :: (dg, rowsD w.params gb gt gc gow j1 j2 j3 j4) :: (ab, listOf vb.toArray nb) :: (at', listOf vt.toArray nt') :: (ac, listOf vc.toArray nc) :: (ao, listOf vo.toArray no) :: (gb, listOf vb2.toArray nb2) :: (gt, listOf vt2.toArray nt2) :: (gc, listOf vc2.toArray nc2) :: (gow, listOf vo2.toArray no2) :: rest) := news_sub N9 (by lcg_sub)
  clear F8 N8 N9
  have g1 : PackAt prog w (inL ((ab, listOf vb.toArray nb) :: (at', listOf vt.toArray nt') :: (ac, listOf vc.toArray nc) :: (ao, listOf vo.toArray no) :: (gb, listOf vb2.toArray nb2) :: (gt, listOf vt2.toArray nt2) :: (gc, listOf vc2.toArray nc2) :: (gow, listOf vo2.toArray no2) :: rest)) ab at' ac ao df st ob tb ck os1 n9 rs :=
    ⟨⟨vb, nb, by show (_, _) ∈ _; k_mem, B5⟩, ⟨vt, nt', by show (_, _) ∈ _; k_mem, T5⟩, ⟨vc, nc, by show (_, _) ∈ _; k_mem, C5⟩, ⟨vo, no, by show (_, _) ∈ _; k_mem, O5⟩, L1.mono fun _ _ m => List.mem_append_right [_, _, _, _, _, _, _, _] m, ⟨ys1, c1, List.mem_append_right [_, _, _, _, _, _, _, _] m1, R1.mono fun _ _ q => q.mono fun _ _ m => List.mem_append_right [_, _, _, _, _, _, _, _] m⟩, ok5, pk5, few1, len1⟩
  have g2 : PackAt prog w (inL ((ab, listOf vb.toArray nb) :: (at', listOf vt.toArray nt') :: (ac, listOf vc.toArray nc) :: (ao, listOf vo.toArray no) :: (gb, listOf vb2.toArray nb2) :: (gt, listOf vt2.toArray nt2) :: (gc, listOf vc2.toArray nc2) :: (gow, listOf vo2.toArray no2) :: rest)) gb gt gc gow gdf nt ob2 tb2 ck2 os2 n10 rs2 :=
    ⟨⟨vb2, nb2, by show (_, _) ∈ _; k_mem, B6⟩, ⟨vt2, nt2, by show (_, _) ∈ _; k_mem, T6⟩, ⟨vc2, nc2, by show (_, _) ∈ _; k_mem, C6⟩, ⟨vo2, no2, by show (_, _) ∈ _; k_mem, O6⟩, L2.mono fun _ _ m => List.mem_append_right [_, _, _, _, _, _, _, _] m, ⟨ys2, c2, List.mem_append_right [_, _, _, _, _, _, _, _] m2, R2.mono fun _ _ q => q.mono fun _ _ m => List.mem_append_right [_, _, _, _, _, _, _, _] m⟩, ok6, pk6, few2, len2⟩
  walk1
  rename_i h11 F11 N11
  exact law5 (m₀ := _) X T (by omega) (by omega) hPO (fr_name (fr_name (fr_name (fr_name (fr_name F11 (x := Str.ofString "goals") (v := .ref gdf) rfl) (x := Str.ofString "rules") (v := .ref df) rfl) (x := Str.ofString "nonterminals") (v := .ref nt) rfl) (x := Str.ofString "states") (v := .ref st) rfl) (x := Str.ofString "packed") (v := .ref x) rfl) N11 g1 g2 hQ
end
section
example : True := by w_top off; trivial
variable {prog : Program} {w : World} {b₀ : Heap} {p : Program} {loose : List Str} {mean : ExcName → Option Value} {mg mb : Str → Option Value}
theorem toNat_lt {i : Nat} {z : Int} (k : Nat) (h : i < z.toNat) (h2 : z ≤ k) : i < k := by omega
theorem row_led (X : (hd.heap_39 w.params).In b₀) (T : Top p loose mean mg mb b₀) {dp un : Nat} {fr : Option (List Env)} {gd : Option (List Code)} {hp : Heap} {gn dr os} {tk₀ : Nat} {t c L : Addr} {m : Str → Option Value} {news : List (Addr × Obj)} {N : Nat} {Q E : Value → Shared → Prop}
    {ot oc : Obj} {g1 : Obj → List (Addr × Obj)} {g2 : Obj → Obj → List (Addr × Obj)} (F : Fr b₀ L hp m) (Nw : News b₀ L hp news) (Y : TrayO c ot oc N) (U1 : UpdF t ot news g1) (U2 : ∀ o, UpdF c oc (g1 o) (g2 o)) (htc : t ≠ c)
    (hd : dp + 30 < recursionLimit) (hu : un + 300 < cLine) (hN : N < 800)
    (hq : ∀ h' tk a o r ot' oc', Fr b₀ L h' m → News b₀ L h' ((a, o) :: g2 ot' oc') → (∀ q ∈ news, @Ne Nat q.1 a) → TrayO c ot' oc' (N + 13) → (a == sysModules) = false → RowO prog w o r → RowI r → Q (.ref a) ⟨h', gn, dr, tk, os⟩) :
    wpAny (model prog w) (ar dp un fr gd) (call (.ref 380) [.ref t]) Q E ⟨hp, gn, dr, tk₀, os⟩ := by
  obtain ⟨pre, post, e0, e1, a1, b1⟩ := U1.split
  obtain ⟨pre2, post2, e2, e3, a2, b2⟩ := (U2 ot).split
  have zt := Nw (t, ot) (by rw [e0]; simp)
  have zc := Nw (c, oc) (by rw [e0, ← e1, e2]; simp)
  refine row_spec X T hd hu F.keep (s := ⟨hp, gn, dr, tk₀, os⟩) zt.2.2 zc.2.2 htc zt.1 zc.1 Y hN fun h' tk a o r ot' oc' K ht hc Y' ha fa lo hR hI => ?_
  have F' := fr_keep F K (not_two (Ne.symm zt.2.1) (Ne.symm zc.2.1)) fun a ha => by
    rcases List.mem_cons.mp ha with rfl | ha
    · exact zt.2.2
    · rw [List.mem_singleton.mp ha]; exact zc.2.2
  refine hq h' tk a o r ot' oc' F' (news_app (a := [(a, o)]) (news_fresh F (fun p hp => by rw [List.mem_singleton.mp hp]; exact ⟨ha, fa⟩)) (news_two Nw U1 U2 K ht hc)) (fun q hq e => ?_) Y' lo hR hI
  have z := (Nw q hq).1
  rw [show q.1 = a from e] at z
  have : hp.get? a = none := fa
  rw [this] at z; cases z
local macro_rules | `(tactic| walk_at "execs cons") => `(tactic| ((with_reducible show wpAny _ _ (execs (Stmt.Assign _ _ ⟨239, _, _, _⟩ :: _) _) _ _ _); refine Stop.in ?_))
local macro_rules | `(tactic| walk_at "CompSrc") => `(tactic| refine Stop.in ?_)
theorem law3c (X : (hd.heap_39 w.params).In b₀) (T : Top p loose mean mg mb b₀) {dp un : Nat} {fr : Option (List Env)} {gd : Option (List Code)} {L f t c ln st nt : Addr} {cdv : Value} {hp : Heap} {gn dr os} {tk : Nat} {m₀ : Str → Option Value} {ot oc oC : Obj} {N₀ : Nat} {rest : List (Addr × Obj)} {vn : List Value} {nn : Nat} {sz oth : Int} {ts to : Tok} {rs rs2 : List Rw} {Q : Flow → Shared → Prop}
    (hd : dp + 300 < recursionLimit) (hu : un + 3000 < cLine)
    (F : Fr b₀ L hp (fun y => if y = Str.ofString "names" then some (.ref ln) else if y = Str.ofString "size" then some (.int sz ts) else if y = Str.ofString "others" then some (.int oth to) else if y = Str.ofString "states" then some (.ref st) else if y = Str.ofString "nonterminals" then some (.ref nt) else m₀ y))
    (N : News b₀ L hp ((t, ot) :: (c, oc) :: (L + 1, oC) :: rest)) (hC : oC.data = Data.cell (some (.ref t))) (Y : TrayO c ot oc N₀) (hN₀ : N₀ ≤ 500) (htc : @Ne Nat t c) (htL : @Ne Nat t (L + 1)) (hcL : @Ne Nat c (L + 1)) (hrt : ∀ p ∈ rest, @Ne Nat p.1 t) (hrc : ∀ p ∈ rest, @Ne Nat p.1 c)
    (hn : (ln, listOf vn.toArray nn) ∈ rest) (hvn : ∀ (i : Nat), i < 5 → ∃ k t, vn[i]? = some (.str k t)) (hsz : 1 ≤ sz ∧ sz ≤ 3) (hoth : 1 ≤ oth ∧ oth ≤ 2)
    (h1 : ∃ ys n, (st, listOf ys.toArray n) ∈ rest ∧ All2 (RowAt prog w (inL rest)) ys rs) (h2 : ∃ ys n, (nt, listOf ys.toArray n) ∈ rest ∧ All2 (RowAt prog w (inL rest)) ys rs2) (hr1 : rs.length ≤ 3) (hr2 : rs2.length ≤ 3)
    (hQ : ∀ h' tk m, Fr b₀ L h' m → Q (.ret (.bool true)) ⟨h', gn, dr, tk, os⟩) :
    wpAny (model prog w) ((ar dp un fr gd).deeper (lawEnv L f cdv)) (execs (lawBody.drop 8) (lawEnv L f cdv)) Q (fun _ _ => False) ⟨hp, gn, dr, tk, os⟩ := by
  refine' expose ?e ?_
  case e => with_unfolding_all rfl
  obtain ⟨s1, s2⟩ := hsz
  obtain ⟨s3, s4⟩ := hoth
  have hsz1 : Stop (sz ≤ 3) := s2
  have hsz2 : Stop (oth ≤ 2) := s4
  have hsz3 : sz.toNat ≤ 3 := by omega
  have hoth3 : oth.toNat ≤ 3 := by omega
  have s5 : sz ≤ 1000 := by omega
  have s6 : oth ≤ 1000 := by omega
  clear s2 s4
  k_steps
  unfold Stop
  rename_i g5 tk5 t51 t52 t53 R5 F5 N5 K5
  refine LCg.CompSrc.range (news := (t, ot) :: (c, oc) :: (L + 1, oC) :: rest) (by rfl) F5 N5 (by assumption) (range_sm (by omega) (by omega)) (range_sz (by omega)) (by rw [sizeLine_eq]; omega) ?_
  intro gh
  refine compRest_inv (Inv := fun i ys news => ∃ ot oc, news = (t, ot) :: (c, oc) :: (L + 1, oC) :: rest ∧ TrayO c ot oc (N₀ + 3 * i) ∧ ∃ ms, IntsAre ys ms ∧ ms.length = i) ?step ?fin _ 0 [] _ (Nat.zero_add _) ⟨ot, oc, rfl, Y, [], .nil, rfl⟩
  case step =>
    rintro i ys news v I oI C oC2 D m₂ h tk E' hi ⟨ot2, oc2, rfl, Y6, ms, hms, hml⟩ ⟨tv, rfl⟩ hC2 hx F6 N6 off ne
    obtain ⟨ne1, ne2, ne3⟩ := ne
    have off0 := off
    simp only [LCg.Off3] at off
    obtain ⟨⟨of1, of2, of3⟩, ⟨of4, of5, of6⟩, ⟨of7, of8, of9⟩, of0⟩ := off
    have hi2 : i < 3 := toNat_lt 3 hi hsz1
    clear hsz1
    k_steps
    refine CPost.intro (by assumption) (by assumption) ((t, _) :: (c, _) :: (L + 1, oC) :: rest) (by lcg_sub) (by simp only [LCg.Off3]; exact off0) trivial ⟨_, _, rfl, (by assumption : TrayO _ _ _ (N₀ + 3 * i + 3)), ms ++ [_], IntsAre.append hms (.cons _ _ .nil), by simp [hml]⟩
  rintro ys1 news ⟨ot6, oc6, rfl, Y6, ms1, hms1, hml1⟩
  k_steps
  unfold Stop
  rename_i D1 h6 tk6 F6 N6 o6 g7 tk7 t71 t72 t73 R7 F7 N7 K7
  obtain ⟨m1, m2, m3, m4⟩ := o6
  have N7r : News b₀ L g7 ((t, ot6) :: (c, oc6) :: (L + 1, oC) :: (D1, LCg.lst ys1) :: rest) := news_sub N7 (by lcg_sub)
  have Y7 : TrayO c ot6 oc6 (N₀ + 3 * sz.toNat) := Y6
  have hN2 : N₀ + 3 * sz.toNat ≤ 600 := by have : sz ≤ 3 := hsz1; omega
  clear F6 N6 N7 hsz1
  refine LCg.CompSrc.range (news := (t, ot6) :: (c, oc6) :: (L + 1, oC) :: (D1, LCg.lst ys1) :: rest) (by rfl) F7 N7r (by assumption) (range_sm (by omega) (by omega)) (range_sz (by omega)) (by rw [sizeLine_eq]; omega) ?_
  intro gh2
  refine compRest_inv (Inv := fun i ys news => ∃ ot oc, news = (t, ot) :: (c, oc) :: (L + 1, oC) :: (D1, LCg.lst ys1) :: rest ∧ TrayO c ot oc (N₀ + 3 * sz.toNat + 3 * i) ∧ ∃ ms, IntsAre ys ms ∧ ms.length = i) ?step2 ?fin2 _ 0 [] _ (Nat.zero_add _) ⟨ot6, oc6, rfl, Y7, [], .nil, rfl⟩
  case step2 =>
    rintro i ys news v I oI C oC2 D m₂ h tk E' hi ⟨ot2, oc2, rfl, Y8, ms, hms, hml⟩ ⟨tv, rfl⟩ hC2 hx F8 N8 off ne
    obtain ⟨ne1, ne2, ne3⟩ := ne
    have off0 := off
    simp only [LCg.Off3] at off
    obtain ⟨⟨of1, of2, of3⟩, ⟨of4, of5, of6⟩, ⟨of7, of8, of9⟩, ⟨of10, of11, of12⟩, of0⟩ := off
    have hi2 : i < 2 := toNat_lt 2 hi hsz2
    clear hsz2
    generalize N₀ + 3 * sz.toNat = N2 at *
    k_steps
    refine CPost.intro (by assumption) (by assumption) ((t, _) :: (c, _) :: (L + 1, oC) :: (D1, LCg.lst ys1) :: rest) (by lcg_sub) (by simp only [LCg.Off3]; exact off0) trivial ⟨_, _, rfl, (by assumption : TrayO _ _ _ (N2 + 3 * i + 3)), ms ++ [_], IntsAre.append hms (.cons _ _ .nil), by simp [hml]⟩
  rintro ys2 news ⟨ot9, oc9, rfl, Y9, ms2, hms2, hml2⟩
  k_steps
  unfold Stop
  rename_i D2 g8 tk8 o8 D3 g9 l9 g10 g11 g12 F12 N12
  have N13 : News b₀ L g12 ((D1, LCg.lst ys1) :: (D2, LCg.lst ys2) :: rest) := news_sub N12 (by lcg_sub)
  obtain ⟨y1, e1, q1, r1⟩ := h1
  obtain ⟨y2, e2, q2, r2⟩ := h2
  exact law4 (m₀ := _) (rs := rs) (rs2 := rs2) (n9 := ms1) (n10 := ms2) X T (by omega) (by omega) (fr_name (fr_name (fr_name (fr_name (fr_name (fr_name F12 (x := Str.ofString "others") (v := .int oth to) rfl) (x := Str.ofString "goals") (v := .ref D2) rfl) (x := Str.ofString "rules") (v := .ref D1) rfl) (x := Str.ofString "nonterminals") (v := .ref nt) rfl) (x := Str.ofString "states") (v := .ref st) rfl) (x := Str.ofString "names") (v := .ref ln) rfl) N13 (List.mem_append_right [_, _] hn) hvn ⟨s3, hsz2⟩
    ⟨⟨y1, e1, List.mem_append_right [_, _] q1, r1.mono fun _ _ q => q.mono fun _ _ m => List.mem_append_right [_, _] m⟩, ⟨ys1, _, List.mem_cons_self, hms1⟩, hr1, by rw [hml1]; exact hsz3⟩
    ⟨⟨y2, e2, List.mem_append_right [_, _] q2, r2.mono fun _ _ q => q.mono fun _ _ m => List.mem_append_right [_, _] m⟩, ⟨ys2, _, List.mem_cons_of_mem _ List.mem_cons_self, hms2⟩, hr2, by rw [hml2]; exact hoth3⟩ hQ
end
section
example : True := by w_top off; trivial
variable {prog : Program} {w : World} {b₀ : Heap} {p : Program} {loose : List Str} {mean : ExcName → Option Value} {mg mb : Str → Option Value}
local macro_rules | `(tactic| walk_at "call ref") => `(tactic| (k_here; (with_reducible show wpAny _ _ (call (Value.ref 380) [Value.ref _]) _ _ _); k_dflt (refine' row_led ?X ?T ?F ?N ?Y ?U1 ?U2 ?ne ?hd ?hu ?hN ?_; (case X => k_asm); (case T => k_asm); (case F => k_asm); (case N => k_asm); (case Y => k_asm); (case U1 => k_updF); (case U2 => intro o'; k_updF); (case ne => assumption); (case hd => (dsimp only [ar, Around.deeper]; first | exact room1 (by assumption) (by decide) | exact room0 (by assumption) (by decide) | omega)); (case hu => (dsimp only [ar, Around.deeper]; first | exact room0 (by assumption) (by decide) | omega)); (case hN => assumption)); intro h' tk' a' o' r' ot' oc' F' N' p' Y' lo' R' I'; (try k_sweep)))
local macro_rules | `(tactic| walk_at "execs cons") => `(tactic| ((with_reducible show wpAny _ _ (execs (Stmt.Assign _ _ ⟨238, _, _, _⟩ :: _) _) _ _ _); refine Stop.in ?_))
local macro_rules | `(tactic| walk_at "CompSrc") => `(tactic| refine Stop.in ?_)
theorem bd1 {N i : Nat} (h : N ≤ 200) (k : i < 3) : N + 13 * i < 800 := by omega
theorem bd2 {N i : Nat} (h : N ≤ 300) (k : i < 2) : N + 13 * i < 800 := by omega
theorem law3b (X : (hd.heap_39 w.params).In b₀) (T : Top p loose mean mg mb b₀) {dp un : Nat} {fr : Option (List Env)} {gd : Option (List Code)} {L f t c ln : Addr} {cdv : Value} {hp : Heap} {gn dr os} {tk : Nat} {m₀ : Str → Option Value} {ot oc oC : Obj} {N₀ : Nat} {rest : List (Addr × Obj)} {vn : List Value} {nn : Nat} {sz oth : Int} {ts to : Tok} {Q : Flow → Shared → Prop}
    (hd : dp + 300 < recursionLimit) (hu : un + 3000 < cLine)
    (F : Fr b₀ L hp (fun y => if y = Str.ofString "names" then some (.ref ln) else if y = Str.ofString "size" then some (.int sz ts) else if y = Str.ofString "others" then some (.int oth to) else m₀ y))
    (N : News b₀ L hp ((t, ot) :: (c, oc) :: (L + 1, oC) :: rest)) (hC : oC.data = Data.cell (some (.ref t))) (Y : TrayO c ot oc N₀) (hN₀ : N₀ ≤ 200) (htc : @Ne Nat t c) (htL : @Ne Nat t (L + 1)) (hcL : @Ne Nat c (L + 1)) (hrt : ∀ p ∈ rest, @Ne Nat p.1 t) (hrc : ∀ p ∈ rest, @Ne Nat p.1 c)
    (hn : (ln, listOf vn.toArray nn) ∈ rest) (hvn : ∀ (i : Nat), i < 5 → ∃ k t, vn[i]? = some (.str k t)) (hsz : 1 ≤ sz ∧ sz ≤ 3) (hoth : 1 ≤ oth ∧ oth ≤ 2)
    (hQ : ∀ h' tk m, Fr b₀ L h' m → Q (.ret (.bool true)) ⟨h', gn, dr, tk, os⟩) :
    wpAny (model prog w) ((ar dp un fr gd).deeper (lawEnv L f cdv)) (execs (lawBody.drop 7) (lawEnv L f cdv)) Q (fun _ _ => False) ⟨hp, gn, dr, tk, os⟩ := by
  refine' expose ?e ?_
  case e => with_unfolding_all rfl
  obtain ⟨s1, s2⟩ := id hsz
  obtain ⟨s3, s4⟩ := id hoth
  have hsz3 : sz.toNat ≤ 3 := by omega
  have hoth3 : oth.toNat ≤ 2 := by omega
  have s5 : sz ≤ 1000 := by omega
  have s6 : oth ≤ 1000 := by omega
  replace hsz : Stop (1 ≤ sz ∧ sz ≤ 3) := hsz
  replace hoth : Stop (1 ≤ oth ∧ oth ≤ 2) := hoth
  clear s2 s4
  k_steps
  unfold Stop
  rename_i g5 tk5 t51 t52 t53 R5 F5 N5 K5
  refine LCg.CompSrc.range (news := (t, ot) :: (c, oc) :: (L + 1, oC) :: rest) (by rfl) F5 N5 (by assumption) (range_sm (by omega) (by omega)) (range_sz (by omega)) (by rw [sizeLine_eq]; omega) ?_
  intro gh
  refine compRest_inv (Inv := fun i ys news => ∃ ot oc nw rs, news = (t, ot) :: (c, oc) :: (L + 1, oC) :: nw ∧ TrayO c ot oc (N₀ + 13 * i) ∧ All2 (RowAt prog w (inL nw)) ys rs ∧ rs.length = i ∧ (∀ p ∈ nw, @Ne Nat p.1 t) ∧ (∀ p ∈ nw, @Ne Nat p.1 c) ∧ (∀ p ∈ rest, p ∈ nw)) ?step ?fin _ 0 [] _ (Nat.zero_add _) ⟨ot, oc, rest, [], rfl, Y, .nil, rfl, hrt, hrc, fun _ h => h⟩
  case step =>
    rintro i ys news v I oI C oC2 D m₂ h tk E' hi ⟨ot2, oc2, nw, rs, rfl, Y6, hA, hrl, hnt, hnc, hsub⟩ ⟨tv, rfl⟩ hC2 hx F6 N6 off ne
    obtain ⟨ne1, ne2, ne3⟩ := ne
    simp only [LCg.Off3] at off
    obtain ⟨⟨of1, of2, of3⟩, ⟨of4, of5, of6⟩, ⟨of7, of8, of9⟩, of0⟩ := off
    have hi2 : i < 3 := Nat.lt_of_lt_of_le hi hsz3
    have hlt8 : N₀ + 13 * i < 800 := bd1 hN₀ hi2
    clear hi2
    k_steps
    rename_i g9 tk9 a9 o9 r9 ot9 oc9 F9 N9 p9 Y9 lo9 R9 I9
    have ap : ∀ q : Addr × Obj, q ∈ (I, oI) :: (C, oC2) :: (D, LCg.lst ys) :: (t, ot2) :: (c, oc2) :: (L + 1, oC) :: nw → @Ne Nat a9 q.1 := fun _ hq => Ne.symm (p9 _ hq)
    refine CPost.intro F9 N9 ((t, _) :: (c, _) :: (L + 1, oC) :: (a9, o9) :: nw) (by lcg_sub) (by simp only [LCg.Off3]; exact ⟨⟨of1, of2, of3⟩, ⟨of4, of5, of6⟩, ⟨of7, of8, of9⟩, ⟨ap (I, oI) (by k_mem), ap (C, oC2) (by k_mem), ap (D, LCg.lst ys) (by k_mem)⟩, of0⟩) trivial ⟨_, _, (a9, o9) :: nw, rs ++ [r9], rfl, Y9, (hA.mono fun _ _ q => q.mono fun _ _ z => List.mem_cons_of_mem _ z).snoc ⟨a9, o9, rfl, List.mem_cons_self, lo9, R9, I9⟩, by simp [hrl], allNe_cons (ap (t, ot2) (by k_mem)) hnt, allNe_cons (ap (c, oc2) (by k_mem)) hnc, fun q hq => List.mem_cons_of_mem _ (hsub q hq)⟩
  rintro ys1 news ⟨ot6, oc6, nw, rs, rfl, Y6, hA, hrl, hnt, hnc, hsub⟩
  k_steps
  unfold Stop
  rename_i D1 h6 tk6 F6 N6 o6 g7 tk7 t71 t72 t73 R7 F7 N7 K7
  obtain ⟨m1, m2, m3, m4⟩ := o6
  have N7r : News b₀ L g7 ((t, ot6) :: (c, oc6) :: (L + 1, oC) :: (D1, LCg.lst ys1) :: nw) := news_sub N7 (by lcg_sub)
  have Y7 : TrayO c ot6 oc6 (N₀ + 13 * sz.toNat) := Y6
  have hN2 : N₀ + 13 * sz.toNat ≤ 300 := by omega
  have hrl3 : rs.length ≤ 3 := by omega
  clear F6 N6 N7
  generalize N₀ + 13 * sz.toNat = N2 at Y7 hN2
  refine LCg.CompSrc.range (news := (t, ot6) :: (c, oc6) :: (L + 1, oC) :: (D1, LCg.lst ys1) :: nw) (by rfl) F7 N7r (by assumption) (range_sm (by omega) (by omega)) (range_sz (by omega)) (by rw [sizeLine_eq]; omega) ?_
  intro gh2
  refine compRest_inv (Inv := fun i ys news => ∃ ot oc nw2 rs2, news = (t, ot) :: (c, oc) :: (L + 1, oC) :: nw2 ∧ TrayO c ot oc (N2 + 13 * i) ∧ All2 (RowAt prog w (inL nw2)) ys rs2 ∧ rs2.length = i ∧ (∀ p ∈ nw2, @Ne Nat p.1 t) ∧ (∀ p ∈ nw2, @Ne Nat p.1 c) ∧ (∀ p ∈ (D1, LCg.lst ys1) :: nw, p ∈ nw2)) ?step2 ?fin2 _ 0 [] _ (Nat.zero_add _) ⟨ot6, oc6, (D1, LCg.lst ys1) :: nw, [], rfl, Y7, .nil, rfl, allNe_cons (Ne.symm m1) hnt, allNe_cons (Ne.symm m2) hnc, fun _ h => h⟩
  case step2 =>
    rintro i ys news v I oI C oC2 D m₂ h tk E' hi ⟨ot2, oc2, nw2, rs2, rfl, Y8, hA2, hrl2, hnt2, hnc2, hsub2⟩ ⟨tv, rfl⟩ hC2 hx F8 N8 off ne
    obtain ⟨ne1, ne2, ne3⟩ := ne
    simp only [LCg.Off3] at off
    obtain ⟨⟨of1, of2, of3⟩, ⟨of4, of5, of6⟩, ⟨of7, of8, of9⟩, of0⟩ := off
    have hlt8 : N2 + 13 * i < 800 := bd2 hN2 (Nat.lt_of_lt_of_le hi hoth3)
    clear m1 m2 m3 m4
    k_steps
    rename_i g9 tk9 a9 o9 r9 ot9 oc9 F9 N9 p9 Y9 lo9 R9 I9
    have ap : ∀ q : Addr × Obj, q ∈ (I, oI) :: (C, oC2) :: (D, LCg.lst ys) :: (t, ot2) :: (c, oc2) :: (L + 1, oC) :: nw2 → @Ne Nat a9 q.1 := fun _ hq => Ne.symm (p9 _ hq)
    refine CPost.intro F9 N9 ((t, _) :: (c, _) :: (L + 1, oC) :: (a9, o9) :: nw2) (by lcg_sub) (by simp only [LCg.Off3]; exact ⟨⟨of1, of2, of3⟩, ⟨of4, of5, of6⟩, ⟨of7, of8, of9⟩, ⟨ap (I, oI) (by k_mem), ap (C, oC2) (by k_mem), ap (D, LCg.lst ys) (by k_mem)⟩, of0⟩) trivial ⟨_, _, (a9, o9) :: nw2, rs2 ++ [r9], rfl, Y9, (hA2.mono fun _ _ q => q.mono fun _ _ z => List.mem_cons_of_mem _ z).snoc ⟨a9, o9, rfl, List.mem_cons_self, lo9, R9, I9⟩, by simp [hrl2], allNe_cons (ap (t, ot2) (by k_mem)) hnt2, allNe_cons (ap (c, oc2) (by k_mem)) hnc2, fun q hq => List.mem_cons_of_mem _ (hsub2 q hq)⟩
  rintro ys2 news ⟨ot9, oc9, nw2, rs2, rfl, Y9, hA2, hrl2, hnt2, hnc2, hsub2⟩
  k_steps
  unfold Stop
  rename_i D2 g8 tk8 o8 D3 g9 l9 g10 g11 g12 F12 N12
  obtain ⟨v1, v2, v3, v4⟩ := o8
  have N13 : News b₀ L g12 ((t, ot9) :: (c, oc9) :: (L + 1, oC) :: (D2, LCg.lst ys2) :: nw2) := news_sub N12 (by lcg_sub)
  have hN3 : N2 + 13 * oth.toNat ≤ 500 := by omega
  exact law3c (m₀ := _) (rs := rs) (rs2 := rs2) X T hd hu (fr_name (fr_name (fr_name (fr_name (fr_name F12 (x := Str.ofString "nonterminals") (v := .ref D2) rfl) (x := Str.ofString "states") (v := .ref D1) rfl) (x := Str.ofString "others") (v := .int oth to) rfl) (x := Str.ofString "size") (v := .int sz ts) rfl) (x := Str.ofString "names") (v := .ref ln) rfl) N13 hC Y9 hN3 htc htL hcL (allNe_cons (Ne.symm v1) hnt2) (allNe_cons (Ne.symm v2) hnc2)
    (List.mem_cons_of_mem _ (hsub2 _ (List.mem_cons_of_mem _ (hsub _ hn)))) hvn hsz hoth
    ⟨ys1, _, List.mem_cons_of_mem _ (hsub2 _ List.mem_cons_self), hA.mono fun _ _ q => q.mono fun _ _ m => List.mem_cons_of_mem _ (hsub2 _ (List.mem_cons_of_mem _ m))⟩
    ⟨ys2, _, List.mem_cons_self, hA2.mono fun _ _ q => q.mono fun _ _ m => List.mem_cons_of_mem _ m⟩ hrl3 (by omega) hQ
end
section
example : True := by w_top off; trivial
variable {prog : Program} {w : World} {b₀ : Heap} {p : Program} {loose : List Str} {mean : ExcName → Option Value} {mg mb : Str → Option Value}
local macro_rules | `(tactic| walk_at "execs cons") => `(tactic| ((with_reducible show wpAny _ _ (execs (Stmt.Assign _ _ ⟨237, _, _, _⟩ :: _) _) _ _ _); refine Stop.in ?_))
theorem names_at {t0 t1 t2 t3 t4 t5 t6 : Tok} {r : Int} (h : r = 0 ∨ r = 1) (i : Nat) (hi : i < 5) : ∃ k t, (slicePick #[Value.str (Str.ofString "$end") t0, Value.str (Str.ofString "error") t1, Value.str (Str.ofString "$undefined") t2, Value.str (Str.ofString "a") t3, Value.str (Str.ofString "b") t4, Value.str (Str.ofString "$accept") t5, Value.str (Str.ofString "s") t6] none (some (5 + (1 + r))) none).toList[i]? = some (Value.str k t) := by
  rcases h with rfl | rfl
  · match i, hi with
    | 0, _ => exact ⟨_, _, rfl⟩
    | 1, _ => exact ⟨_, _, rfl⟩
    | 2, _ => exact ⟨_, _, rfl⟩
    | 3, _ => exact ⟨_, _, rfl⟩
    | 4, _ => exact ⟨_, _, rfl⟩
  · match i, hi with
    | 0, _ => exact ⟨_, _, rfl⟩
    | 1, _ => exact ⟨_, _, rfl⟩
    | 2, _ => exact ⟨_, _, rfl⟩
    | 3, _ => exact ⟨_, _, rfl⟩
    | 4, _ => exact ⟨_, _, rfl⟩
/-- a mark: the stop has been passed -/
def Mark : Prop := True
local macro_rules | `(tactic| walk_at "subscriptTail Name Slice ref ref") => `(tactic| ((fail_if_success (have : Mark := by assumption)); refine Stop.in ?_))
theorem law3a (X : (hd.heap_39 w.params).In b₀) (T : Top p loose mean mg mb b₀) {dp un : Nat} {fr : Option (List Env)} {gd : Option (List Code)} {L f t c : Addr} {cdv : Value} {hp : Heap} {gn dr os} {tk : Nat} {m₀ : Str → Option Value} {ot oc oC : Obj} {N₀ : Nat} {Q : Flow → Shared → Prop}
    (hd : dp + 300 < recursionLimit) (hu : un + 3000 < cLine)
    (F : Fr b₀ L hp m₀) (N : News b₀ L hp [(t, ot), (c, oc), (L + 1, oC)]) (hC : oC.data = Data.cell (some (.ref t))) (Y : TrayO c ot oc N₀) (hN₀ : N₀ ≤ 100) (htc : @Ne Nat t c) (htL : @Ne Nat t (L + 1)) (hcL : @Ne Nat c (L + 1))
    (hQ : ∀ h' tk m, Fr b₀ L h' m → Q (.ret (.bool true)) ⟨h', gn, dr, tk, os⟩) :
    wpAny (model prog w) ((ar dp un fr gd).deeper (lawEnv L f cdv)) (execs (lawBody.drop 5) (lawEnv L f cdv)) Q (fun _ _ => False) ⟨hp, gn, dr, tk, os⟩ := by
  refine' expose ?e ?_
  case e => with_unfolding_all rfl
  k_steps
  unfold Stop
  have mk : Mark := trivial
  rename_i g1 tk1 r1 u1 ot1 oc1 Y1 r10 r11 g2 tk2 r2 u2 ot2 oc2 Y2 r20 r21 D2 g3 l3 g4 g5 g6 l7 g7 F7 N7 l8
  have zt : t < g7.objs.size := Heap.lt_size (N7.get (show (t, ot2) ∈ _ by k_mem))
  have zc : c < g7.objs.size := Heap.lt_size (N7.get (show (c, oc2) ∈ _ by k_mem))
  k_steps
  unfold Stop
  rename_i g8 g9 F9 N9
  have hq1 : r2 = 0 ∨ r2 = 1 := by omega
  have N10 := news_sub (b := (t, ot2) :: (c, oc2) :: (L + 1, oC) :: (g7.objs.size + 1, listOf (slicePick #[Value.str (Str.ofString "$end") tk, Value.str (Str.ofString "error") (tk + 1), Value.str (Str.ofString "$undefined") (tk + 1 + 1), Value.str (Str.ofString "a") (tk + 1 + 1 + 1), Value.str (Str.ofString "b") (tk + 1 + 1 + 1 + 1), Value.str (Str.ofString "$accept") (tk + 1 + 1 + 1 + 1 + 1), Value.str (Str.ofString "s") (tk + 1 + 1 + 1 + 1 + 1 + 1)] none (some (5 + (1 + r2))) none).toList.toArray 0) :: []) N9 (by lcg_sub)
  exact law3b (m₀ := _) (ln := g7.objs.size + 1) (sz := 1 + r1) (oth := 1 + r2) X T hd hu (fr_name (fr_name (fr_name F9 (x := Str.ofString "others") (v := .int (1 + r2) _) rfl) (x := Str.ofString "size") (v := .int (1 + r1) _) rfl) (x := Str.ofString "names") (v := .ref (g7.objs.size + 1)) rfl) N10 hC Y2 (by omega) htc htL hcL (allNe_cons (Nat.ne_of_gt (Nat.lt_succ_of_lt zt)) (fun _ h => absurd h List.not_mem_nil)) (allNe_cons (Nat.ne_of_gt (Nat.lt_succ_of_lt zc)) (fun _ h => absurd h List.not_mem_nil)) List.mem_cons_self (fun i hi => names_at hq1 i hi) (by omega) (by omega) hQ
end
section
example : True := by w_top off; trivial
variable {prog : Program} {w : World} {b₀ : Heap} {p : Program} {loose : List Str} {mean : ExcName → Option Value} {mg mb : Str → Option Value}
theorem kind_new (X : (hd.heap_39 w.params).In b₀) (T : Top p loose mean mg mb b₀) {dp un : Nat} {fr : Option (List Env)} {gd : Option (List Code)} {hp : Heap} {gn dr os} {tk₀ : Nat} {L l : Addr} {m : Str → Option Value} {news : List (Addr × Obj)} {vs : List Value} {n : Nat} {ns : List Int} {Q E : Value → Shared → Prop}
    (F : Fr b₀ L hp m) (N : News b₀ L hp news) (hm : (l, listOf vs.toArray n) ∈ news) (hI : IntsAre vs ns) (hlen : ns.length ≤ 1000) (hd : dp + 10 < recursionLimit) (hu : un + 100 < cLine)
    (hq : ∀ h' tk a t t' n, Fr b₀ L h' m → News b₀ L h' ((a, tupOf [.str (kindOf ns).1 t, .int (kindOf ns).2 t'] n) :: news) → Q (.ref a) ⟨h', gn, dr, tk, os⟩) :
    wpAny (model prog w) (ar dp un fr gd) (call (.ref 338) [.ref l]) Q E ⟨hp, gn, dr, tk₀, os⟩ := by
  refine kind_spec X T hd hu F.keep (s := ⟨hp, gn, dr, tk₀, os⟩) (N.isList hm) hI hlen fun h' tk a K fr ⟨t, t', n, hk⟩ => ?_
  exact hq h' tk a t t' n (fr_keep F K (by simp) (by simp)) (news_app (a := [_]) (news_fresh F (fun p hp => by rw [List.mem_singleton.mp hp]; exact ⟨hk, fr⟩)) (news_keep N K (by simp)))
theorem due_new (X : (hd.heap_39 w.params).In b₀) (T : Top p loose mean mg mb b₀) {dp un : Nat} {fr : Option (List Env)} {gd : Option (List Code)} {hp : Heap} {gn dr os} {tk₀ : Nat} {L l : Addr} {m : Str → Option Value} {news : List (Addr × Obj)} {vs : List Value} {n : Nat} {ns : List Int} {Q E : Value → Shared → Prop}
    (F : Fr b₀ L hp m) (N : News b₀ L hp news) (hm : (l, listOf vs.toArray n) ∈ news) (hI : IntsAre vs ns) (hlen : ns.length ≤ 1000) (hd : dp + 10 < recursionLimit) (hu : un + 100 < cLine)
    (hq : ∀ h' tk a t t' n, Fr b₀ L h' m → News b₀ L h' ((a, tupOf [.str (kindOf ns).1 t, .int (kindOf ns).2 t'] n) :: news) → Q (.ref a) ⟨h', gn, dr, tk, os⟩) :
    wpAny (model prog w) (ar dp un fr gd) (call (.ref 375) [.ref l]) Q E ⟨hp, gn, dr, tk₀, os⟩ := by
  refine due_spec X T hd hu F.keep (s := ⟨hp, gn, dr, tk₀, os⟩) (N.isList hm) hI hlen fun h' tk a K fr ⟨t, t', n, hk⟩ => ?_
  exact hq h' tk a t t' n (fr_keep F K (by simp) (by simp)) (news_app (a := [_]) (news_fresh F (fun p hp => by rw [List.mem_singleton.mp hp]; exact ⟨hk, fr⟩)) (news_keep N K (by simp)))
theorem kinds_ne {A : Around} {E : Value → Shared → Prop} {s : Shared} {h₀ : Heap} {L : Addr} {news : List (Addr × Obj)} {a b : Addr} {ns ms : List Int} {t u t' u' : Tok} {n n' : Nat} {Q : Value → Shared → Prop} (N : News h₀ L s.heap news) (ha : (a, tupOf [.str (kindOf ns).1 t, .int (kindOf ns).2 u] n) ∈ news) (hb : (b, tupOf [.str (kindOf ms).1 t', .int (kindOf ms).2 u'] n') ∈ news)
    (e : kindOf ns = kindOf ms) (hu : A.units < cLine) (h : Q (.bool false) s) : wpAny (model prog w) A (compareOp .NotEq (.ref a) (.ref b)) Q E s := by
  have za := (N _ ha).1
  have zb := (N _ hb).1
  dsimp only at za zb
  rw [e] at za
  exact tupSI_ne za zb hu h
section
variable {A : Around} {E : Value → Shared → Prop} {s : Shared} {env : Env} {h₀ : Heap} {x : Str} {body : List Stmt} {Q : Flow → Shared → Prop}
/-- over a range, where the loop's own name and two more are stored -/
theorem range_W3 {r : Addr} {b₁ : Int} {t₀ u₀ v₀ : Tok} {n : Nat} {m₀ : Str → Option Value} {news : List (Addr × Obj)} (z z' : Str) (J : Nat → List (Addr × Obj) → Prop)
    (hh : A.handled = none) (hr : IsRange s.heap r 0 b₁ 1 t₀ u₀ v₀) (hsmall : Builtin.Range.small 0 b₁ 1 = true) (hn : Builtin.Range.rangeSize 0 b₁ 1 = (n : Int)) (F : Fr h₀ env.locals s.heap m₀) (N : News h₀ env.locals s.heap news) (hj : J 0 news)
    (turn : ∀ i t o1 o2 nx h tk I oI, i < n → J i nx → (∀ p ∈ nx, @Ne Nat p.1 I) → Fr h₀ env.locals h (fun y => if y = x then some (.int (i : Int) t) else if y = z then o1 else if y = z' then o2 else m₀ y) → News h₀ env.locals h ((I, oI) :: nx) →
      wpAny (model prog w) A (execs body env) (TPost h₀ env.locals (fun m nx => (∀ y, y ≠ x → y ≠ z → y ≠ z' → m y = m₀ y) ∧ J (i + 1) nx) I oI { s with heap := h, toks := tk } Q) E { s with heap := h, toks := tk })
    (done : ∀ ox o1 o2 nx h tk, J n nx → Fr h₀ env.locals h (fun y => if y = x then ox else if y = z then o1 else if y = z' then o2 else m₀ y) → News h₀ env.locals h nx → Q .next { s with heap := h, toks := tk }) :
    wpAny (model prog w) A (pyIter (.ref r)) (fun it s₂ => LoopAtV prog w A h₀ env x body Q E it s₂) E s := by
  have form : ∀ (m : Str → Option Value), (∀ y, y ≠ x → y ≠ z → y ≠ z' → m y = m₀ y) → m = fun y => if y = x then m x else if y = z then m z else if y = z' then m z' else m₀ y := fun m hm => by
    funext y
    by_cases h1 : y = x
    · rw [if_pos h1, h1]
    · by_cases h2 : y = z
      · rw [if_neg h1, if_pos h2, h2]
      · by_cases h3 : y = z'
        · rw [if_neg h1, if_neg h2, if_pos h3, h3]
        · rw [if_neg h1, if_neg h2, if_neg h3]; exact hm y h1 h2 h3
  refine range_G (n := n) (J := fun i m nx => (∀ y, y ≠ x → y ≠ z → y ≠ z' → m y = m₀ y) ∧ J i nx) hh hr hsmall hn F N ⟨fun _ _ _ _ => rfl, hj⟩ ?_ ?_
  · rintro i t m₁ nx h tk I oI hi ⟨hm, hJ⟩ hoff F' N'
    rw [form m₁ hm, two_ite] at F'
    exact turn i t (m₁ z) (m₁ z') nx h tk I oI hi hJ hoff F' N'
  · rintro m₁ nx h tk ⟨hm, hJ⟩ F' N'
    rw [form m₁ hm] at F'
    exact done _ _ _ nx h tk hJ F' N'
end
local macro_rules | `(tactic| walk_at "call ref") => `(tactic| (k_here; (with_reducible show wpAny _ _ (call (Value.ref 338) [Value.ref _]) _ _ _); k_dflt (refine' kind_new ?X ?T ?F ?N ?m ?I ?l ?hd ?hu ?_; (case X => k_asm); (case T => k_asm); (case F => k_asm); (case N => k_asm); (case m => k_mem); (case I => assumption); (case l => first | omega | (simp only [List.length_append, List.length_reverse]; omega)); (case hd => (dsimp only [ar, Around.deeper]; first | exact room1 (by assumption) (by decide) | exact room0 (by assumption) (by decide) | omega)); (case hu => (dsimp only [ar, Around.deeper]; first | exact room0 (by assumption) (by decide) | omega))); intro h' tk' a' t' u' n' F' N'; (try k_sweep)))
local macro_rules | `(tactic| walk_at "call ref") => `(tactic| (k_here; (with_reducible show wpAny _ _ (call (Value.ref 375) [Value.ref _]) _ _ _); k_dflt (refine' due_new ?X ?T ?F ?N ?m ?I ?l ?hd ?hu ?_; (case X => k_asm); (case T => k_asm); (case F => k_asm); (case N => k_asm); (case m => k_mem); (case I => assumption); (case l => first | omega | (simp only [List.length_append, List.length_reverse]; omega)); (case hd => (dsimp only [ar, Around.deeper]; first | exact room1 (by assumption) (by decide) | exact room0 (by assumption) (by decide) | omega)); (case hu => (dsimp only [ar, Around.deeper]; first | exact room0 (by assumption) (by decide) | omega))); intro h' tk' a' t' u' n' F' N'; (try k_sweep)))
local macro_rules | `(tactic| walk_at "subscriptTail") => `(tactic| (k_here; (with_reducible show wpAny _ _ (subscriptTail _ _ (Value.ref _) (Value.int 1 _)) _ _ _); k_dflt (refine' item_pair1 (News.get ?N ?m) ?_; (case N => k_asm); (case m => k_mem))))
local macro_rules | `(tactic| walk_at "execs cons") => `(tactic| ((with_reducible show wpAny _ _ (execs (Stmt.Assign _ _ ⟨235, _, _, _⟩ :: _) _) _ _ _); refine Stop.in ?_))
local macro_rules | `(tactic| walk_at "pyIter ref") => `(tactic| (refine Stop.in ?_))
local macro_rules | `(tactic| walk_at "compareOp NotEq ref ref") => `(tactic| (refine Stop.in ?_))
local macro_rules | `(tactic| walk_at "exec For Name Call cons nil") => `(tactic| (k_here; (rename Fr _ _ _ _ => lF'); (with_unfolding_all refine' For_invVF lF' ?k1 ?k2 ?_; (case k1 => exact rfl); (case k2 => exact rfl); k_whole)))
theorem law2 (X : (hd.heap_39 w.params).In b₀) (T : Top p loose mean mg mb b₀) {dp un : Nat} {fr : Option (List Env)} {gd : Option (List Code)} {L f lh ln : Addr} {cdv : Value} {hp : Heap} {gn dr os} {tk : Nat} {m₀ : Str → Option Value} {rest : List (Addr × Obj)} {ys : List Value} {c1 c2 : Nat} {ms : List Int} {Q : Flow → Shared → Prop}
    (hd : dp + 300 < recursionLimit) (hu : un + 3000 < cLine)
    (F : Fr b₀ L hp (fun y => if y = Str.ofString "held" then some (.ref lh) else if y = Str.ofString "numbers" then some (.ref ln) else m₀ y))
    (N : News b₀ L hp ((lh, listOf ys.toArray c1) :: (ln, listOf ys.toArray c2) :: rest)) (hI : IntsAre ys ms) (hlen : ms.length ≤ 10)
    (hnext : ∀ h' tk m, Fr b₀ L h' m → News b₀ L h' rest → wpAny (model prog w) ((ar dp un fr gd).deeper (lawEnv L f cdv)) (execs (lawBody.drop 5) (lawEnv L f cdv)) Q (fun _ _ => False) ⟨h', gn, dr, tk, os⟩) :
    wpAny (model prog w) ((ar dp un fr gd).deeper (lawEnv L f cdv)) (execs (lawBody.drop 3) (lawEnv L f cdv)) Q (fun _ _ => False) ⟨hp, gn, dr, tk, os⟩ := by
  refine' expose ?e ?_
  case e => with_unfolding_all rfl
  have hyl := hI.length
  have hlenS : Stop (ms.length ≤ 10) := hlen
  have hlen2 : ms.length ≤ 1000 := by omega
  clear hlen
  k_steps
  unfold Stop
  rename IsRange _ _ _ _ _ _ _ _ => hr
  rename_i h3 tk3 t31 t32 t33 F3 N3 K3
  refine range_W3 (n := ms.length + 1) (Str.ofString "first") (Str.ofString "rest") (J := fun i nx => nx = (lh, W.listOf ys.toArray c1) :: (ln, W.listOf ys.toArray c2) :: rest) (by rfl) hr (range_sm (by omega) (by omega)) (by rw [range_sz (by omega)]; omega) F3 N3 rfl ?turn ?done
  case turn =>
    rintro i t o1 o2 nx h tk I oI hi rfl hoff F9 N9
    have hi0 : (0 : Int) ≤ (i : Int) := by omega
    have hi1 : (i : Int) ≤ ms.length := by omega
    k_steps
    unfold Stop
    refine kinds_ne (by assumption) (by k_mem) (by k_mem) rfl (by dsimp only [ar, Around.deeper]; omega) ?_
    k_steps
    unfold Stop
    refine kinds_ne (by assumption) (by k_mem) (by k_mem) (kindOf_mem fun x => List.mem_reverse) (by dsimp only [ar, Around.deeper]; omega) ?_
    k_steps
    unfold Stop
    refine kinds_ne (by assumption) (by k_mem) (by k_mem) (kindOf_mem fun x => by rw [List.mem_append, or_comm, ← List.mem_append, List.take_append_drop]) (by dsimp only [ar, Around.deeper]; omega) ?_
    have q1 : (kindOf (List.take (i : Int).toNat ms)).2 ≤ (kindOf ms).2 := kindOf_mono fun x hx => List.mem_of_mem_take hx
    have q2 : (kindOf (List.drop (i : Int).toNat ms)).2 ≤ (kindOf ms).2 := kindOf_mono fun x hx => List.mem_of_mem_drop hx
    k_steps
    refine TEnd.intro ((lh, W.listOf ys.toArray c1) :: (ln, W.listOf ys.toArray c2) :: rest) (by assumption) (by assumption) (by lcg_sub) hoff ⟨fun y h1 h2 h3 => ?_, rfl⟩
    simp only [if_neg h1, if_neg h2, if_neg h3]
  case done =>
    rintro ox o1 o2 nx h tk rfl F9 N9
    k_steps
    unfold Stop
    refine ke_ne_ints (N9.isList (List.mem_cons_of_mem _ List.mem_cons_self)) (N9.isList List.mem_cons_self) hI hI (by dsimp only [ar, Around.deeper]; omega) ?_
    rw [show decide (ms = ms) = true from decide_eq_true rfl]
    k_steps
    unfold Stop
    exact hnext _ _ _ F9 (news_sub N9 fun q hq => List.mem_cons_of_mem _ (List.mem_cons_of_mem _ hq))
end
section
example : True := by w_top off; trivial
variable {prog : Program} {w : World} {b₀ : Heap} {p : Program} {loose : List Str} {mean : ExcName → Option Value} {mg mb : Str → Option Value}
local macro_rules | `(tactic| walk_at "execs cons") => `(tactic| ((with_reducible show wpAny _ _ (execs (Stmt.For _ _ _ _ _ :: _) _) _ _ _); refine Stop.in ?_))
local macro_rules | `(tactic| walk_at "CompSrc") => `(tactic| refine Stop.in ?_)
theorem lt6 {i : Nat} {r : Int} (h : i < (1 + r).toNat) (k : r < 6) : i < 6 := by omega
theorem law1 (X : (hd.heap_39 w.params).In b₀) (T : Top p loose mean mg mb b₀) {dp un : Nat} {fr : Option (List Env)} {gd : Option (List Code)} {L f l : Addr} {cdv : Value} {hp : Heap} {gn dr os} {tk : Nat} {cells : List (Addr × Obj)} {vs : List Value} {ns : List Int} {Q : Flow → Shared → Prop}
    (hd : dp + 300 < recursionLimit) (hu : un + 3000 < cLine)
    (F : Fr b₀ L hp (bindL (lawEnv L f cdv).kindOf [(Str.ofString "script", Value.ref l)] fun _ => none)) (N : News b₀ L hp cells)
    (Yc : CellsAre (bindC (lawEnv L f cdv).kindOf [(Str.ofString "script", Value.ref l)] fun _ => none) (cellsFrom (L + 1) lawScope.names []) cells) (hl : b₀.IsList l vs.toArray) (hI : IntsAre vs ns) (hlen : ns.length ≤ 63)
    (hQ : ∀ h' tk m, Fr b₀ L h' m → Q (.ret (.bool true)) ⟨h', gn, dr, tk, os⟩) :
    wpAny (model prog w) ((ar dp un fr gd).deeper (lawEnv L f cdv)) (execs lawBody (lawEnv L f cdv)) Q (fun _ _ => False) ⟨hp, gn, dr, tk, os⟩ := by
  k_cells Yc
  try simp only [List.cons_append, List.nil_append] at N
  refine' expose ?e ?_
  case e => with_unfolding_all rfl
  k_steps
  unfold Stop
  rename_i oC dC
  refine tray_spec X T (by dsimp only [ar, Around.deeper]; first | exact room1 hd (by decide) | exact room0 hd (by decide) | omega) (by dsimp only [ar, Around.deeper]; first | exact room0 hu (by decide) | omega) F.keep (F.lst hl) hI hlen fun h2 tk2 t c ot oc K2 fr2 ntc Y2 => ?_
  have F2 := fr_keep F K2 (by simp) (by simp)
  have N2 : News b₀ L h2 [(t, ot), (c, oc), (L + 1, oC)] := news_app (news_fresh F fr2) (news_keep N K2 (by simp))
  have zC := (N (L + 1, oC) List.mem_cons_self).1
  have ntL : @Ne Nat t (L + 1) := fun e => by
    have z := (fr2 (t, ot) List.mem_cons_self).2
    dsimp only at z zC
    rw [e, zC] at z; cases z
  have ncL : @Ne Nat c (L + 1) := fun e => by
    have z := (fr2 (c, oc) (List.mem_cons_of_mem _ List.mem_cons_self)).2
    dsimp only at z zC
    rw [e, zC] at z; cases z
  clear F N
  k_steps
  unfold Stop
  rename_i g3 o3 d3 g4 tk4 r4 tr4 ot4 oc4 F4 N4 Y4 r40 r41 g5 tk5 t51 t52 t53 R5 F5 N5 K5
  clear F4 N4
  refine LCg.CompSrc.range (news := [(t, ot4), (c, oc4), (L + 1, o3)]) (by rfl) F5 N5 (by assumption) (range_sm (by omega) (by omega)) (range_sz (by omega)) (by rw [sizeLine_eq]; omega) ?_
  intro gh
  refine compRest_inv (Inv := fun i ys news => ∃ ot oc, news = [(t, ot), (c, oc), (L + 1, o3)] ∧ TrayO c ot oc (1 + 3 * i) ∧ ∃ ms, IntsAre ys ms ∧ ms.length = i) ?step ?fin _ 0 [] _ (Nat.zero_add _) ⟨ot4, oc4, rfl, Y4, [], .nil, rfl⟩
  case step =>
    rintro i ys news v I oI C oC2 D m₂ h tk E' hi ⟨ot2, oc2, rfl, Y6, ms, hms, hml⟩ ⟨tv, rfl⟩ hC hx F6 N6 off ne
    obtain ⟨ne1, ne2, ne3⟩ := ne
    have off0 := off
    simp only [LCg.Off3] at off
    obtain ⟨⟨of1, of2, of3⟩, ⟨of4, of5, of6⟩, ⟨of7, of8, of9⟩, _⟩ := off
    have hi6 : i < 6 := lt6 hi r41
    k_steps
    refine CPost.intro (by assumption) (by assumption) ((t, _) :: (c, _) :: (L + 1, o3) :: []) (by lcg_sub) (by simp only [LCg.Off3]; exact off0) trivial ⟨_, _, rfl, (by assumption : TrayO _ _ _ (1 + 3 * i + 3)), ms ++ [_], IntsAre.append hms (.cons _ _ .nil), by simp [hml]⟩
  rintro ys news ⟨ot6, oc6, rfl, Y6, ms, hms, hml⟩
  have hlen6 : ms.length ≤ 6 := by omega
  k_steps
  unfold Stop
  rename_i D1 g6 tk6 o6 D2 c6 g7 l7 g8 F8 N8
  exact law2 (m₀ := _) (lh := D2) (ln := D1) X T hd hu F8 N8 hms (by omega) fun h' tk m F' N' => law3a X T hd hu F' N' d3 Y6 (by omega) ntc ntL ncL hQ
end
end
section
example : True := by w_top off; trivial
theorem fin : PySem.Challenge.rw_qd0061_01.Holds := hd (by
  k_go0
  rename (hd.heap_39 _).In _ => KX
  rename Top _ _ _ _ _ _ => TT
  rename Fr _ _ _ _ => F0
  rename News _ _ _ _ => N0
  rename CellsAre _ _ _ => X0
  rename IntsAre _ _ => hI
  rename Heap.IsList _ _ _ => hL
  rename ¬ _ < _ => hc
  rename _ = #[] => hg
  refine wpAny_mono (Q := fun f s' => f = .ret (.bool true) ∧ ∃ m, Fr _ _ s'.heap m ∧ s'.gens = #[] ∧ s'.os = _) (E := fun _ _ => False) (law1 (dp := 1 + claimMargin) (un := 4) (fr := some []) (gd := some []) KX TT (by decide) (by decide) F0 N0 X0 hL hI (by omega) fun h' tk m F => ⟨rfl, m, F, hg, rfl⟩) ?_ ?_
  · rintro f s' ⟨rfl, m, F, g, o⟩
    exact goodW_bool F g (fun _ => rfl) (by wrow_post) o
  · intro e s' h
    exact h.elim)
end
end Mine
theorem PySem.Challenge.cw_qd0061_01_holds : PySem.Challenge.rw_qd0061_01.Holds :=
  Mine.fin
