import PyProof.Rows.All
import Wide.All
import OpenK.AllK
import Wide.FinOn
import PySem.Challenge.RW_pc0197_01
open PySem PySem.W PyProof.Rows
set_option Elab.async false
set_option compiler.extract_closed false
set_option maxRecDepth 100000
set_option Elab.async true
namespace Mine
theorem behind {a b : Prop} (_ : a) (y : b) : b := y
theorem hd.tw10052582895069201126 : True := trivial
theorem hd.tw10111801491309104144 : True := trivial
theorem hd.tw1011335219593555734 : True := trivial
theorem hd.tw1013155817946168525 : True := trivial
theorem hd.tw10246146449241189800 : True := trivial
theorem hd.tw10403243965636340961 : True := trivial
theorem hd.tw10424393626065333798 : True := trivial
theorem hd.tw10458740792067480800 : True := trivial
theorem hd.tw10525666975642140466 : True := trivial
theorem hd.tw10583446816852156582 : True := trivial
theorem hd.tw10601615944963115059 : True := trivial
theorem hd.tw10603584201595350602 : True := trivial
theorem hd.tw10614716105012338702 : True := trivial
theorem hd.tw10727248033764811480 : True := trivial
theorem hd.tw10743916045514856203 : True := trivial
theorem hd.tw10784824025267889561 : True := trivial
theorem hd.tw10949625832625181284 : True := trivial
theorem hd.tw1097998534492414930 : True := trivial
theorem hd.tw11032806212648032379 : True := trivial
theorem hd.tw11054480109507316185 : True := trivial
theorem hd.tw11117797201346649052 : True := trivial
theorem hd.tw11128854368766332075 : True := trivial
theorem hd.tw11136197038861592535 : True := trivial
theorem hd.tw11162318198679636149 : True := trivial
theorem hd.tw11210553801493137410 : True := trivial
theorem hd.tw11213053971927718326 : True := trivial
theorem hd.tw1129884963351977449 : True := trivial
theorem hd.tw11319097763535126812 : True := trivial
theorem hd.tw11389486352061984695 : True := trivial
theorem hd.tw11402939732021071671 : True := trivial
theorem hd.tw11465210709893060100 : True := trivial
theorem hd.tw11513968764499736323 : True := trivial
theorem hd.tw11631947586910100387 : True := trivial
theorem hd.tw11652457597714270106 : True := trivial
theorem hd.tw11660266114150955751 : True := trivial
theorem hd.tw11953376511379268794 : True := trivial
theorem hd.tw12023040214023829324 : True := trivial
theorem hd.tw12070051907170230399 : True := trivial
theorem hd.tw12092154237167983948 : True := trivial
theorem hd.tw12112201142124510154 : True := trivial
theorem hd.tw12173100003817136821 : True := trivial
theorem hd.tw12271959270614036898 : True := trivial
theorem hd.tw12399718760709695909 : True := trivial
theorem hd.tw12487502673411948298 : True := trivial
theorem hd.tw12588582704262371052 : True := trivial
theorem hd.tw12631932088317031055 : True := trivial
theorem hd.tw12633595827127266219 : True := trivial
theorem hd.tw12901994302517312135 : True := trivial
theorem hd.tw13181700845877081190 : True := trivial
theorem hd.tw13225837485096350037 : True := trivial
theorem hd.tw13267510147771200024 : True := trivial
theorem hd.tw13330244855972007585 : True := trivial
theorem hd.tw13368278939475635651 : True := trivial
theorem hd.tw13372043803930879067 : True := trivial
theorem hd.tw13483081372092288885 : True := trivial
theorem hd.tw13518370688599389936 : True := trivial
theorem hd.tw13609717118414637909 : True := trivial
theorem hd.tw13770079208771991547 : True := trivial
theorem hd.tw13828106393651249627 : True := trivial
theorem hd.tw1382963296337349011 : True := trivial
theorem hd.tw13919464512627920130 : True := trivial
theorem hd.tw14052039701678915610 : True := trivial
theorem hd.tw1413172679324656950 : True := trivial
theorem hd.tw14176624398918483544 : True := trivial
theorem hd.tw14353793391729792155 : True := trivial
theorem hd.tw1439246655266547700 : True := trivial
theorem hd.tw14457593812595234344 : True := trivial
theorem hd.tw14560493823538711346 : True := trivial
theorem hd.tw14620637471214046174 : True := trivial
theorem hd.tw14705683404202351889 : True := trivial
theorem hd.tw14892549342360969540 : True := trivial
theorem hd.tw14955159897011116063 : True := trivial
theorem hd.tw15042006015671813226 : True := trivial
theorem hd.tw1506431575118746342 : True := trivial
theorem hd.tw15089522573102190283 : True := trivial
theorem hd.tw15166520500009309586 : True := trivial
theorem hd.tw15368132723985388332 : True := trivial
theorem hd.tw15416985209724490359 : True := trivial
theorem hd.tw15527848837575444561 : True := trivial
theorem hd.tw15529170255622000948 : True := trivial
theorem hd.tw15595854959937240912 : True := trivial
theorem hd.tw15616948245753086127 : True := trivial
theorem hd.tw15759970867653108152 : True := trivial
theorem hd.tw15790720579355451973 : True := trivial
theorem hd.tw1580110805410547442 : True := trivial
theorem hd.tw15833661619300960221 : True := trivial
theorem hd.tw15837987909243819085 : True := trivial
theorem hd.tw15967140613478806237 : True := trivial
theorem hd.tw1600037746751723098 : True := trivial
theorem hd.tw16007149819294483003 : True := trivial
theorem hd.tw16056359734778111409 : True := trivial
theorem hd.tw16064382804478563927 : True := trivial
theorem hd.tw16091413853298234908 : True := trivial
theorem hd.tw16194383521188589630 : True := trivial
theorem hd.tw16211521421427940678 : True := trivial
theorem hd.tw16240987189780228909 : True := trivial
theorem hd.tw16259696140248634718 : True := trivial
theorem hd.tw16299908979028503884 : True := trivial
theorem hd.tw16345102440705955213 : True := trivial
theorem hd.tw16412773359747925120 : True := trivial
theorem hd.tw16477043939570097188 : True := trivial
theorem hd.tw16634568088961857937 : True := trivial
theorem hd.tw16719121484147384486 : True := trivial
theorem hd.tw16722109127936396110 : True := trivial
theorem hd.tw16772102934027710169 : True := trivial
theorem hd.tw16853341256802265648 : True := trivial
theorem hd.tw16868993833207775613 : True := trivial
theorem hd.tw16904818350239718627 : True := trivial
theorem hd.tw16920754564084929960 : True := trivial
theorem hd.tw16923495036455162215 : True := trivial
theorem hd.tw16945582573551092051 : True := trivial
theorem hd.tw17054507655720011243 : True := trivial
theorem hd.tw17062030032774818151 : True := trivial
theorem hd.tw17177331786930743035 : True := trivial
theorem hd.tw17183224562656869120 : True := trivial
theorem hd.tw17252143746492648416 : True := trivial
theorem hd.tw17311223219408574766 : True := trivial
theorem hd.tw17447410573909459338 : True := trivial
theorem hd.tw17542962492245011380 : True := trivial
theorem hd.tw17606422857730326317 : True := trivial
theorem hd.tw17650839729002327288 : True := trivial
theorem hd.tw17672654358674132775 : True := trivial
theorem hd.tw17673860158736603733 : True := trivial
theorem hd.tw17711083657039698284 : True := trivial
theorem hd.tw17714235663813219645 : True := trivial
theorem hd.tw17893044597097874663 : True := trivial
theorem hd.tw17901334829092211166 : True := trivial
theorem hd.tw17903497710992402801 : True := trivial
theorem hd.tw17950676927832955104 : True := trivial
theorem hd.tw17975533764899295144 : True := trivial
theorem hd.tw1800889605409440832 : True := trivial
theorem hd.tw18093812233618175256 : True := trivial
theorem hd.tw18103342009636024947 : True := trivial
theorem hd.tw18219297243305740317 : True := trivial
theorem hd.tw18245042118932799458 : True := trivial
theorem hd.tw18264374347568628810 : True := trivial
theorem hd.tw18293732401869909652 : True := trivial
theorem hd.tw18293851220164018083 : True := trivial
theorem hd.tw18300207936620678264 : True := trivial
theorem hd.tw18322514126500204803 : True := trivial
theorem hd.tw18351126306069267617 : True := trivial
theorem hd.tw1836080755315867724 : True := trivial
theorem hd.tw189712035060473897 : True := trivial
theorem hd.tw1997569388931296116 : True := trivial
theorem hd.tw2068664650715991707 : True := trivial
theorem hd.tw2101469004524951375 : True := trivial
theorem hd.tw2114630138375439770 : True := trivial
theorem hd.tw2167537188350426706 : True := trivial
theorem hd.tw2195365466389143174 : True := trivial
theorem hd.tw2216850387143573719 : True := trivial
theorem hd.tw22551697357593593 : True := trivial
theorem hd.tw2274498078352570744 : True := trivial
theorem hd.tw2352982987946734526 : True := trivial
theorem hd.tw2386827423013361158 : True := trivial
theorem hd.tw2391449824757734642 : True := trivial
theorem hd.tw2442259710966052079 : True := trivial
theorem hd.tw2608437505485318709 : True := trivial
theorem hd.tw26425463804135960 : True := trivial
theorem hd.tw2867327485932766208 : True := trivial
theorem hd.tw2887051446865420828 : True := trivial
theorem hd.tw3067323843314967869 : True := trivial
theorem hd.tw307737655149646647 : True := trivial
theorem hd.tw3109861748172591687 : True := trivial
theorem hd.tw3182187488490625086 : True := trivial
theorem hd.tw3229955645248102723 : True := trivial
theorem hd.tw3259873300814134281 : True := trivial
theorem hd.tw3350844169311001129 : True := trivial
theorem hd.tw3451239065008710300 : True := trivial
theorem hd.tw3452082135128663414 : True := trivial
theorem hd.tw3493717111155160527 : True := trivial
theorem hd.tw3759623122121258479 : True := trivial
theorem hd.tw3789350110615891812 : True := trivial
theorem hd.tw3915529967508079626 : True := trivial
theorem hd.tw3919010098100093602 : True := trivial
theorem hd.tw395138700845864316 : True := trivial
theorem hd.tw4014540891139286612 : True := trivial
theorem hd.tw4015398097383911347 : True := trivial
theorem hd.tw4065347644161347641 : True := trivial
theorem hd.tw4172343393113369950 : True := trivial
theorem hd.tw4225703048834024713 : True := trivial
theorem hd.tw4272726840584523970 : True := trivial
theorem hd.tw4297731678662094536 : True := trivial
theorem hd.tw4360684699965382250 : True := trivial
theorem hd.tw4402725079659364252 : True := trivial
theorem hd.tw4478166936697009375 : True := trivial
theorem hd.tw4478964076566166474 : True := trivial
theorem hd.tw4494801613693538912 : True := trivial
theorem hd.tw461538923250603899 : True := trivial
theorem hd.tw464777395874653626 : True := trivial
theorem hd.tw4702841417184801058 : True := trivial
theorem hd.tw4720493938284804191 : True := trivial
theorem hd.tw4851647983119433812 : True := trivial
theorem hd.tw4971549296188076032 : True := trivial
theorem hd.tw4993660671451451078 : True := trivial
theorem hd.tw5036846961687405229 : True := trivial
theorem hd.tw5130813555471234732 : True := trivial
theorem hd.tw5148922909946612681 : True := trivial
theorem hd.tw5174551420813472067 : True := trivial
theorem hd.tw5193626691418679909 : True := trivial
theorem hd.tw5278057926702712004 : True := trivial
theorem hd.tw5343241284826551009 : True := trivial
theorem hd.tw5363564295841288755 : True := trivial
theorem hd.tw5373601922739893978 : True := trivial
theorem hd.tw5608270528595127837 : True := trivial
theorem hd.tw5781342201191254626 : True := trivial
theorem hd.tw5961118342813265553 : True := trivial
theorem hd.tw5978321128707920903 : True := trivial
theorem hd.tw5987830557187376847 : True := trivial
theorem hd.tw6060742912462422084 : True := trivial
theorem hd.tw6164396464334811476 : True := trivial
theorem hd.tw6196171512934965099 : True := trivial
theorem hd.tw6276725880618359904 : True := trivial
theorem hd.tw6291416237084387574 : True := trivial
theorem hd.tw6305734824756694309 : True := trivial
theorem hd.tw6394381022753523788 : True := trivial
theorem hd.tw6411954120941647267 : True := trivial
theorem hd.tw6442067068224118133 : True := trivial
theorem hd.tw6528754448969337418 : True := trivial
theorem hd.tw6545403380812914513 : True := trivial
theorem hd.tw6555240042291301478 : True := trivial
theorem hd.tw6767318904944593275 : True := trivial
theorem hd.tw6785817131721698500 : True := trivial
theorem hd.tw6820862383352777685 : True := trivial
theorem hd.tw6838551448383532254 : True := trivial
theorem hd.tw6924109203229866365 : True := trivial
theorem hd.tw701787995468756871 : True := trivial
theorem hd.tw7023726343779634624 : True := trivial
theorem hd.tw7028611270464810887 : True := trivial
theorem hd.tw7120233287515763914 : True := trivial
theorem hd.tw728884934406724761 : True := trivial
theorem hd.tw7289634563603522867 : True := trivial
theorem hd.tw7296583596125217682 : True := trivial
theorem hd.tw7366208706002141716 : True := trivial
theorem hd.tw7540655947842036084 : True := trivial
theorem hd.tw758273949599710562 : True := trivial
theorem hd.tw7752767780024739350 : True := trivial
theorem hd.tw7754304195085646258 : True := trivial
theorem hd.tw7878038873032413027 : True := trivial
theorem hd.tw7914949630228597729 : True := trivial
theorem hd.tw8025032847418708242 : True := trivial
theorem hd.tw8047900516022102942 : True := trivial
theorem hd.tw8074594152155103352 : True := trivial
theorem hd.tw8117029840178788049 : True := trivial
theorem hd.tw8228950375871286339 : True := trivial
theorem hd.tw8268277133935991078 : True := trivial
theorem hd.tw8324504678176258764 : True := trivial
theorem hd.tw8343274005884668182 : True := trivial
theorem hd.tw8457440626546761165 : True := trivial
theorem hd.tw8458067239894703972 : True := trivial
theorem hd.tw8671608845466749128 : True := trivial
theorem hd.tw8716120427605611371 : True := trivial
theorem hd.tw8735263284916673568 : True := trivial
theorem hd.tw8960069828448710407 : True := trivial
theorem hd.tw9170477692918782315 : True := trivial
theorem hd.tw922143313871775805 : True := trivial
theorem hd.tw9277588360372424766 : True := trivial
theorem hd.tw9345676750909349944 : True := trivial
theorem hd.tw9345929723534960622 : True := trivial
theorem hd.tw9386895884608548742 : True := trivial
theorem hd.tw940411108121529565 : True := trivial
theorem hd.tw9421340871869096474 : True := trivial
theorem hd.tw9566141503761928105 : True := trivial
theorem hd.tw9641152695372364146 : True := trivial
theorem hd.tw9657781627882305391 : True := trivial
theorem hd.tw9673543361469618366 : True := trivial
theorem hd.tw9719896912496429819 : True := trivial
theorem hd.tw9741134391959003819 : True := trivial
theorem hd.tw9748044761591592747 : True := trivial
theorem hd.tw9783614193127449063 : True := trivial
theorem hd.tw978945382295711627 : True := trivial
theorem hd.tw991583007596301734 : True := trivial
set_option maxHeartbeats 8000000 in
theorem hd : True := by
  clear hd
  have _h : type_of% (behind (?x : ∀ G : Prop, G) (by
    w_on
    o_law
    x_head
    (case hw => w_witness2)
    exact ?x _ : PySem.Challenge.rw_pc0197_01.Holds)) → True := fun _ => trivial
  trivial
end Mine
set_option Elab.async false
namespace Mine
theorem hd_there : Mine.hd.heap_1_39 = Mine.hd.heap_1_39 ∧ Mine.hd.view_1_40 = Mine.hd.view_1_40 := by
  w_top off
  exact ⟨rfl, rfl⟩
end Mine
namespace Mine
def cnt (f s l : Int) : Int := if 0 < s then (if l < f then 0 else (l - f).fdiv s + 1) else (if f < l then 0 else (f - l).fdiv (0 - s) + 1)
def lastM (f s l : Int) : Int := if cnt f s l = 0 then (if 0 < s then f - 1 else f + 1) else f + (cnt f s l - 1) * s
def rangeAt (f s l i : Int) : Option Int := if i < 1 then none else if cnt f s l < i then none else some (f + (i - 1) * s)
def indexOf (f s l x : Int) : Option Int :=
  if (x - f).fmod s = 0 then (if 1 ≤ (x - f).fdiv s + 1 then (if (x - f).fdiv s + 1 ≤ cnt f s l then some ((x - f).fdiv s + 1) else none) else none) else none
def back1 (f s l : Int) : Int := if 0 < cnt f s l then lastM f s l else f
def back2 (f s l : Int) : Int := if 0 < cnt f s l then 0 - s else s
def back3 (f s l : Int) : Int := if 0 < cnt f s l then f else lastM f s l
def times3 (f s l x : Int) : Int := if cnt f s l = 0 then f * x - s * x else lastM f s l * x
def pick (f s l a b c : Int) : Option (Int × Int × Int) :=
  if cnt a b c = 0 then some (f, s * b, f - s * b) else
    match rangeAt f s l a, rangeAt f s l (lastM a b c) with
    | some x, some y => some (x, s * b, y)
    | _, _ => none
def up1 (f s l : Int) : Int := if 0 < s then f else if cnt f s (lastM f s l) = 0 then f else back1 f s (lastM f s l)
def up2 (f s l : Int) : Int := if 0 < s then s else if cnt f s (lastM f s l) = 0 then s else back2 f s (lastM f s l)
def up3 (f s l : Int) : Int := if 0 < s then lastM f s l else if cnt f s (lastM f s l) = 0 then lastM f s l else back3 f s (lastM f s l)
def total (f s l : Int) : Int := cnt f s l * f + s * (cnt f s l * (cnt f s l - 1)).fdiv 2
def same (f s l f' s' l' : Int) : Bool := if cnt f s l = cnt f' s' l' then (if cnt f s l = 0 then true else if f = f' then (if s = s' then true else cnt f s l == 1) else false) else false
theorem cnt_nonneg (f s l : Int) : 0 ≤ cnt f s l := by
  unfold cnt
  split
  · split
    · omega
    · have := Int.fdiv_nonneg (a := l - f) (b := s) (by omega) (by omega); omega
  · split
    · omega
    · by_cases h : s = 0
      · subst h; simp
      · have := Int.fdiv_nonneg (a := f - l) (b := 0 - s) (by omega) (by omega); omega
end Mine
namespace Mine
def lstN (f s : Int) (k : Nat) : List Int := (List.range k).map fun i : Nat => f + (i : Int) * s
def lst (f s l : Int) : List Int := lstN f s (cnt f s l).toNat
end Mine
namespace Mine
theorem lstN_zero (f s : Int) : lstN f s 0 = [] := rfl
theorem lstN_succ (f s : Int) (k : Nat) : lstN f s (k + 1) = lstN f s k ++ [f + (k : Int) * s] := by
  unfold lstN; rw [List.range_succ, List.map_append]; rfl
theorem lstN_length (f s : Int) (k : Nat) : (lstN f s k).length = k := by unfold lstN; simp
theorem fdiv_mul_le {x s : Int} (h : 0 < s) : x.fdiv s * s ≤ x := by
  have h1 := Int.mul_fdiv_add_fmod x s
  have h2 := Int.fmod_nonneg_of_pos x h
  rw [Int.mul_comm] at h1; omega
theorem lt_fdiv_mul {x s : Int} (h : 0 < s) : x < (x.fdiv s + 1) * s := by
  have h1 := Int.mul_fdiv_add_fmod x s
  have h2 := Int.fmod_lt_of_pos x h
  rw [Int.mul_comm] at h1; rw [Int.add_mul]; omega
/-- a place lies in a range up as its number lies below the count -/
theorem up_iff {f s l : Int} (h : 0 < s) (k : Nat) : f + (k : Int) * s ≤ l ↔ (k : Int) < cnt f s l := by
  unfold cnt
  rw [if_pos h]
  have hk : 0 ≤ (k : Int) * s := Int.mul_nonneg (Int.natCast_nonneg k) (Int.le_of_lt h)
  by_cases hl : l < f
  · rw [if_pos hl]; constructor
    · intro q; omega
    · intro q; omega
  · rw [if_neg hl]
    have a := fdiv_mul_le (x := l - f) h
    have b := lt_fdiv_mul (x := l - f) h
    constructor
    · intro q
      apply Int.lt_of_mul_lt_mul_right (a := s) _ (Int.le_of_lt h)
      omega
    · intro q
      have c : (k : Int) * s ≤ (l - f).fdiv s * s := Int.mul_le_mul_of_nonneg_right (by omega) (Int.le_of_lt h)
      omega
theorem down_iff {f s l : Int} (h : s < 0) (k : Nat) : l ≤ f + (k : Int) * s ↔ (k : Int) < cnt f s l := by
  have e : cnt f s l = cnt (-f) (-s) (-l) := by
    unfold cnt
    rw [if_neg (by omega), if_pos (by omega : 0 < -s)]
    by_cases hl : f < l
    · rw [if_pos hl, if_pos (by omega)]
    · rw [if_neg hl, if_neg (by omega)]
      rw [show f - l = -l - -f by omega, show (0 : Int) - s = -s by omega]
  rw [e, ← up_iff (by omega : 0 < -s) k, Int.mul_neg]
  omega
/-- what holds between the turns of the loop that lists a row -/
def LInv (f s l here : Int) (found : List Int) : Prop := ∃ k : Nat, here = f + (k : Int) * s ∧ found = lstN f s k ∧ (k : Int) ≤ cnt f s l
theorem LInv.zero (f s l : Int) : LInv f s l f [] := ⟨0, by simp, rfl, cnt_nonneg f s l⟩
theorem LInv.next {f s l here : Int} {found : List Int} (I : LInv f s l here found) (h : (0 < s ∧ here ≤ l) ∨ (s < 0 ∧ l ≤ here)) : LInv f s l (here + s) (found ++ [here]) := by
  obtain ⟨k, e1, e2, e3⟩ := I
  have q : (k : Int) < cnt f s l := by
    rcases h with ⟨a, b⟩ | ⟨a, b⟩
    · exact (up_iff a k).mp (by omega)
    · exact (down_iff a k).mp (by omega)
  refine ⟨k + 1, ?_, ?_, by omega⟩
  · rw [e1, Int.natCast_add, Int.add_mul]; simp; omega
  · rw [lstN_succ, e2, e1]
theorem LInv.last {f s l here : Int} {found : List Int} (I : LInv f s l here found) (h : (0 < s ∧ ¬ here ≤ l) ∨ (s < 0 ∧ ¬ l ≤ here)) : found = lst f s l := by
  obtain ⟨k, e1, e2, e3⟩ := I
  have q : ¬ (k : Int) < cnt f s l := by
    rcases h with ⟨a, b⟩ | ⟨a, b⟩
    · exact fun c => b (e1 ▸ (up_iff a k).mpr c)
    · exact fun c => b (e1 ▸ (down_iff a k).mpr c)
  rw [e2]; unfold lst; congr 1; omega
theorem LInv.len {f s l here : Int} {found : List Int} (I : LInv f s l here found) : (found.length : Int) ≤ cnt f s l := by
  obtain ⟨k, e1, e2, e3⟩ := I
  rw [e2, lstN_length]; exact e3
end Mine
namespace Mine
theorem lst_length (f s l : Int) : (lst f s l).length = (cnt f s l).toNat := lstN_length _ _ _
theorem LInv.short {f s l here : Int} {found : List Int} (I : LInv f s l here found) (hc : cnt f s l < 70) : found.length < 2 ^ 62 := by
  have := I.len
  omega
theorem LInv.short' {f s l here : Int} {found : List Int} (I : LInv f s l here found) (hc : cnt f s l < 70) : found.length < 70 := by
  have := I.len
  omega
end Mine
namespace Mine
theorem meas70 {found : List Int} {x : Int} (h : found.length < 70) : 70 - (found ++ [x]).length < 70 - found.length := by
  rw [List.length_append, List.length_singleton]; omega
theorem LInv.end1 {f s l here : Int} {found : List Int} (I : LInv f s l here found) (h1 : 0 < s) (h2 : ¬ here ≤ l) : found = lst f s l := I.last (.inl ⟨h1, h2⟩)
theorem LInv.end2 {f s l here : Int} {found : List Int} (hs : s ≠ 0) (I : LInv f s l here found) (h1 : ¬ 0 < s) (h2 : ¬ l ≤ here) : found = lst f s l := I.last (.inr ⟨by omega, h2⟩)
theorem LInv.end3 {f s l here : Int} {found : List Int} (I : LInv f s l here found) (hc : cnt f s l < 70) (h : ¬ (found.length : Int) < 70) : found = lst f s l := by
  have := I.short' hc
  omega
theorem LInv.nx1 {f s l here : Int} {found : List Int} (I : LInv f s l here found) (h1 : 0 < s) (h2 : here ≤ l) : LInv f s l (here + s) (found ++ [here]) := I.next (.inl ⟨h1, h2⟩)
theorem LInv.nx2 {f s l here : Int} {found : List Int} (hs : s ≠ 0) (I : LInv f s l here found) (h1 : ¬ 0 < s) (h2 : l ≤ here) : LInv f s l (here + s) (found ++ [here]) := I.next (.inr ⟨by omega, h2⟩)
end Mine
namespace Mine
theorem lst_map (f s l : Int) (n : Nat) (h : n = (cnt f s l).toNat) : ((List.range n).map fun i : Nat => (0 : Int) + (i : Int)).map (fun k => f + k * s) = lst f s l := by
  subst h
  unfold lst lstN
  rw [List.map_map]
  apply List.map_congr_left
  intro i _
  simp
end Mine
namespace Mine
/-- the loop of bezout, n turns at the most -/
def bezL : Nat → Int → Int → Int → Int → Int × Int
  | 0, l, _, a, _ => (l, a)
  | n + 1, l, r, a, b => if r = 0 then (l, a) else bezL n r (l - l.fdiv r * r) b (a - l.fdiv r * b)
def bezG (x y : Int) : Int := (bezL 10 x y 1 0).1
def bezT (x y : Int) : Int := (bezL 10 x y 1 0).2
def BInv (x y l r a b : Int) : Prop := ∃ n : Nat, r < (n : Int) ∧ bezL n l r a b = bezL 10 x y 1 0
theorem fmod_eq' (l r : Int) : l - l.fdiv r * r = l.fmod r := by
  have := Int.mul_fdiv_add_fmod l r
  rw [Int.mul_comm] at this; omega
theorem BInv.zero (x y : Int) (h : y < 10) : BInv x y x y 1 0 := ⟨10, h, rfl⟩
theorem BInv.next {x y l r a b : Int} (I : BInv x y l r a b) (h0 : 0 ≤ r) (h : r ≠ 0) : BInv x y r (l - l.fdiv r * r) b (a - l.fdiv r * b) := by
  obtain ⟨n, h1, h2⟩ := I
  cases n with
  | zero => exact absurd h1 (by simp; omega)
  | succ n =>
    refine ⟨n, ?_, ?_⟩
    · rw [fmod_eq']; have := Int.fmod_lt_of_pos l (b := r) (by omega); omega
    · rw [← h2]; show _ = if r = 0 then (l, a) else bezL n r (l - l.fdiv r * r) b (a - l.fdiv r * b)
      rw [if_neg h]
theorem BInv.last {x y l a b : Int} (I : BInv x y l 0 a b) : l = bezG x y ∧ a = bezT x y := by
  obtain ⟨n, h1, h2⟩ := I
  unfold bezG bezT
  rw [← h2]
  cases n with
  | zero => exact ⟨rfl, rfl⟩
  | succ n => simp [bezL]
theorem fmod_bd (l r : Int) (h : 0 < r) : 0 ≤ l - l.fdiv r * r ∧ l - l.fdiv r * r < r := by
  rw [fmod_eq']; exact ⟨Int.fmod_nonneg_of_pos l h, Int.fmod_lt_of_pos l h⟩
theorem fdiv_bd {l r : Int} (h0 : 0 ≤ l) (h : 0 < r) : 0 ≤ l.fdiv r ∧ l.fdiv r ≤ l := by
  refine ⟨Int.fdiv_nonneg h0 (Int.le_of_lt h), ?_⟩
  rw [Int.fdiv_eq_ediv_of_nonneg l (Int.le_of_lt h)]
  exact Int.ediv_le_self _ h0
def BOk (x y l r a b : Int) : Prop := (0 < l ∧ l ≤ 1000 ∧ 0 ≤ r ∧ r ≤ 1000) ∧ BInv x y l r a b
theorem BOk.rbd {x y l r a b : Int} (I : BOk x y l r a b) : r.natAbs < 1073741824 := by
  have := I.1
  omega
theorem BOk.last {x y l r a b : Int} (I : BOk x y l r a b) (h : r = 0) : l = bezG x y ∧ a = bezT x y := by
  subst h; exact I.2.last
theorem BOk.zero {x y : Int} (h1 : 0 < x) (h2 : x < 10) (h3 : 0 < y) (h4 : y < 10) : BOk x y x y 1 0 := ⟨by omega, .zero x y h4⟩
theorem BOk.next {x y l r a b : Int} (I : BOk x y l r a b) (h : r ≠ 0) : BOk x y r (l - l.fdiv r * r) b (a - l.fdiv r * b) := by
  obtain ⟨h1, h2⟩ := I
  have := fmod_bd l r (by omega)
  exact ⟨by omega, h2.next (by omega) h⟩
theorem BOk.meas {x y l r a b : Int} (I : BOk x y l r a b) (h : r ≠ 0) : (l - l.fdiv r * r).toNat < r.toNat := by
  have := fmod_bd l r (by have := I.1; omega)
  omega
end Mine
namespace Mine
theorem bez_facts {x y : Int} (h1 : 0 < x) (h2 : x < 6) (h3 : 0 < y) (h4 : y < 6) :
    0 < bezG x y ∧ bezG x y < 6 ∧ -6 < bezT x y ∧ bezT x y < 6 ∧ 0 < y.fdiv (bezG x y) ∧ y.fdiv (bezG x y) < 6 ∧ 0 < x.fdiv (bezG x y) * y ∧ x.fdiv (bezG x y) * y < 30 := by
  have hx : x = 1 ∨ x = 2 ∨ x = 3 ∨ x = 4 ∨ x = 5 := by omega
  have hy : y = 1 ∨ y = 2 ∨ y = 3 ∨ y = 4 ∨ y = 5 := by omega
  rcases hx with rfl | rfl | rfl | rfl | rfl <;> rcases hy with rfl | rfl | rfl | rfl | rfl <;> decide
theorem up2_facts {f s l : Int} (h0 : s ≠ 0) (h1 : -6 < s) (h2 : s < 6) : up2 f s l ≠ 0 ∧ -6 < up2 f s l ∧ up2 f s l < 6 := by
  unfold up2 back2
  (repeat' split) <;> omega
theorem up2_pos {f s l : Int} (h0 : s ≠ 0) : cnt (up1 f s l) (up2 f s l) (up3 f s l) ≠ 0 → 0 < up2 f s l := by
  unfold up1 up2 up3 back1 back2 back3
  intro h
  by_cases a : 0 < s
  · simp only [if_pos a] at h ⊢; exact a
  · simp only [if_neg a] at h ⊢
    by_cases b : cnt f s (lastM f s l) = 0
    · simp only [if_pos b] at h; exact absurd b h
    · have := cnt_nonneg f s (lastM f s l)
      simp only [if_neg b, if_pos (by omega : 0 < cnt f s (lastM f s l))] at h ⊢
      omega
def metP (f s l f' s' l' : Int) : Option (Int × Int × Int) :=
  let a1 := up1 f s l; let a2 := up2 f s l; let a3 := up3 f s l
  let b1 := up1 f' s' l'; let b2 := up2 f' s' l'; let b3 := up3 f' s' l'
  if cnt a1 a2 a3 = 0 then none else if cnt b1 b2 b3 = 0 then none else
    let g := bezG a2 b2; let t := bezT a2 b2
    if (b1 - a1).fmod g = 0 then
      let wide := a2.fdiv g * b2
      let hit := a1 + ((b1 - a1).fdiv g * t).fmod (b2.fdiv g) * a2
      let least := if a1 < b1 then b1 else a1
      let first := hit + (least - hit + wide - 1).fdiv wide * wide
      let last := if b3 < a3 then b3 else a3
      if last < first then none else some (first, wide, lastM first wide last)
    else none
end Mine
namespace Mine
/-- a row as the law draws it -/
def RowOk (f s l : Int) : Prop := (s ≠ 0 ∧ -6 < s ∧ s < 6) ∧ (-30 ≤ l - f ∧ l - f ≤ 30)
theorem RowOk.cnt {f s l : Int} (h : RowOk f s l) : cnt f s l ≤ 31 := by
  unfold Mine.cnt
  obtain ⟨⟨h1, h2, h3⟩, h4, h5⟩ := h
  split
  · rename_i a
    split
    · omega
    · have := (fdiv_bd (l := l - f) (r := s) (by omega) a).2
      omega
  · split
    · omega
    · have := (fdiv_bd (l := f - l) (r := 0 - s) (by omega) (by omega)).2
      omega
end Mine
namespace Mine
def Ok6 (f s l : Int) : Prop := s ≠ 0 ∧ -6 < s ∧ s < 6 ∧ cnt f s l < 60
def SortTo (ns T : List Int) : Prop := T.Perm ns ∧ T.Pairwise (· ≤ ·)
structure PredIs (p : Int → Bool) : Prop where
/-- the list of what two rows have in common, as met tells it -/
def mlst (f s l a b c : Int) : List Int := match metP f s l a b c with
  | none => []
  | some (x, y, z) => lst x y z
theorem mlst_none {f s l a b c : Int} (h : metP f s l a b c = none) : [] = mlst f s l a b c := by unfold mlst; rw [h]
theorem mlst_some {f s l a b c x y z : Int} (h : metP f s l a b c = some (x, y, z)) : lst x y z = mlst f s l a b c := by unfold mlst; rw [h]
end Mine
namespace Mine
theorem mem_lst {f s l x : Int} : x ∈ lst f s l ↔ ∃ i : Nat, (i : Int) < cnt f s l ∧ x = f + (i : Int) * s := by
  unfold lst lstN
  simp only [List.mem_map, List.mem_range]
  constructor
  · rintro ⟨i, hi, rfl⟩; exact ⟨i, by omega, rfl⟩
  · rintro ⟨i, hi, rfl⟩; exact ⟨i, by omega, rfl⟩
theorem lst_of_cnt {f s l l' : Int} (h : cnt f s l = cnt f s l') : lst f s l = lst f s l' := by unfold lst; rw [h]
theorem lastM_of_cnt {f s l l' : Int} (h : cnt f s l = cnt f s l') : lastM f s l = lastM f s l' := by unfold lastM; rw [h]
theorem lst_nil {f s l : Int} (h : cnt f s l = 0) : lst f s l = [] := by unfold lst; rw [h]; rfl
theorem mem_up {f s l x : Int} (h : 0 < s) : x ∈ lst f s l ↔ f ≤ x ∧ x ≤ l ∧ s ∣ (x - f) := by
  rw [mem_lst]
  constructor
  · rintro ⟨i, hi, rfl⟩
    have h1 := (up_iff h i).mpr hi
    have h2 := Int.mul_nonneg (Int.natCast_nonneg i) (Int.le_of_lt h)
    exact ⟨by omega, h1, ⟨i, by rw [Int.mul_comm s]; omega⟩⟩
  · rintro ⟨h1, h2, k, hk⟩
    have hk0 : 0 ≤ k := by
      by_cases q : 0 ≤ k
      · exact q
      · have := Int.mul_neg_of_pos_of_neg h (by omega : k < 0)
        omega
    have e : ((k.toNat : Nat) : Int) = k := Int.toNat_of_nonneg hk0
    refine ⟨k.toNat, (up_iff h _).mp ?_, ?_⟩
    · rw [e, Int.mul_comm]; omega
    · rw [e, Int.mul_comm]; omega
theorem cnt_neat {f s l : Int} (h0 : s ≠ 0) : cnt f s (lastM f s l) = cnt f s l := by
  have hn := cnt_nonneg f s l
  by_cases n0 : cnt f s l = 0
  · rw [n0]; unfold lastM; rw [if_pos n0]
    by_cases h : 0 < s
    · rw [if_pos h]; unfold cnt; rw [if_pos h, if_pos (by omega)]
    · rw [if_neg h]; unfold cnt; rw [if_neg h, if_pos (by omega)]
  · have e : lastM f s l = f + (cnt f s l - 1) * s := by unfold lastM; rw [if_neg n0]
    rw [e]
    generalize cnt f s l = n at *
    by_cases h : 0 < s
    · have q := Int.mul_nonneg (by omega : 0 ≤ n - 1) (Int.le_of_lt h)
      unfold cnt
      rw [if_pos h, if_neg (by omega), show f + (n - 1) * s - f = (n - 1) * s by omega, Int.mul_fdiv_cancel _ h0]
      omega
    · have q := Int.mul_nonneg (by omega : 0 ≤ n - 1) (by omega : 0 ≤ -s)
      rw [Int.mul_neg] at q
      unfold cnt
      rw [if_neg h, if_neg (by omega), show f - (f + (n - 1) * s) = (n - 1) * (0 - s) by rw [Int.mul_sub]; omega, Int.mul_fdiv_cancel _ (by omega)]
      omega
theorem cnt_back {f s n : Int} (h : s < 0) (hn : 0 < n) : cnt (f + (n - 1) * s) (0 - s) f = n := by
  have q := Int.mul_nonneg (by omega : 0 ≤ n - 1) (by omega : 0 ≤ -s)
  rw [Int.mul_neg] at q
  unfold cnt
  rw [if_pos (by omega), if_neg (by omega), show f - (f + (n - 1) * s) = (n - 1) * (0 - s) by rw [Int.mul_sub]; omega, Int.mul_fdiv_cancel _ (by omega)]
  omega
theorem up_zero {f s l : Int} (h0 : s ≠ 0) (hn : cnt f s l = 0) : cnt (up1 f s l) (up2 f s l) (up3 f s l) = 0 := by
  have e := cnt_neat (f := f) (l := l) h0
  unfold up1 up2 up3
  by_cases h : 0 < s
  · simp only [if_pos h]; omega
  · simp only [if_neg h, if_pos (e.trans hn)]; omega
theorem up_facts {f s l : Int} (h0 : s ≠ 0) (hn : 0 < cnt f s l) :
    0 < up2 f s l ∧ cnt (up1 f s l) (up2 f s l) (up3 f s l) = cnt f s l ∧ ∀ x, x ∈ lst f s l ↔ up1 f s l ≤ x ∧ x ≤ up3 f s l ∧ up2 f s l ∣ (x - up1 f s l) := by
  have e := cnt_neat (f := f) (l := l) h0
  by_cases h : 0 < s
  · unfold up1 up2 up3
    simp only [if_pos h]
    exact ⟨h, e, fun x => by rw [← lst_of_cnt e]; exact mem_up h⟩
  · have hs : s < 0 := by omega
    have e1 : up1 f s l = f + (cnt f s l - 1) * s := by
      unfold up1 back1; rw [if_neg h, if_neg (by omega), if_pos (by omega), lastM_of_cnt e]; unfold lastM; rw [if_neg (by omega)]
    have e2 : up2 f s l = 0 - s := by unfold up2 back2; rw [if_neg h, if_neg (by omega), if_pos (by omega)]
    have e3 : up3 f s l = f := by unfold up3 back3; rw [if_neg h, if_neg (by omega), if_pos (by omega)]
    have eb := cnt_back (f := f) hs hn
    refine ⟨by omega, by rw [e1, e2, e3]; exact eb, fun x => ?_⟩
    rw [e1, e2, e3, ← mem_up (by omega : 0 < 0 - s), mem_lst, mem_lst, eb]
    generalize cnt f s l = n at *
    constructor
    · rintro ⟨i, hi, rfl⟩
      refine ⟨(n - 1 - i).toNat, by omega, ?_⟩
      rw [Int.toNat_of_nonneg (by omega)]
      have e3 : (n - 1 - (i : Int)) * s = (n - 1) * s - (i : Int) * s := Int.sub_mul _ _ _
      have e4 : (n - 1 - (i : Int)) * (0 - s) = -((n - 1 - (i : Int)) * s) := by rw [Int.mul_sub, Int.mul_zero, Int.zero_sub]
      have e5 : (i : Int) * (0 - s) = -((i : Int) * s) := by rw [Int.mul_sub, Int.mul_zero, Int.zero_sub]
      omega
    · rintro ⟨i, hi, rfl⟩
      refine ⟨(n - 1 - i).toNat, by omega, ?_⟩
      rw [Int.toNat_of_nonneg (by omega)]
      have e3 : (n - 1 - (i : Int)) * s = (n - 1) * s - (i : Int) * s := Int.sub_mul _ _ _
      have e4 : (n - 1 - (i : Int)) * (0 - s) = -((n - 1 - (i : Int)) * s) := by rw [Int.mul_sub, Int.mul_zero, Int.zero_sub]
      have e5 : (i : Int) * (0 - s) = -((i : Int) * s) := by rw [Int.mul_sub, Int.mul_zero, Int.zero_sub]
      omega
theorem crt_gen {p q g p' q' t u : Int} (hp : p = g * p') (hq : q = g * q') (hb : p' * t + q' * u = 1) (hg : g ≠ 0) (y d : Int) :
    (p ∣ y ∧ q ∣ (y - d)) ↔ (d % g = 0 ∧ (p' * q) ∣ (y - ((d / g * t) % q') * p)) := by
  constructor
  · rintro ⟨⟨k, rfl⟩, ⟨m, hm⟩⟩
    have hd : d = g * (p' * k - q' * m) := by grind
    have h2 : d / g = p' * k - q' * m := by rw [hd]; exact Int.mul_ediv_cancel_left _ hg
    refine ⟨by rw [hd]; exact Int.mul_emod_right _ _, k / q', ?_⟩
    have h3 : d / g * t = k - q' * (k * u + m * t) := by rw [h2]; grind
    have h4 : (d / g * t) % q' = k % q' := by rw [h3, Int.sub_mul_emod_self_left]
    rw [h4]
    have h5 := Int.mul_ediv_add_emod k q'
    generalize k % q' = r at *
    generalize k / q' = j at *
    grind
  · rintro ⟨h1, m, hm⟩
    have hd := Int.mul_ediv_add_emod d g
    have h5 := Int.mul_ediv_add_emod (d / g * t) q'
    generalize (d / g * t) % q' = r at *
    generalize (d / g * t) / q' = j at *
    generalize d / g = e at *
    exact ⟨⟨r + q' * m, by grind⟩, ⟨-(e * u) - j * p' + p' * m, by grind⟩⟩
theorem crt {p q : Int} (h1 : 0 < p) (h2 : p < 6) (h3 : 0 < q) (h4 : q < 6) (y d : Int) :
    (p ∣ y ∧ q ∣ (y - d)) ↔ (d.fmod (bezG p q) = 0 ∧ (p.fdiv (bezG p q) * q) ∣ (y - ((d.fdiv (bezG p q) * bezT p q).fmod (q.fdiv (bezG p q))) * p)) := by
  have hx : p = 1 ∨ p = 2 ∨ p = 3 ∨ p = 4 ∨ p = 5 := by omega
  have hy : q = 1 ∨ q = 2 ∨ q = 3 ∨ q = 4 ∨ q = 5 := by omega
  have key : ∀ g t m w : Int, bezG p q = g → bezT p q = t → q.fdiv g = m → p.fdiv g * q = w → 0 ≤ g → 0 ≤ m →
      ((p ∣ y ∧ q ∣ (y - d)) ↔ (d % g = 0 ∧ w ∣ (y - ((d / g * t) % m) * p))) →
      ((p ∣ y ∧ q ∣ (y - d)) ↔ (d.fmod (bezG p q) = 0 ∧ (p.fdiv (bezG p q) * q) ∣ (y - ((d.fdiv (bezG p q) * bezT p q).fmod (q.fdiv (bezG p q))) * p))) := by
    intro g t m w e1 e2 e3 e4 hg hm h
    subst e1 e2 e3 e4
    rw [Int.fmod_eq_emod_of_nonneg _ hg, Int.fdiv_eq_ediv_of_nonneg d hg, Int.fmod_eq_emod_of_nonneg _ hm]
    exact h
  rcases hx with rfl | rfl | rfl | rfl | rfl <;> rcases hy with rfl | rfl | rfl | rfl | rfl
  · exact key 1 (0) 1 1 (by decide) (by decide) (by decide) (by decide) (by decide) (by decide) (crt_gen (p' := 1) (u := 1) (by decide) (by decide) (by decide) (by decide) y d)
  · exact key 1 (1) 2 2 (by decide) (by decide) (by decide) (by decide) (by decide) (by decide) (crt_gen (p' := 1) (u := 0) (by decide) (by decide) (by decide) (by decide) y d)
  · exact key 1 (1) 3 3 (by decide) (by decide) (by decide) (by decide) (by decide) (by decide) (crt_gen (p' := 1) (u := 0) (by decide) (by decide) (by decide) (by decide) y d)
  · exact key 1 (1) 4 4 (by decide) (by decide) (by decide) (by decide) (by decide) (by decide) (crt_gen (p' := 1) (u := 0) (by decide) (by decide) (by decide) (by decide) y d)
  · exact key 1 (1) 5 5 (by decide) (by decide) (by decide) (by decide) (by decide) (by decide) (crt_gen (p' := 1) (u := 0) (by decide) (by decide) (by decide) (by decide) y d)
  · exact key 1 (0) 1 2 (by decide) (by decide) (by decide) (by decide) (by decide) (by decide) (crt_gen (p' := 2) (u := 1) (by decide) (by decide) (by decide) (by decide) y d)
  · exact key 2 (0) 1 2 (by decide) (by decide) (by decide) (by decide) (by decide) (by decide) (crt_gen (p' := 1) (u := 1) (by decide) (by decide) (by decide) (by decide) y d)
  · exact key 1 (-1) 3 6 (by decide) (by decide) (by decide) (by decide) (by decide) (by decide) (crt_gen (p' := 2) (u := 1) (by decide) (by decide) (by decide) (by decide) y d)
  · exact key 2 (1) 2 4 (by decide) (by decide) (by decide) (by decide) (by decide) (by decide) (crt_gen (p' := 1) (u := 0) (by decide) (by decide) (by decide) (by decide) y d)
  · exact key 1 (-2) 5 10 (by decide) (by decide) (by decide) (by decide) (by decide) (by decide) (crt_gen (p' := 2) (u := 1) (by decide) (by decide) (by decide) (by decide) y d)
  · exact key 1 (0) 1 3 (by decide) (by decide) (by decide) (by decide) (by decide) (by decide) (crt_gen (p' := 3) (u := 1) (by decide) (by decide) (by decide) (by decide) y d)
  · exact key 1 (1) 2 6 (by decide) (by decide) (by decide) (by decide) (by decide) (by decide) (crt_gen (p' := 3) (u := -1) (by decide) (by decide) (by decide) (by decide) y d)
  · exact key 3 (0) 1 3 (by decide) (by decide) (by decide) (by decide) (by decide) (by decide) (crt_gen (p' := 1) (u := 1) (by decide) (by decide) (by decide) (by decide) y d)
  · exact key 1 (-1) 4 12 (by decide) (by decide) (by decide) (by decide) (by decide) (by decide) (crt_gen (p' := 3) (u := 1) (by decide) (by decide) (by decide) (by decide) y d)
  · exact key 1 (2) 5 15 (by decide) (by decide) (by decide) (by decide) (by decide) (by decide) (crt_gen (p' := 3) (u := -1) (by decide) (by decide) (by decide) (by decide) y d)
  · exact key 1 (0) 1 4 (by decide) (by decide) (by decide) (by decide) (by decide) (by decide) (crt_gen (p' := 4) (u := 1) (by decide) (by decide) (by decide) (by decide) y d)
  · exact key 2 (0) 1 4 (by decide) (by decide) (by decide) (by decide) (by decide) (by decide) (crt_gen (p' := 2) (u := 1) (by decide) (by decide) (by decide) (by decide) y d)
  · exact key 1 (1) 3 12 (by decide) (by decide) (by decide) (by decide) (by decide) (by decide) (crt_gen (p' := 4) (u := -1) (by decide) (by decide) (by decide) (by decide) y d)
  · exact key 4 (0) 1 4 (by decide) (by decide) (by decide) (by decide) (by decide) (by decide) (crt_gen (p' := 1) (u := 1) (by decide) (by decide) (by decide) (by decide) y d)
  · exact key 1 (-1) 5 20 (by decide) (by decide) (by decide) (by decide) (by decide) (by decide) (crt_gen (p' := 4) (u := 1) (by decide) (by decide) (by decide) (by decide) y d)
  · exact key 1 (0) 1 5 (by decide) (by decide) (by decide) (by decide) (by decide) (by decide) (crt_gen (p' := 5) (u := 1) (by decide) (by decide) (by decide) (by decide) y d)
  · exact key 1 (1) 2 10 (by decide) (by decide) (by decide) (by decide) (by decide) (by decide) (crt_gen (p' := 5) (u := -2) (by decide) (by decide) (by decide) (by decide) y d)
  · exact key 1 (-1) 3 15 (by decide) (by decide) (by decide) (by decide) (by decide) (by decide) (crt_gen (p' := 5) (u := 2) (by decide) (by decide) (by decide) (by decide) y d)
  · exact key 1 (1) 4 20 (by decide) (by decide) (by decide) (by decide) (by decide) (by decide) (crt_gen (p' := 5) (u := -1) (by decide) (by decide) (by decide) (by decide) y d)
  · exact key 5 (0) 1 5 (by decide) (by decide) (by decide) (by decide) (by decide) (by decide) (crt_gen (p' := 1) (u := 1) (by decide) (by decide) (by decide) (by decide) y d)
theorem ceil_up {lo hit w x : Int} (hw : 0 < w) : (lo ≤ x ∧ w ∣ (x - hit)) ↔ (hit + (lo - hit + w - 1).fdiv w * w ≤ x ∧ w ∣ (x - (hit + (lo - hit + w - 1).fdiv w * w))) := by
  have a := fdiv_mul_le (x := lo - hit + w - 1) hw
  have b := lt_fdiv_mul (x := lo - hit + w - 1) hw
  generalize (lo - hit + w - 1).fdiv w = k at *
  rw [Int.add_mul, Int.one_mul] at b
  constructor
  · rintro ⟨h1, j, hj⟩
    have e : x - (hit + k * w) = w * (j - k) := by rw [Int.mul_sub, ← hj, Int.mul_comm w k]; omega
    refine ⟨?_, j - k, e⟩
    by_cases q : 0 ≤ j - k
    · have := Int.mul_nonneg (Int.le_of_lt hw) q; omega
    · have : w * (j - k) ≤ w * (-1) := Int.mul_le_mul_of_nonneg_left (by omega) (Int.le_of_lt hw)
      omega
  · rintro ⟨h1, j, hj⟩
    refine ⟨by omega, j + k, ?_⟩
    rw [Int.mul_add, ← hj, Int.mul_comm w k]; omega
theorem met_mem {f s l a b c : Int} (h : Ok6 f s l) (h' : Ok6 a b c) (x : Int) : x ∈ mlst f s l a b c ↔ x ∈ lst f s l ∧ x ∈ lst a b c := by
  obtain ⟨h0, h1, h2, _⟩ := h
  obtain ⟨k0, k1, k2, _⟩ := h'
  have n1 := cnt_nonneg f s l
  have n2 := cnt_nonneg a b c
  unfold mlst metP
  by_cases z1 : cnt f s l = 0
  · have q : cnt (up1 f s l) (up2 f s l) (up3 f s l) = 0 := up_zero h0 z1
    simp only [if_pos q]
    rw [lst_nil z1]; simp
  by_cases z2 : cnt a b c = 0
  · have q : cnt (up1 a b c) (up2 a b c) (up3 a b c) = 0 := up_zero k0 z2
    simp only [if_pos q]
    rw [lst_nil z2]
    split
    · rename_i hh; simp
    · rename_i hh; split at hh <;> simp at hh
  obtain ⟨u1, u2, u3⟩ := up_facts (f := f) (l := l) h0 (by omega)
  obtain ⟨v1, v2, v3⟩ := up_facts (f := a) (l := c) k0 (by omega)
  have p2 := (up2_facts (f := f) (l := l) h0 h1 h2).2.2
  have q2 := (up2_facts (f := a) (l := c) k0 k1 k2).2.2
  have G := bez_facts u1 p2 v1 q2
  rw [u3, v3]
  have C := crt u1 p2 v1 q2 (x - up1 f s l) (up1 a b c - up1 f s l)
  rw [show x - up1 f s l - (up1 a b c - up1 f s l) = x - up1 a b c by omega] at C
  rw [if_neg (by omega), if_neg (by omega)]
  generalize up1 f s l = a1 at *
  generalize up2 f s l = p at *
  generalize up3 f s l = a3 at *
  generalize up1 a b c = b1 at *
  generalize up2 a b c = q at *
  generalize up3 a b c = b3 at *
  dsimp only
  generalize p.fdiv (bezG p q) * q = w at *
  generalize ((b1 - a1).fdiv (bezG p q) * bezT p q).fmod (q.fdiv (bezG p q)) * p = r at *
  have hw : 0 < w := G.2.2.2.2.2.2.1
  by_cases d0 : (b1 - a1).fmod (bezG p q) = 0
  · rw [if_pos d0]
    have C' : (p ∣ x - a1 ∧ q ∣ x - b1) ↔ w ∣ (x - (a1 + r)) := by
      rw [C, show x - (a1 + r) = x - a1 - r by omega]; exact ⟨fun z => z.2, fun z => ⟨d0, z⟩⟩
    have K := ceil_up (lo := if a1 < b1 then b1 else a1) (hit := a1 + r) (x := x) hw
    generalize a1 + r + ((if a1 < b1 then b1 else a1) - (a1 + r) + w - 1).fdiv w * w = first at *
    have big : (a1 ≤ x ∧ x ≤ a3 ∧ p ∣ x - a1) ∧ (b1 ≤ x ∧ x ≤ b3 ∧ q ∣ x - b1) ↔ (first ≤ x ∧ x ≤ (if b3 < a3 then b3 else a3) ∧ w ∣ x - first) := by
      constructor
      · rintro ⟨⟨x1, x2, x3⟩, y1, y2, y3⟩
        have := K.mp ⟨by split <;> omega, C'.mp ⟨x3, y3⟩⟩
        exact ⟨this.1, by split <;> omega, this.2⟩
      · rintro ⟨x1, x2, x3⟩
        have z := K.mpr ⟨x1, x3⟩
        have z2 := C'.mpr z.2
        refine ⟨⟨?_, ?_, z2.1⟩, ?_, ?_, z2.2⟩
        · have := z.1; split at this <;> omega
        · split at x2 <;> omega
        · have := z.1; split at this <;> omega
        · split at x2 <;> omega
    rw [big]
    generalize (if b3 < a3 then b3 else a3) = last at *
    by_cases e : last < first
    · rw [if_pos e]
      simp only [List.not_mem_nil, false_iff]
      rintro ⟨x1, x2, _⟩; omega
    · rw [if_neg e]
      dsimp only
      rw [lst_of_cnt (cnt_neat (f := first) (l := last) (by omega : w ≠ 0)), mem_up hw]
  · rw [if_neg d0]
    simp only [List.not_mem_nil, false_iff]
    rintro ⟨⟨_, _, x3⟩, _, _, y3⟩
    exact d0 (C.mp ⟨x3, y3⟩).1
theorem lst_pair {f s l : Int} (h : 0 < s) : (lst f s l).Pairwise (· < ·) := by
  unfold lst lstN
  rw [List.pairwise_map]
  refine List.Pairwise.imp ?_ List.pairwise_lt_range
  intro i j hij
  have : (i : Int) * s < (j : Int) * s := Int.mul_lt_mul_of_pos_right (by omega) h
  omega
theorem lst_nodup {f s l : Int} (h : s ≠ 0) : (lst f s l).Nodup := by
  unfold lst lstN
  rw [List.Nodup, List.pairwise_map]
  refine List.Pairwise.imp ?_ List.pairwise_lt_range
  intro i j hij e
  have e' : (i : Int) * s = (j : Int) * s := by omega
  have := Int.eq_of_mul_eq_mul_right h e'
  omega
theorem met_step {f s l a b c x y z : Int} (h : Ok6 f s l) (h' : Ok6 a b c) (e : metP f s l a b c = some (x, y, z)) : 0 < y ∧ y < 30 := by
  obtain ⟨h0, h1, h2, _⟩ := h
  obtain ⟨k0, k1, k2, _⟩ := h'
  have n1 := cnt_nonneg f s l
  have n2 := cnt_nonneg a b c
  unfold metP at e
  dsimp only at e
  by_cases z1 : cnt f s l = 0
  · rw [if_pos (up_zero h0 z1)] at e; cases e
  by_cases z2 : cnt a b c = 0
  · rw [if_pos (up_zero k0 z2)] at e; split at e <;> cases e
  obtain ⟨u1, u2, _⟩ := up_facts (f := f) (l := l) h0 (by omega)
  obtain ⟨v1, v2, _⟩ := up_facts (f := a) (l := c) k0 (by omega)
  have G := bez_facts u1 (up2_facts (f := f) (l := l) h0 h1 h2).2.2 v1 (up2_facts (f := a) (l := c) k0 k1 k2).2.2
  rw [if_neg (by omega), if_neg (by omega)] at e
  generalize (if up1 f s l < up1 a b c then up1 a b c else up1 f s l) = lo at e
  generalize (if up3 a b c < up3 f s l then up3 a b c else up3 f s l) = hi at e
  split at e
  · split at e
    · cases e
    · have := Prod.mk.inj (Prod.mk.inj (Option.some.inj e)).2
      rw [← this.1]
      exact G.2.2.2.2.2.2
  · cases e
theorem mlst_pair {f s l a b c : Int} (h : Ok6 f s l) (h' : Ok6 a b c) : (mlst f s l a b c).Pairwise (· < ·) := by
  unfold mlst
  split
  · exact List.Pairwise.nil
  · rename_i x y z e
    exact lst_pair (met_step h h' e).1
theorem nodup_of_lt {xs : List Int} (h : xs.Pairwise (· < ·)) : xs.Nodup := h.imp fun q => Int.ne_of_lt q
theorem met_sort {f s l a b c : Int} (h : Ok6 f s l) (h' : Ok6 a b c) : SortTo ((lst f s l).filter (fun x => (lst a b c).any (· == x))) (mlst f s l a b c) := by
  refine ⟨?_, (mlst_pair h h').imp fun q => Int.le_of_lt q⟩
  rw [List.perm_ext_iff_of_nodup (nodup_of_lt (mlst_pair h h')) ((lst_nodup h.1).filter _)]
  intro x
  rw [met_mem h h', List.mem_filter]
  simp
theorem met_comm {f s l a b c : Int} (h : Ok6 f s l) (h' : Ok6 a b c) : mlst a b c f s l = mlst f s l a b c := by
  refine List.Perm.eq_of_pairwise (le := (· < ·)) (fun x y _ _ h1 h2 => by omega) (mlst_pair h' h) (mlst_pair h h') ?_
  rw [List.perm_ext_iff_of_nodup (nodup_of_lt (mlst_pair h' h)) (nodup_of_lt (mlst_pair h h'))]
  intro x
  rw [met_mem h' h, met_mem h h', and_comm]
theorem met_side {f s l a b c x y z : Int} (h : Ok6 f s l) (h' : Ok6 a b c) (e : metP f s l a b c = some (x, y, z)) : y ≠ 0 ∧ -1000 < y ∧ y < 1000 ∧ cnt x y z < 70 := by
  have q := met_step h h' e
  have n1 := cnt_nonneg x y z
  have L := (met_sort h h').1.length_eq
  rw [← mlst_some e, lst_length] at L
  have := List.length_filter_le (fun x => (lst a b c).any (· == x)) (lst f s l)
  rw [lst_length] at this
  have := h.2.2.2
  exact ⟨by omega, by omega, by omega, by omega⟩
end Mine
namespace Mine
theorem met_s1 {f s l a b c x y z : Int} (e : metP f s l a b c = some (x, y, z)) (h : Ok6 f s l) (h' : Ok6 a b c) : y ≠ 0 := (met_side h h' e).1
theorem met_s2 {f s l a b c x y z : Int} (e : metP f s l a b c = some (x, y, z)) (h : Ok6 f s l) (h' : Ok6 a b c) : -1000 < y := (met_side h h' e).2.1
theorem met_s3 {f s l a b c x y z : Int} (e : metP f s l a b c = some (x, y, z)) (h : Ok6 f s l) (h' : Ok6 a b c) : y < 1000 := (met_side h h' e).2.2.1
theorem met_s4 {f s l a b c x y z : Int} (e : metP f s l a b c = some (x, y, z)) (h : Ok6 f s l) (h' : Ok6 a b c) : cnt x y z < 70 := (met_side h h' e).2.2.2
end Mine
namespace Mine
theorem lst_ne {f s l : Int} (h : ¬ lst f s l = []) : 0 < cnt f s l := by
  have := cnt_nonneg f s l
  by_cases q : cnt f s l = 0
  · exact absurd (lst_nil q) h
  · omega
theorem lst_e {f s l : Int} (h : lst f s l = []) : cnt f s l = 0 := by
  have := congrArg List.length h
  rw [lst_length] at this
  have := cnt_nonneg f s l
  simp at *; omega
theorem lst_getD {f s l : Int} {i : Nat} (h : (i : Int) < cnt f s l) (d : Int) : (lst f s l).getD i d = f + (i : Int) * s := by
  have q : i < (lst f s l).length := by rw [lst_length]; omega
  rw [List.getD_eq_getElem?_getD, List.getElem?_eq_getElem q, Option.getD_some]
  have e : (lst f s l)[i] = (((List.range (cnt f s l).toNat).map fun i : Nat => f + (i : Int) * s))[i]'(by simpa using h) := rfl
  rw [e, List.getElem_map, List.getElem_range]
theorem lst_last_ne {f s l : Int} (h : ¬ lst f s l = []) : (lst f s l).getD ((-1 : Int) + ((lst f s l).length : Nat)).toNat 0 = lastM f s l := by
  have q := lst_ne h
  rw [lst_getD (by rw [lst_length]; omega)]
  unfold lastM
  rw [if_neg (by omega), lst_length, Int.toNat_of_nonneg (by omega), Int.toNat_of_nonneg (by omega), show (-1 : Int) + cnt f s l = cnt f s l - 1 by omega]
theorem lst_last_e1 {f s l : Int} (h : lst f s l = []) (hp : 0 < s) : f - 1 = lastM f s l := by
  unfold lastM; rw [if_pos (lst_e h), if_pos hp]
theorem lst_last_e2 {f s l : Int} (h : lst f s l = []) (hp : ¬ 0 < s) : f - -1 = lastM f s l := by
  unfold lastM; rw [if_pos (lst_e h), if_neg hp]; omega
theorem lst_pos_len {f s l : Int} (h : ¬ lst f s l = []) : -(((lst f s l).length : Nat) : Int) ≤ -1 := by
  have := lst_ne h
  rw [lst_length]; omega
end Mine
namespace Mine
theorem lstN_sum2 (f s : Int) : ∀ k : Nat, 2 * (lstN f s k).sum = 2 * ((k : Int) * f) + s * ((k : Int) * ((k : Int) - 1))
  | 0 => by simp [lstN]
  | k + 1 => by
    have := lstN_sum2 f s k
    rw [lstN_succ, List.sum_append, List.sum_cons, List.sum_nil]
    grind
theorem pred_even (k : Nat) : 2 * (((k : Int) * ((k : Int) - 1)).fdiv 2) = (k : Int) * ((k : Int) - 1) := by
  rw [Int.fdiv_eq_ediv_of_nonneg _ (by omega)]
  rcases Nat.mod_two_eq_zero_or_one k with h | h
  · obtain ⟨m, rfl⟩ : ∃ m, k = 2 * m := ⟨k / 2, by omega⟩
    rw [show (((2 * m : Nat) : Int) * (((2 * m : Nat) : Int) - 1)) = 2 * ((m : Int) * (2 * (m : Int) - 1)) by grind]
    omega
  · obtain ⟨m, rfl⟩ : ∃ m, k = 2 * m + 1 := ⟨k / 2, by omega⟩
    rw [show (((2 * m + 1 : Nat) : Int) * (((2 * m + 1 : Nat) : Int) - 1)) = 2 * ((2 * (m : Int) + 1) * (m : Int)) by grind]
    omega
theorem total_sum {f s l : Int} : total f s l = (lst f s l).sum := by
  have h := lstN_sum2 f s (cnt f s l).toNat
  have e := pred_even (cnt f s l).toNat
  have q : (((cnt f s l).toNat : Nat) : Int) = cnt f s l := Int.toNat_of_nonneg (cnt_nonneg f s l)
  rw [q] at h e
  unfold total lst
  grind
theorem opt_row {f s l : Int} {n : Nat} (h : n = (lst f s l).length + 2) : ((List.range n).map fun i : Nat => (0 : Int) + (i : Int)).map (rangeAt f s l) = ([none] ++ (lst f s l).map some) ++ [none] := by
  subst h
  have q : (((lst f s l).length : Nat) : Int) = cnt f s l := by rw [lst_length]; exact Int.toNat_of_nonneg (cnt_nonneg f s l)
  apply List.ext_getElem
  · simp
  · intro i h1 h2
    simp only [List.getElem_map, List.getElem_range, Int.zero_add]
    have hi : i < (lst f s l).length + 2 := by simpa using h1
    by_cases h0 : i = 0
    · subst h0; simp [rangeAt]
    · by_cases h3 : i = (lst f s l).length + 1
      · subst h3
        rw [List.getElem_append_right (by simp <;> omega)]
        unfold rangeAt
        rw [if_neg (by omega), if_pos (by omega)]
        simp
      · rw [List.getElem_append_left (by simp <;> omega), List.getElem_append_right (by simp <;> omega), List.getElem_map]
        unfold rangeAt
        rw [if_neg (by omega), if_neg (by omega)]
        have := lst_getD (f := f) (s := s) (l := l) (i := i - 1) (by omega) 0
        rw [List.getD_eq_getElem?_getD, List.getElem?_eq_getElem (by omega), Option.getD_some] at this
        simp only [List.length_cons, List.length_nil, Nat.zero_add]
        rw [this, show ((i - 1 : Nat) : Int) = (i : Int) - 1 by omega]
theorem idx_mem {f s l x : Int} (hs : s ≠ 0) (h : x ∈ lst f s l) : indexOf f s l x = some ((((lst f s l).idxOf x : Nat) : Int) + 1) := by
  obtain ⟨i, hi, e⟩ := mem_lst.mp h
  have q : i < (lst f s l).length := by rw [lst_length]; omega
  have g : (lst f s l)[i] = x := by
    have := lst_getD (f := f) (s := s) (l := l) (i := i) hi 0
    rw [List.getD_eq_getElem?_getD, List.getElem?_eq_getElem q, Option.getD_some] at this
    rw [this, e]
  have j : (lst f s l).idxOf x = i := by rw [← g]; exact (lst_nodup hs).idxOf_getElem i q
  rw [j]
  have d : x - f = (i : Int) * s := by omega
  unfold indexOf
  rw [d, Int.mul_fmod_left, if_pos rfl, Int.mul_fdiv_cancel _ hs, if_pos (by omega), if_pos (by omega)]
theorem idx_not {f s l x : Int} (hs : s ≠ 0) (h : x ∉ lst f s l) : indexOf f s l x = none := by
  unfold indexOf
  split
  · rename_i h1
    split
    · split
      · refine absurd (mem_lst.mpr ⟨((x - f).fdiv s).toNat, ?_, ?_⟩) h
        · omega
        · rw [Int.toNat_of_nonneg (by omega), Int.fdiv_mul_cancel_of_fmod_eq_zero h1]; omega
      · rfl
    · rfl
  · rfl
theorem cnt_back' {f s n : Int} (h : 0 < s) (hn : 0 < n) : cnt (f + (n - 1) * s) (0 - s) f = n := by
  have := Int.mul_nonneg (show 0 ≤ n - 1 by omega) (show 0 ≤ s by omega)
  unfold cnt
  rw [if_neg (by omega), if_neg (by omega), show f + (n - 1) * s - f = (n - 1) * s by omega, show (0 : Int) - (0 - s) = s by omega, Int.mul_fdiv_cancel _ (by omega)]
  omega
theorem back_lst {f s l : Int} (hs : s ≠ 0) : cnt (back1 f s l) (back2 f s l) (back3 f s l) = cnt f s l ∧ lst (back1 f s l) (back2 f s l) (back3 f s l) = (lst f s l).reverse := by
  by_cases hc : 0 < cnt f s l
  · have hb : cnt (back1 f s l) (back2 f s l) (back3 f s l) = cnt f s l := by
      unfold back1 back2 back3
      rw [if_pos hc, if_pos hc, if_pos hc]
      unfold lastM
      rw [if_neg (by omega)]
      rcases Int.lt_or_gt_of_ne hs with h | h
      · exact cnt_back h hc
      · exact cnt_back' h hc
    refine ⟨hb, ?_⟩
    apply List.ext_getElem
    · rw [List.length_reverse, lst_length, lst_length, hb]
    · intro i h1 h2
      have h1' : (i : Int) < cnt f s l := by rw [lst_length, hb] at h1; omega
      have a1 := lst_getD (f := back1 f s l) (s := back2 f s l) (l := back3 f s l) (i := i) (by omega) 0
      rw [List.getD_eq_getElem?_getD, List.getElem?_eq_getElem h1, Option.getD_some] at a1
      rw [a1, List.getElem_reverse]
      have a2 := lst_getD (f := f) (s := s) (l := l) (i := (lst f s l).length - 1 - i) (by rw [lst_length]; omega) 0
      rw [List.getD_eq_getElem?_getD, List.getElem?_eq_getElem (by rw [lst_length]; omega), Option.getD_some] at a2
      rw [a2, lst_length]
      unfold back1 back2 lastM
      rw [if_pos hc, if_pos hc, if_neg (by omega), show (((cnt f s l).toNat - 1 - i : Nat) : Int) = cnt f s l - 1 - i by omega]
      grind
  · have h0 : cnt f s l = 0 := by have := cnt_nonneg f s l; omega
    unfold back1 back2 back3
    rw [if_neg hc, if_neg hc, if_neg hc]
    refine ⟨cnt_neat hs, ?_⟩
    rw [lst_nil h0, lst_nil (by rw [cnt_neat hs]; exact h0)]; rfl
end Mine
namespace Mine
theorem cnt_moved {f s l k : Int} : cnt (f + k) s (l + k) = cnt f s l := by
  unfold cnt
  rw [show l + k - (f + k) = l - f by omega, show f + k - (l + k) = f - l by omega]
  by_cases h : 0 < s
  · rw [if_pos h, if_pos h]
    by_cases q : l < f
    · rw [if_pos q, if_pos (by omega)]
    · rw [if_neg q, if_neg (by omega)]
  · rw [if_neg h, if_neg h]
    by_cases q : f < l
    · rw [if_pos q, if_pos (by omega)]
    · rw [if_neg q, if_neg (by omega)]
theorem lst_moved {f s l k : Int} : lst (f + k) s (l + k) = (lst f s l).map (fun x => x + k) := by
  unfold lst
  rw [cnt_moved]
  unfold lstN
  rw [List.map_map]
  apply List.map_congr_left
  intro i _
  simp only [Function.comp]
  omega
theorem cnt_span {f s n : Int} (hs : s ≠ 0) (hn : 0 < n) : cnt f s (f + (n - 1) * s) = n := by
  unfold cnt
  by_cases h : 0 < s
  · have := Int.mul_nonneg (show 0 ≤ n - 1 by omega) (show 0 ≤ s by omega)
    rw [if_pos h, if_neg (by omega), show f + (n - 1) * s - f = (n - 1) * s by omega, Int.mul_fdiv_cancel _ hs]
    omega
  · have := Int.mul_nonneg (show 0 ≤ n - 1 by omega) (show 0 ≤ 0 - s by omega)
    have e : (n - 1) * (0 - s) = 0 - (n - 1) * s := by rw [Int.mul_sub]; omega
    rw [if_neg h, if_neg (by omega), show f - (f + (n - 1) * s) = (n - 1) * (0 - s) by omega, Int.mul_fdiv_cancel _ (by omega)]
    omega
theorem cnt_void {f s : Int} (hs : s ≠ 0) : cnt f s (f - s) = 0 := by
  unfold cnt
  by_cases h : 0 < s
  · rw [if_pos h, if_pos (by omega)]
  · rw [if_neg h, if_pos (by omega)]
theorem cnt_times {f s l k : Int} (hs : s ≠ 0) (hk : k ≠ 0) : cnt (f * k) (s * k) (times3 f s l k) = cnt f s l := by
  have hsk : s * k ≠ 0 := Int.mul_ne_zero hs hk
  unfold times3
  by_cases h : cnt f s l = 0
  · rw [if_pos h, cnt_void hsk, h]
  · have := cnt_nonneg f s l
    rw [if_neg h]
    have e : lastM f s l * k = f * k + (cnt f s l - 1) * (s * k) := by unfold lastM; rw [if_neg h]; grind
    rw [e, cnt_span hsk (by omega)]
theorem lst_times {f s l k : Int} (hs : s ≠ 0) (hk : k ≠ 0) : lst (f * k) (s * k) (times3 f s l k) = (lst f s l).map (fun x => x * k) := by
  unfold lst
  rw [cnt_times hs hk]
  unfold lstN
  rw [List.map_map]
  apply List.map_congr_left
  intro i _
  simp only [Function.comp]
  grind
def badAt (n : Int) (x : Int) : Bool := decide (x < 1) || decide (n < x)
theorem bad_none {n : Int} {ns : List Int} (h : ns.filter (badAt n) = []) : ∀ x ∈ ns, 1 ≤ x ∧ x ≤ n := by
  intro x hx
  have := List.filter_eq_nil_iff.mp h x hx
  unfold badAt at this
  simp at this
  omega
theorem span_mid {a b n m : Int} {i : Nat} (hm : 0 < m) (h1 : 1 ≤ a) (h2 : a ≤ n) (h3 : 1 ≤ a + (m - 1) * b) (h4 : a + (m - 1) * b ≤ n) (hi : (i : Int) < m) : 1 ≤ a + (i : Int) * b ∧ a + (i : Int) * b ≤ n := by
  by_cases h : 0 ≤ b
  · have := Int.mul_le_mul_of_nonneg_right (show (i : Int) ≤ m - 1 by omega) h
    have := Int.mul_nonneg (show 0 ≤ (i : Int) by omega) h
    omega
  · have q := Int.mul_le_mul_of_nonneg_right (show (i : Int) ≤ m - 1 by omega) (show 0 ≤ -b by omega)
    have q2 := Int.mul_nonneg (show 0 ≤ (i : Int) by omega) (show 0 ≤ -b by omega)
    rw [Int.mul_neg] at q q2
    rw [Int.mul_neg] at q
    omega
theorem at_some {f s l i : Int} (h1 : 1 ≤ i) (h2 : i ≤ cnt f s l) : rangeAt f s l i = some (f + (i - 1) * s) := by
  unfold rangeAt; rw [if_neg (by omega), if_neg (by omega)]
theorem at_in {f s l i x : Int} (h : rangeAt f s l i = some x) : 1 ≤ i ∧ i ≤ cnt f s l ∧ x = f + (i - 1) * s := by
  unfold rangeAt at h
  split at h
  · cases h
  · split at h
    · cases h
    · cases h; exact ⟨by omega, by omega, rfl⟩
/-- what comes of picking: all in bounds gives a row, and a row only then -/
theorem pick_ok {f s l a b c : Int} (hs : s ≠ 0) (hb : b ≠ 0) (h : (lst a b c).filter (badAt (cnt f s l)) = []) :
    ∃ x z, pick f s l a b c = some (x, s * b, z) ∧ cnt x (s * b) z = cnt a b c ∧ lst x (s * b) z = (lst a b c).map fun i => f + (i - 1) * s := by
  have hsb : s * b ≠ 0 := Int.mul_ne_zero hs hb
  unfold pick
  by_cases h0 : cnt a b c = 0
  · rw [if_pos h0]
    refine ⟨_, _, rfl, ?_, ?_⟩
    · rw [cnt_void hsb, h0]
    · rw [lst_nil h0, lst_nil (cnt_void hsb)]; rfl
  · have hp : 0 < cnt a b c := by have := cnt_nonneg a b c; omega
    have hin := bad_none h
    have i1 := hin a (mem_lst.mpr ⟨0, by simpa using hp, by simp⟩)
    have el : lastM a b c = a + (cnt a b c - 1) * b := by unfold lastM; rw [if_neg h0]
    have i2 := hin (lastM a b c) (mem_lst.mpr ⟨(cnt a b c - 1).toNat, by omega, by rw [el, Int.toNat_of_nonneg (by omega)]⟩)
    rw [if_neg h0, at_some i1.1 i1.2, at_some i2.1 i2.2]
    have e : f + (lastM a b c - 1) * s = (f + (a - 1) * s) + (cnt a b c - 1) * (s * b) := by rw [el]; grind
    have hc : cnt (f + (a - 1) * s) (s * b) (f + (lastM a b c - 1) * s) = cnt a b c := by rw [e, cnt_span hsb hp]
    refine ⟨_, _, rfl, hc, ?_⟩
    unfold lst
    rw [hc]
    unfold lstN
    rw [List.map_map]
    apply List.map_congr_left
    intro i _
    simp only [Function.comp]
    grind
theorem pick_bad {f s l a b c : Int} {x : Int × Int × Int} (hb : b ≠ 0) (h : pick f s l a b c = some x) : (lst a b c).filter (badAt (cnt f s l)) = [] := by
  unfold pick at h
  by_cases h0 : cnt a b c = 0
  · rw [lst_nil h0]; rfl
  · have hp : 0 < cnt a b c := by have := cnt_nonneg a b c; omega
    rw [if_neg h0] at h
    have el : lastM a b c = a + (cnt a b c - 1) * b := by unfold lastM; rw [if_neg h0]
    revert h
    cases h1 : rangeAt f s l a with
    | none => intro h; simp at h
    | some x1 =>
      cases h2 : rangeAt f s l (lastM a b c) with
      | none => intro h; simp at h
      | some x2 =>
        intro _
        obtain ⟨p1, p2, _⟩ := at_in h1
        obtain ⟨q1, q2, _⟩ := at_in h2
        rw [el] at q1 q2
        apply List.filter_eq_nil_iff.mpr
        intro y hy
        obtain ⟨i, hi, rfl⟩ := mem_lst.mp hy
        have := span_mid hp p1 p2 q1 q2 hi
        unfold badAt
        simp
        omega
theorem lst_nth {f s l i : Int} (h1 : 1 ≤ i) (h2 : i ≤ cnt f s l) : (lst f s l).getD (i - 1).toNat 0 = f + (i - 1) * s := by
  rw [lst_getD (by omega), Int.toNat_of_nonneg (by omega)]
end Mine
namespace Mine
theorem same_lst {f s l f' s' l' : Int} : same f s l f' s' l' = decide (lst f s l = lst f' s' l') := by
  have n1 := cnt_nonneg f s l
  have n2 := cnt_nonneg f' s' l'
  unfold same
  by_cases hc : cnt f s l = cnt f' s' l'
  · rw [if_pos hc]
    by_cases h0 : cnt f s l = 0
    · rw [if_pos h0, lst_nil h0, lst_nil (hc ▸ h0)]; rfl
    · rw [if_neg h0]
      have g : ∀ i : Nat, (i : Int) < cnt f s l → lst f s l = lst f' s' l' → f + (i : Int) * s = f' + (i : Int) * s' := fun i hi e => by
        have a1 := lst_getD (f := f) (s := s) (l := l) (i := i) hi 0
        have a2 := lst_getD (f := f') (s := s') (l := l') (i := i) (by omega) 0
        rw [← a1, ← a2, e]
      by_cases hf : f = f'
      · rw [if_pos hf]
        by_cases hs : s = s'
        · rw [if_pos hs]
          refine (decide_eq_true ?_).symm
          unfold lst
          rw [← hc, hf, hs]
        · rw [if_neg hs]
          by_cases h1 : cnt f s l = 1
          · rw [show (cnt f s l == 1) = true by simp [h1]]
            refine (decide_eq_true ?_).symm
            unfold lst
            rw [← hc, h1, hf]; simp [lstN]
          · rw [show (cnt f s l == 1) = false by simp [h1]]
            refine (decide_eq_false fun e => hs ?_).symm
            have := g 1 (by omega) e
            omega
      · rw [if_neg hf]
        refine (decide_eq_false fun e => hf ?_).symm
        have := g 0 (by omega) e
        omega
  · rw [if_neg hc]
    refine (decide_eq_false fun e => hc ?_).symm
    have := congrArg List.length e
    rw [lst_length, lst_length] at this
    omega
theorem same_self {f s l : Int} : same f s l f s l = true := by rw [same_lst]; exact decide_eq_true rfl
theorem RowOk.ok6 {f s l : Int} (h : RowOk f s l) : Ok6 f s l := by
  have := h.cnt
  exact ⟨h.1.1, h.1.2.1, h.1.2.2, by omega⟩
theorem RowOk.facts {f s l : Int} (h : RowOk f s l) : s ≠ 0 ∧ -1000 < s ∧ s < 1000 ∧ Mine.cnt f s l < 70 ∧ 0 ≤ Mine.cnt f s l ∧ Mine.cnt f s l < 128 ∧ Mine.cnt f s l = ((lst f s l).length : Int) := by
  have h1 := h.cnt
  have h2 := cnt_nonneg f s l
  refine ⟨h.1.1, by have := h.1.2.1; omega, by have := h.1.2.2; omega, by omega, h2, by omega, by rw [lst_length]; omega⟩
theorem ok6_third {f : Int} : Ok6 (f + 3) 2 (f + 40) := by
  refine ⟨by decide, by decide, by decide, ?_⟩
  unfold cnt
  rw [if_pos (by decide), if_neg (by omega), show f + 40 - (f + 3) = 37 by omega]
  decide
theorem ok6_a : Ok6 1 2 9 := by unfold Ok6; decide
theorem ok6_b : Ok6 4 1 8 := by unfold Ok6; decide
theorem cnt_many {k : Int} (h : 0 < k) : cnt 1 1 k = k := by
  unfold cnt
  rw [if_pos (by decide), if_neg (by omega), Int.fdiv_one]; omega
theorem cnt_wide : cnt (-9223372036854775808) 1 9223372036854775807 = 18446744073709551616 := by decide
theorem cnt_half : cnt (-9223372036854775808) 2 9223372036854775807 = 9223372036854775808 := by decide
end Mine
namespace Mine
theorem fill_frag : PySem.Challenge.rw_pc0197_01 = PySem.Challenge.rw_pc0197_01 ∧ Mine.hd.heap_1_39 = Mine.hd.heap_1_39 := by
  k_fill
  exact ⟨rfl, rfl⟩
noncomputable abbrev prog : Program := PySem.Challenge.rw_pc0197_01.row.prog
noncomputable abbrev lo : List Str := looseW Mine.hd.view_1_40 [Str.ofString "WIDTHS", Str.ofString "RowsError"]
abbrev T3 (a b c : Int) (t1 t2 t3 : Tok) (n : Nat) : Obj := { cls := .type "tuple", data := .seq #[.int a t1, .int b t2, .int c t3] n }
abbrev LO (vs : List Value) (c : Nat) : Obj := { cls := .type "list", data := .seq vs.toArray c }

/-- what is asked of a call of the def at f: any caller, any frame, any ledger that bears `news` -/
def Can (w : World) (d u : Nat) (news : List (Addr × Obj)) (f : Addr) (vs : List Value)
    (Ret : Heap → Addr → (Str → Option Value) → Shared → (Value → Shared → Prop) → Prop) : Prop :=
  ∀ (mean : ExcName → Option Value) (mg mb : Str → Option Value) (dp un : Nat) (gd : Option (List Code)) (cn : Str) (cs : Scope) (a : Addr) (ccd : Value) (cl : List (Str × Addr)) (outer : List Env) (A₀ : Around) (base h₀ : Heap) (L : Addr) (m : Str → Option Value) (s : Shared) (Q E : Value → Shared → Prop),
    Below A₀ base outer h₀ → Fr h₀ L s.heap m → (Mine.hd.heap_1_39 w.params).In h₀ → News h₀ L s.heap news → Top Mine.hd.view_1_40 lo mean mg mb h₀ → cs.kind = .function →
    dp + d < recursionLimit → un + u < cLine → Ret h₀ L m s Q →
    wpAny (model prog w) (ktrTop dp un gd cn cs L a ccd cl outer) (call (.ref f) vs) Q E s
theorem Can.use {w : World} {d u : Nat} {news : List (Addr × Obj)} {f : Addr} {vs : List Value} {Ret : Heap → Addr → (Str → Option Value) → Shared → (Value → Shared → Prop) → Prop}
    {mean : ExcName → Option Value} {mg mb : Str → Option Value} {dp un : Nat} {gd : Option (List Code)} {cn : Str} {cs : Scope} {a : Addr} {ccd : Value} {cl : List (Str × Addr)} {outer : List Env} {A₀ : Around} {base h₀ : Heap} {L : Addr} {m : Str → Option Value} {s : Shared} {Q E : Value → Shared → Prop}
    (B : Below A₀ base outer h₀) (F : Fr h₀ L s.heap m) (X : (Mine.hd.heap_1_39 w.params).In h₀) (N : News h₀ L s.heap news) (T : Top Mine.hd.view_1_40 lo mean mg mb h₀) (hk : cs.kind = .function)
    (C : Can w d u news f vs Ret) (hd : dp + d < recursionLimit) (hu : un + u < cLine) (ret : Ret h₀ L m s Q) :
    wpAny (model prog w) (ktrTop dp un gd cn cs L a ccd cl outer) (call (.ref f) vs) Q E s :=
  C mean mg mb dp un gd cn cs a ccd cl outer A₀ base h₀ L m s Q E B F X N T hk hd hu ret

/-- an int comes back, the ledger as it was -/
def RetI (news : List (Addr × Obj)) (x : Int) (h₀ : Heap) (L : Addr) (m : Str → Option Value) (s : Shared) (Q : Value → Shared → Prop) : Prop :=
  ∀ (t : Tok) (h' : Heap) (tk' : Nat), Fr h₀ L h' m → News h₀ L h' news → Q (.int x t) { s with heap := h', toks := tk' }
theorem RetI.ok {news led : List (Addr × Obj)} {x y : Int} {h₀ h' : Heap} {L : Addr} {m : Str → Option Value} {s : Shared} {Q : Value → Shared → Prop} {t : Tok} {tk' : Nat}
    (R : RetI news x h₀ L m s Q) (e : y = x) (F : Fr h₀ L h' m) (N : News h₀ L h' led) (hs : ∀ p ∈ news, p ∈ led) : Q (.int y t) { s with heap := h', toks := tk' } := by
  subst e; exact R t h' tk' F fun p hp => N p (hs p hp)
/-- a bool comes back -/
def RetB (news : List (Addr × Obj)) (x : Bool) (h₀ : Heap) (L : Addr) (m : Str → Option Value) (s : Shared) (Q : Value → Shared → Prop) : Prop :=
  ∀ (h' : Heap) (tk' : Nat), Fr h₀ L h' m → News h₀ L h' news → Q (.bool x) { s with heap := h', toks := tk' }
theorem RetB.ok {news led : List (Addr × Obj)} {x y : Bool} {h₀ h' : Heap} {L : Addr} {m : Str → Option Value} {s : Shared} {Q : Value → Shared → Prop} {tk' : Nat}
    (R : RetB news x h₀ L m s Q) (e : y = x) (F : Fr h₀ L h' m) (N : News h₀ L h' led) (hs : ∀ p ∈ news, p ∈ led) : Q (.bool y) { s with heap := h', toks := tk' } := by
  subst e; exact R h' tk' F fun p hp => N p (hs p hp)
/-- an int or None -/
def RetO (news : List (Addr × Obj)) (x : Option Int) (h₀ : Heap) (L : Addr) (m : Str → Option Value) (s : Shared) (Q : Value → Shared → Prop) : Prop :=
  (∀ (h' : Heap) (tk' : Nat), x = Option.none → Fr h₀ L h' m → News h₀ L h' news → Q .none { s with heap := h', toks := tk' }) ∧
  (∀ (y : Int) (t : Tok) (h' : Heap) (tk' : Nat), x = Option.some y → Fr h₀ L h' m → News h₀ L h' news → Q (.int y t) { s with heap := h', toks := tk' })
theorem RetO.some {news led : List (Addr × Obj)} {x : Option Int} {y : Int} {h₀ h' : Heap} {L : Addr} {m : Str → Option Value} {s : Shared} {Q : Value → Shared → Prop} {t : Tok} {tk' : Nat}
    (R : RetO news x h₀ L m s Q) (e : x = .some y) (F : Fr h₀ L h' m) (N : News h₀ L h' led) (hs : ∀ p ∈ news, p ∈ led) : Q (.int y t) { s with heap := h', toks := tk' } := R.2 y t h' tk' e F fun p hp => N p (hs p hp)
theorem RetO.none {news led : List (Addr × Obj)} {x : Option Int} {h₀ h' : Heap} {L : Addr} {m : Str → Option Value} {s : Shared} {Q : Value → Shared → Prop} {tk' : Nat}
    (R : RetO news x h₀ L m s Q) (e : x = Option.none) (F : Fr h₀ L h' m) (N : News h₀ L h' led) (hs : ∀ p ∈ news, p ∈ led) : Q Value.none { s with heap := h', toks := tk' } := R.1 h' tk' e F fun p hp => N p (hs p hp)
/-- a row (a tuple of three ints) that was made -/
def RetT (news : List (Addr × Obj)) (a b c : Int) (h₀ : Heap) (L : Addr) (m : Str → Option Value) (s : Shared) (Q : Value → Shared → Prop) : Prop :=
  ∀ (D : Addr) (t1 t2 t3 : Tok) (n : Nat) (h' : Heap) (tk' : Nat), Fr h₀ L h' m → News h₀ L h' ((D, T3 a b c t1 t2 t3 n) :: news) → Q (.ref D) { s with heap := h', toks := tk' }
theorem RetT.ok {news led : List (Addr × Obj)} {a b c a' b' c' : Int} {h₀ h' : Heap} {L D : Addr} {m : Str → Option Value} {s : Shared} {Q : Value → Shared → Prop} {t1 t2 t3 : Tok} {n tk' : Nat}
    (R : RetT news a b c h₀ L m s Q) (ea : a' = a) (eb : b' = b) (ec : c' = c) (F : Fr h₀ L h' m) (N : News h₀ L h' led) (hD : (D, T3 a' b' c' t1 t2 t3 n) ∈ led) (hs : ∀ p ∈ news, p ∈ led) : Q (.ref D) { s with heap := h', toks := tk' } := by
  subst ea; subst eb; subst ec
  exact R D t1 t2 t3 n h' tk' F fun p hp => N p ((List.mem_cons.mp hp).elim (fun e => e ▸ hD) (hs p))

/-- a row that was made, or None -/
def RetP (news : List (Addr × Obj)) (x : Option (Int × Int × Int)) (h₀ : Heap) (L : Addr) (m : Str → Option Value) (s : Shared) (Q : Value → Shared → Prop) : Prop :=
  (∀ (h' : Heap) (tk' : Nat), x = Option.none → Fr h₀ L h' m → News h₀ L h' news → Q .none { s with heap := h', toks := tk' }) ∧
  (∀ (a b c : Int) (D : Addr) (t1 t2 t3 : Tok) (n : Nat) (h' : Heap) (tk' : Nat), x = Option.some (a, b, c) → Fr h₀ L h' m → News h₀ L h' ((D, T3 a b c t1 t2 t3 n) :: news) → Q (.ref D) { s with heap := h', toks := tk' })
theorem RetP.some {news led : List (Addr × Obj)} {x : Option (Int × Int × Int)} {a b c : Int} {h₀ h' : Heap} {L D : Addr} {m : Str → Option Value} {s : Shared} {Q : Value → Shared → Prop} {t1 t2 t3 : Tok} {n tk' : Nat}
    (R : RetP news x h₀ L m s Q) (e : x = .some (a, b, c)) (F : Fr h₀ L h' m) (N : News h₀ L h' led) (hD : (D, T3 a b c t1 t2 t3 n) ∈ led) (hs : ∀ p ∈ news, p ∈ led) : Q (.ref D) { s with heap := h', toks := tk' } :=
  R.2 a b c D t1 t2 t3 n h' tk' e F fun p hp => N p ((List.mem_cons.mp hp).elim (fun e => e ▸ hD) (hs p))
theorem RetP.none {news led : List (Addr × Obj)} {x : Option (Int × Int × Int)} {h₀ h' : Heap} {L : Addr} {m : Str → Option Value} {s : Shared} {Q : Value → Shared → Prop} {tk' : Nat}
    (R : RetP news x h₀ L m s Q) (e : x = Option.none) (F : Fr h₀ L h' m) (N : News h₀ L h' led) (hs : ∀ p ∈ news, p ∈ led) : Q Value.none { s with heap := h', toks := tk' } := R.1 h' tk' e F fun p hp => N p (hs p hp)

/-- a list of ints that was made -/
def RetL (news : List (Addr × Obj)) (xs : List Int) (h₀ : Heap) (L : Addr) (m : Str → Option Value) (s : Shared) (Q : Value → Shared → Prop) : Prop :=
  ∀ (D : Addr) (vs : List Value) (c : Nat) (h' : Heap) (tk' : Nat), IntsAre vs xs → Fr h₀ L h' m → News h₀ L h' ((D, LO vs c) :: news) → (∀ p ∈ news, p.1 ≠ D) → Q (.ref D) { s with heap := h', toks := tk' }
theorem RetL.ok {news led : List (Addr × Obj)} {xs ys : List Int} {vs : List Value} {c : Nat} {h₀ h' : Heap} {L D : Addr} {m : Str → Option Value} {s : Shared} {Q : Value → Shared → Prop} {tk' : Nat}
    (R : RetL news xs h₀ L m s Q) (hi : IntsAre vs ys) (e : ys = xs) (F : Fr h₀ L h' m) (N : News h₀ L h' led) (hD : (D, LO vs c) ∈ led) (hs : ∀ p ∈ news, p ∈ led) (hn : ∀ p ∈ news, p.1 ≠ D) : Q (.ref D) { s with heap := h', toks := tk' } := by
  subst e
  exact R D vs c h' tk' hi F (fun p hp => N p ((List.mem_cons.mp hp).elim (fun e => e ▸ hD) (hs p))) hn

section
variable {w : World} {A : Around} {E : Value → Shared → Prop} {s : Shared} {h₀ : Heap} {L D : Addr} {news : List (Addr × Obj)} {a b c : Int} {t1 t2 t3 u : Tok} {n : Nat} {value slice : PySem.Expr} {Q : Value → Shared → Prop}
theorem item0 (N : News h₀ L s.heap news) (hm : (D, T3 a b c t1 t2 t3 n) ∈ news) (h : Q (.int a t1) s) (hs : subscripted slice false (.ref D) (.int 0 u) = operate [.ref D, .int 0 u] (getItem (.ref D) (.int 0 u)) := by with_unfolding_all rfl) : wpAny (model prog w) A (subscriptTail value slice (.ref D) (.int 0 u)) Q E s :=
  item_tupleT (News.isTup N hm) (by decide) (by decide) rfl rfl h hs
theorem item1 (N : News h₀ L s.heap news) (hm : (D, T3 a b c t1 t2 t3 n) ∈ news) (h : Q (.int b t2) s) (hs : subscripted slice false (.ref D) (.int 1 u) = operate [.ref D, .int 1 u] (getItem (.ref D) (.int 1 u)) := by with_unfolding_all rfl) : wpAny (model prog w) A (subscriptTail value slice (.ref D) (.int 1 u)) Q E s :=
  item_tupleT (News.isTup N hm) (by decide) (by decide) rfl rfl h hs
theorem item2 (N : News h₀ L s.heap news) (hm : (D, T3 a b c t1 t2 t3 n) ∈ news) (h : Q (.int c t3) s) (hs : subscripted slice false (.ref D) (.int 2 u) = operate [.ref D, .int 2 u] (getItem (.ref D) (.int 2 u)) := by with_unfolding_all rfl) : wpAny (model prog w) A (subscriptTail value slice (.ref D) (.int 2 u)) Q E s :=
  item_tupleT (News.isTup N hm) (by decide) (by decide) rfl rfl h hs
end

theorem ne_of_lts {D : Addr} {news : List (Addr × Obj)} (h : ∀ p ∈ news, p.1 < D) : ∀ p ∈ news, p.1 ≠ D := fun p hp => Nat.ne_of_lt (h p hp)
theorem ne_of_allLt {D : Addr} : ∀ {news : List (Addr × Obj)}, AllLt D news → ∀ p ∈ news, p.1 ≠ D
  | [], _, _, hp => nomatch hp
  | q :: r, h, p, hp => by
    rcases List.mem_cons.mp hp with rfl | hp
    · exact Nat.ne_of_lt h.1
    · exact ne_of_allLt h.2 p hp
theorem ne_of_off {D : Addr} : ∀ {news : List (Addr × Obj)}, LCg.Off1 D news → ∀ p ∈ news, p.1 ≠ D
  | [], _, _, hp => nomatch hp
  | q :: r, h, p, hp => by
    rcases List.mem_cons.mp hp with rfl | hp
    · exact h.1
    · exact ne_of_off h.2 p hp
theorem ints_irrel {vs : List Value} {xs ys : List Int} (h : IntsAre vs xs) (e : xs = ys) : IntsAre vs ys := e ▸ h

theorem mulOk_r {a b : Int} (h1 : -1000000000000000 < b) (h2 : b < 1000000000000000) : IntMulOk a b := IntMulOk.of_right (intBits_le_64 (by omega) (by omega))
theorem mulOk_l {a b : Int} (h1 : -1000000000000000 < a) (h2 : a < 1000000000000000) : IntMulOk a b := IntMulOk.of_left (intBits_le_64 (by omega) (by omega))
theorem mulOk_f {x y l r a b c : Int} (I : BOk x y l r a b) (h : r ≠ 0) : IntMulOk (l.fdiv r) c := by
  have := fdiv_bd (l := l) (r := r) (by have := I.1; omega) (by have := I.1; omega)
  have := I.1
  exact mulOk_l (by omega) (by omega)
/-- a tuple of two ints that was made -/
def RetT2 (news : List (Addr × Obj)) (a b : Int) (h₀ : Heap) (L : Addr) (m : Str → Option Value) (s : Shared) (Q : Value → Shared → Prop) : Prop :=
  ∀ (D : Addr) (t1 t2 : Tok) (n : Nat) (h' : Heap) (tk' : Nat), Fr h₀ L h' m → News h₀ L h' ((D, { cls := .type "tuple", data := .seq #[.int a t1, .int b t2] n }) :: news) → Q (.ref D) { s with heap := h', toks := tk' }
theorem RetT2.ok {news led : List (Addr × Obj)} {a b a' b' : Int} {h₀ h' : Heap} {L D : Addr} {m : Str → Option Value} {s : Shared} {Q : Value → Shared → Prop} {t1 t2 : Tok} {n tk' : Nat}
    (R : RetT2 news a b h₀ L m s Q) (ea : a' = a) (eb : b' = b) (F : Fr h₀ L h' m) (N : News h₀ L h' led) (hD : (D, ({ cls := .type "tuple", data := .seq #[.int a' t1, .int b' t2] n } : Obj)) ∈ led) (hs : ∀ p ∈ news, p ∈ led) : Q (.ref D) { s with heap := h', toks := tk' } := by
  subst ea; subst eb
  exact R D t1 t2 n h' tk' F fun p hp => N p ((List.mem_cons.mp hp).elim (fun e => e ▸ hD) (hs p))
/-- a row that was made, or the text's EMPTY -/
def RetE (news : List (Addr × Obj)) (x : Option (Int × Int × Int)) (h₀ : Heap) (L : Addr) (m : Str → Option Value) (s : Shared) (Q : Value → Shared → Prop) : Prop :=
  (∀ (h' : Heap) (tk' : Nat), x = Option.none → Fr h₀ L h' m → News h₀ L h' news → Q (.ref 112) { s with heap := h', toks := tk' }) ∧
  (∀ (a b c : Int) (D : Addr) (t1 t2 t3 : Tok) (n : Nat) (h' : Heap) (tk' : Nat), x = Option.some (a, b, c) → Fr h₀ L h' m → News h₀ L h' ((D, T3 a b c t1 t2 t3 n) :: news) → Q (.ref D) { s with heap := h', toks := tk' })
theorem RetE.some {news led : List (Addr × Obj)} {x : Option (Int × Int × Int)} {a b c : Int} {h₀ h' : Heap} {L D : Addr} {m : Str → Option Value} {s : Shared} {Q : Value → Shared → Prop} {t1 t2 t3 : Tok} {n tk' : Nat}
    (R : RetE news x h₀ L m s Q) (F : Fr h₀ L h' m) (N : News h₀ L h' led) (hD : (D, T3 a b c t1 t2 t3 n) ∈ led) (hs : ∀ p ∈ news, p ∈ led) (e : x = .some (a, b, c)) : Q (.ref D) { s with heap := h', toks := tk' } :=
  R.2 a b c D t1 t2 t3 n h' tk' e F fun p hp => N p ((List.mem_cons.mp hp).elim (fun e => e ▸ hD) (hs p))
theorem RetE.none {news led : List (Addr × Obj)} {x : Option (Int × Int × Int)} {h₀ h' : Heap} {L : Addr} {m : Str → Option Value} {s : Shared} {Q : Value → Shared → Prop} {tk' : Nat}
    (R : RetE news x h₀ L m s Q) (F : Fr h₀ L h' m) (N : News h₀ L h' led) (hs : ∀ p ∈ news, p ∈ led) (e : x = Option.none) : Q (.ref 112) { s with heap := h', toks := tk' } := R.1 h' tk' e F fun p hp => N p (hs p hp)
/-- a draw below k comes back, the mill stands with other numbers -/
def RetG (M : Addr) (news : List (Addr × Obj)) (k : Int) (h₀ : Heap) (L : Addr) (m : Str → Option Value) (s : Shared) (Q : Value → Shared → Prop) : Prop :=
  ∀ (x a b : Int) (t t1 t2 : Tok) (c : Nat) (h' : Heap) (tk' : Nat), 0 ≤ x → x < k → 0 ≤ a → 0 ≤ b → b < 2147483399 → Fr h₀ L h' m → News h₀ L h' ((M, LO [.int a t1, .int b t2] c) :: news) → Q (.int x t) { s with heap := h', toks := tk' }
theorem RetG.ok {M : Addr} {news led : List (Addr × Obj)} {k x a b : Int} {t t1 t2 : Tok} {c : Nat} {h₀ h' : Heap} {L : Addr} {m : Str → Option Value} {s : Shared} {Q : Value → Shared → Prop} {tk' : Nat}
    (R : RetG M news k h₀ L m s Q) (F : Fr h₀ L h' m) (N : News h₀ L h' led) (hM : (M, LO [.int a t1, .int b t2] c) ∈ led) (hs : ∀ p ∈ news, p ∈ led) (h1 : 0 ≤ x) (h2 : x < k) (h3 : 0 ≤ a) (h4 : 0 ≤ b) (h5 : b < 2147483399) : Q (.int x t) { s with heap := h', toks := tk' } :=
  R x a b t t1 t2 c h' tk' h1 h2 h3 h4 h5 F fun p hp => N p ((List.mem_cons.mp hp).elim (fun e => e ▸ hM) (hs p))
section
variable {w : World} {A : Around} {E : Value → Shared → Prop} {s : Shared} {h₀ : Heap} {L M : Addr} {m : Str → Option Value} {news : List (Addr × Obj)} {a b x : Int} {t t1 t2 u : Tok} {c : Nat} {Q : Unit → Shared → Prop}
theorem mill_set0 (F : Fr h₀ L s.heap m) (N : News h₀ L s.heap ((M, LO [.int a t1, .int b t2] c) :: news)) (hne : ∀ p ∈ news, p.1 ≠ M)
    (h : ∀ h', Fr h₀ L h' m → News h₀ L h' ((M, LO [.int x u, .int b t2] c) :: news) → Q () { s with heap := h' }) : wpAny (model prog w) A (setItem (.ref M) (.int 0 t) (.int x u)) Q E s :=
  ksa_set (vs := [.int a t1, .int b t2]) (ns := [a, b]) F N (Upd.head hne) (.cons _ _ (.cons _ _ .nil)) (by decide) (by simp) (by decide) fun h' F' N' _ _ _ => h h' F' N'
theorem mill_set1 (F : Fr h₀ L s.heap m) (N : News h₀ L s.heap ((M, LO [.int a t1, .int b t2] c) :: news)) (hne : ∀ p ∈ news, p.1 ≠ M)
    (h : ∀ h', Fr h₀ L h' m → News h₀ L h' ((M, LO [.int a t1, .int x u] c) :: news) → Q () { s with heap := h' }) : wpAny (model prog w) A (setItem (.ref M) (.int 1 t) (.int x u)) Q E s :=
  ksa_set (vs := [.int a t1, .int b t2]) (ns := [a, b]) F N (Upd.head hne) (.cons _ _ (.cons _ _ .nil)) (by decide) (by simp) (by decide) fun h' F' N' _ _ _ => h h' F' N'
end
inductive Pick (q : Addr × Obj) : List (Addr × Obj) → List (Addr × Obj) → Prop
  | head {r : List (Addr × Obj)} : Pick q (q :: r) r
  | tail {p : Addr × Obj} {l r : List (Addr × Obj)} : Pick q l r → Pick q (p :: l) (p :: r)
theorem Pick.sub {q : Addr × Obj} : ∀ {l r : List (Addr × Obj)}, Pick q l r → ∀ p ∈ q :: r, p ∈ l
  | _, _, .head, _, hp => hp
  | _, _, .tail h, p, hp => by
    rcases List.mem_cons.mp hp with rfl | hp
    · exact List.mem_cons_of_mem _ (h.sub _ List.mem_cons_self)
    · rcases List.mem_cons.mp hp with rfl | hp
      · exact List.mem_cons_self
      · exact List.mem_cons_of_mem _ (h.sub _ (List.mem_cons_of_mem _ hp))
theorem Pick.news {q : Addr × Obj} {l r : List (Addr × Obj)} {h₀ h : Heap} {L : Addr} (N : News h₀ L h l) (P : Pick q l r) : News h₀ L h (q :: r) := fun p hp => N p (P.sub p hp)
theorem ne_tup {h₀ h : Heap} {L M D : Addr} {led : List (Addr × Obj)} {vs : List Value} {c : Nat} {f s l : Int} {t1 t2 t3 : Tok} {n : Nat} (N : News h₀ L h led) (hM : (M, LO vs c) ∈ led) (hD : (D, T3 f s l t1 t2 t3 n) ∈ led) : D ≠ M := by
  intro e
  subst e
  have h1 := (N _ hM).1
  have h2 := (N _ hD).1
  dsimp only at h1 h2
  rw [h1] at h2
  have h3 := congrArg Obj.cls (Option.some.inj h2)
  exact absurd h3 (show Value.type "list" ≠ Value.type "tuple" by decide)
/-- a row of the law's own comes back, the mill stands with other numbers -/
def RetR (M : Addr) (news : List (Addr × Obj)) (h₀ : Heap) (L : Addr) (m : Str → Option Value) (s : Shared) (Q : Value → Shared → Prop) : Prop :=
  ∀ (f st l a b : Int) (D : Addr) (t1 t2 t3 u1 u2 : Tok) (n c : Nat) (h' : Heap) (tk' : Nat), RowOk f st l → 0 ≤ a → 0 ≤ b → b < 2147483399 → Fr h₀ L h' m → News h₀ L h' ((D, T3 f st l t1 t2 t3 n) :: (M, LO [.int a u1, .int b u2] c) :: news) → Q (.ref D) { s with heap := h', toks := tk' }
theorem RetR.ok {M : Addr} {news led : List (Addr × Obj)} {f st l a b : Int} {D : Addr} {t1 t2 t3 u1 u2 : Tok} {n c : Nat} {h₀ h' : Heap} {L : Addr} {m : Str → Option Value} {s : Shared} {Q : Value → Shared → Prop} {tk' : Nat}
    (R : RetR M news h₀ L m s Q) (F : Fr h₀ L h' m) (N : News h₀ L h' led) (hD : (D, T3 f st l t1 t2 t3 n) ∈ led) (hM : (M, LO [.int a u1, .int b u2] c) ∈ led) (hs : ∀ p ∈ news, p ∈ led) (h3 : 0 ≤ a) (h4 : 0 ≤ b) (h5 : b < 2147483399) (h1 : RowOk f st l) : Q (.ref D) { s with heap := h', toks := tk' } :=
  R f st l a b D t1 t2 t3 u1 u2 n c h' tk' h1 h3 h4 h5 F fun p hp => N p ((List.mem_cons.mp hp).elim (fun e => e ▸ hD) fun hp => (List.mem_cons.mp hp).elim (fun e => e ▸ hM) (hs p))
theorem menu {w : World} {A : Around} {E : Value → Shared → Prop} {s : Shared} {h₀ : Heap} {L D : Addr} {news : List (Addr × Obj)} {vs : List Value} {ns : List Int} {n : Nat} {k : Int} {u : Tok} {value slice : PySem.Expr} {Q : Value → Shared → Prop} (N : News h₀ L s.heap news) (hm : (D, LO vs n) ∈ news) (hi : IntsAre vs ns) (h0 : 0 ≤ k) (h1 : k < ns.length) (hfit : k < 2 ^ 63) (h : ∀ v t, v ∈ ns → Q (.int v t) s)
    (hs : subscripted slice false (.ref D) (.int k u) = operate [.ref D, .int k u] (getItem (.ref D) (.int k u)) := by with_unfolding_all rfl) :
    wpAny (model prog w) A (subscriptTail value slice (.ref D) (.int k u)) Q E s :=
  ksa_sub N hm hi h0 h1 hfit (fun t => h _ t (by
    have q : k.toNat < ns.length := by omega
    rw [List.getD_eq_getElem?_getD, List.getElem?_eq_getElem q]
    exact List.getElem_mem q)) hs
/-- the mill is made -/
def RetM (news : List (Addr × Obj)) (h₀ : Heap) (L : Addr) (m : Str → Option Value) (s : Shared) (Q : Value → Shared → Prop) : Prop :=
  ∀ (a b : Int) (D : Addr) (t1 t2 : Tok) (c : Nat) (h' : Heap) (tk' : Nat), 0 ≤ a → 0 ≤ b → b < 2147483399 → Fr h₀ L h' m → News h₀ L h' ((D, LO [.int a t1, .int b t2] c) :: news) → Q (.ref D) { s with heap := h', toks := tk' }
theorem RetM.ok {news led : List (Addr × Obj)} {a b : Int} {D : Addr} {t1 t2 : Tok} {c : Nat} {h₀ h' : Heap} {L : Addr} {m : Str → Option Value} {s : Shared} {Q : Value → Shared → Prop} {tk' : Nat}
    (R : RetM news h₀ L m s Q) (F : Fr h₀ L h' m) (N : News h₀ L h' led) (hM : (D, LO [.int a t1, .int b t2] c) ∈ led) (hs : ∀ p ∈ news, p ∈ led) (h3 : 0 ≤ a) (h4 : 0 ≤ b) (h5 : b < 2147483399) : Q (.ref D) { s with heap := h', toks := tk' } :=
  R a b D t1 t2 c h' tk' h3 h4 h5 F fun p hp => N p ((List.mem_cons.mp hp).elim (fun e => e ▸ hM) (hs p))
def CanS (w : World) (d u : Nat) (l : Addr) (lv : List Value) (news : List (Addr × Obj)) (f : Addr) (vs : List Value)
    (Ret : Heap → Addr → (Str → Option Value) → Shared → (Value → Shared → Prop) → Prop) : Prop :=
  ∀ (mean : ExcName → Option Value) (mg mb : Str → Option Value) (dp un : Nat) (gd : Option (List Code)) (cn : Str) (cs : Scope) (a : Addr) (ccd : Value) (cl : List (Str × Addr)) (outer : List Env) (A₀ : Around) (base h₀ : Heap) (L : Addr) (m : Str → Option Value) (s : Shared) (Q E : Value → Shared → Prop),
    base.IsList l lv.toArray → Below A₀ base outer h₀ → Fr h₀ L s.heap m → (Mine.hd.heap_1_39 w.params).In h₀ → News h₀ L s.heap news → Top Mine.hd.view_1_40 lo mean mg mb h₀ → cs.kind = .function →
    dp + d < recursionLimit → un + u < cLine → Ret h₀ L m s Q →
    wpAny (model prog w) (ktrTop dp un gd cn cs L a ccd cl outer) (call (.ref f) vs) Q E s
theorem CanS.use {w : World} {d u : Nat} {l : Addr} {lv : List Value} {news : List (Addr × Obj)} {f : Addr} {vs : List Value} {Ret : Heap → Addr → (Str → Option Value) → Shared → (Value → Shared → Prop) → Prop}
    {mean : ExcName → Option Value} {mg mb : Str → Option Value} {dp un : Nat} {gd : Option (List Code)} {cn : Str} {cs : Scope} {a : Addr} {ccd : Value} {cl : List (Str × Addr)} {outer : List Env} {A₀ : Around} {base h₀ : Heap} {L : Addr} {m : Str → Option Value} {s : Shared} {Q E : Value → Shared → Prop}
    (B : Below A₀ base outer h₀) (F : Fr h₀ L s.heap m) (X : (Mine.hd.heap_1_39 w.params).In h₀) (N : News h₀ L s.heap news) (T : Top Mine.hd.view_1_40 lo mean mg mb h₀) (hk : cs.kind = .function)
    (C : CanS w d u l lv news f vs Ret) (hl : base.IsList l lv.toArray) (hd : dp + d < recursionLimit) (hu : un + u < cLine) (ret : Ret h₀ L m s Q) :
    wpAny (model prog w) (ktrTop dp un gd cn cs L a ccd cl outer) (call (.ref f) vs) Q E s :=
  C mean mg mb dp un gd cn cs a ccd cl outer A₀ base h₀ L m s Q E hl B F X N T hk hd hu ret
def MEl (news : List (Addr × Obj)) (b : Bool) (k : Int) (y : Value) (news' : List (Addr × Obj)) : Prop := news' = news ∧ b = true ∧ ∃ t : Tok, y = .int k t
def MNo (news : List (Addr × Obj)) (b : Bool) (news' : List (Addr × Obj)) : Prop := news' = news ∧ b = false
section
variable {w : World} {A : Around} {h₀ : Heap} {L : Addr} {m : Str → Option Value} {env : Env} {ct elt : PySem.Expr} {x : Str} {scope : Scope} {cl : List (Str × Addr)} {s : Shared} {S : List (Addr × Obj) → Prop} {Fin : List Value → List (Addr × Obj) → Prop} {news : List (Addr × Obj)}
theorem filt {p : Int → Bool} (_hp : PredIs p) {vs : List Value} {ns : List Int} (hi : IntsAre vs ns)
    (turn : ∀ k t I oI C oC D m₂ ys h tk (E' : Value → Shared → Prop), k ∈ ns → LCg.NsObj oC m₂ → m₂ x = some (.int k t) → Fr h₀ L h m → News h₀ L h ((I, oI) :: (C, oC) :: (D, LCg.lst ys) :: news) → LCg.Off3 I C D news → ((@Ne Nat I C) ∧ (@Ne Nat I D) ∧ (@Ne Nat C D)) →
      wpAny (model prog w) A (isTrue ct (compEnvC scope cl C env) (eval ct (compEnvC scope cl C env))) (fun b s' => if b = true then wpAny (model prog w) A (eval elt (compEnvC scope cl C env)) (LCg.CompEnd h₀ L m { s with heap := h, toks := tk } I oI C oC D (LCg.lst ys) S (fun y news' => MEl news (p k) k y news')) E' s'
        else LCg.CompEnd h₀ L m { s with heap := h, toks := tk } I oI C oC D (LCg.lst ys) S (fun _ news' => MNo news (p k) news') Value.none s') E' { s with heap := h, toks := tk })
    (fin : ∀ ys, IntsAre ys (ns.filter p) → Fin ys news) : LCt.CompRestT prog w A h₀ L m env ct elt x scope cl s S (fun i v => vs.toArray[i]? = some v) Fin vs.toArray.size 0 [] news := by
  have fold : ∀ (ns l : List Int), ns.foldl (fun l k => if p k = true then l ++ [k] else l) l = l ++ ns.filter p := by
    intro ns
    induction ns with
    | nil => intro l; simp
    | cons k r ih =>
      intro l
      rw [List.foldl_cons, ih, List.filter_cons]
      by_cases q : p k = true
      · simp [q]
      · simp [q]
  refine kci_list (fun l k => if p k = true then l ++ [k] else l) hi (fun k t I oI C oC D m₂ ys l h tk E' hk _ hC hx F N off ne _ => ?_) ?_ ?_
  · refine wpAny_mono (turn k t I oI C oC D m₂ ys h tk E' hk hC hx F N off ne) (fun b s₂ q => ?_) fun _ _ e => e
    cases b with
    | true =>
      simp only [if_true] at q ⊢
      refine wpAny_mono q (fun y s₃ r => ?_) fun _ _ e => e
      obtain ⟨h', tk', nw, e, F', N', off', hS, hn, hb, t', hy⟩ := r
      exact ⟨h', tk', nw, e, F', N', off', hS, hn, k, t', hy, by rw [if_pos hb]⟩
    | false =>
      simp only [Bool.false_eq_true, if_false] at q ⊢
      obtain ⟨h', tk', nw, e, F', N', off', hS, hn, hb⟩ := q
      exact ⟨h', tk', nw, e, F', N', off', hS, hn, by rw [hb]; simp⟩
  · unfold KPfDone
    intro ys hy _
    rw [fold, List.nil_append] at hy
    exact fin ys hy
  · intro l k
    dsimp only
    split
    · simp
    · omega
end
theorem sort_as {w : World} {A : Around} {E : Value → Shared → Prop} {s : Shared} {h₀ : Heap} {L l : Addr} {m : Str → Option Value} {news : List (Addr × Obj)} {vs : List Value} {ns T : List Int} {Q : Value → Shared → Prop} (hT : SortTo ns T) (F : Fr h₀ L s.heap m) (N : News h₀ L s.heap news) (hl : s.heap.IsList l vs.toArray) (hi : IntsAre vs ns) (h64 : ns.length < 64)
    (h : ∀ D vs' c h', Fr h₀ L h' m → News h₀ L h' ((D, LO vs' c) :: news) → (∀ q ∈ news, q.1 < D) → IntsAre vs' T → Q (.ref D) { s with heap := h' }) :
    wpAny (model prog w) A (call (.builtin "sorted") [.ref l]) Q E s :=
  kso_sorted F N hl hi h64 fun D vs' ns' c h' F' N' l1 i' _ p' o' _ => h D vs' c h' F' N' l1 (ksm_same (p'.trans hT.1.symm) o' hT.2 ▸ i')
theorem eq_as {w : World} {A : Around} {E : Value → Shared → Prop} {s : Shared} {a b : Addr} {vs us : List Value} {ns ms : List Int} {Q : Value → Shared → Prop} (hl : s.heap.IsList a vs.toArray) (hi : IntsAre vs ns) (hl' : s.heap.IsList b us.toArray) (hi' : IntsAre us ms) (hu : A.units + 64 < cLine) (e : ns = ms)
    (h : Q (.bool true) s) : wpAny (model prog w) A (compareOp .Eq (.ref a) (.ref b)) Q E s := eq_intsK hl hi hl' hi' hu (by rw [decide_eq_true e]; exact h)
theorem ne_as {w : World} {A : Around} {E : Value → Shared → Prop} {s : Shared} {a b : Addr} {vs us : List Value} {ns ms : List Int} {Q : Value → Shared → Prop} (hl : s.heap.IsList a vs.toArray) (hi : IntsAre vs ns) (hl' : s.heap.IsList b us.toArray) (hi' : IntsAre us ms) (hu : A.units + 64 < cLine) (e : ns = ms)
    (h : Q (.bool false) s) : wpAny (model prog w) A (compareOp .NotEq (.ref a) (.ref b)) Q E s := ne_intsK hl hi hl' hi' hu (by rw [decide_eq_true e]; exact h)
section
variable {h₀ h' : Heap} {L I C D : Addr} {m : Str → Option Value} {s₁ : Shared} {oI oC oD : Obj} {S : List (Addr × Obj) → Prop} {tk : Nat} {all news : List (Addr × Obj)} {b : Bool} {k : Int} {t : Tok}
theorem end_el (F : Fr h₀ L h' m) (N : News h₀ L h' all) (sub : ∀ p ∈ (I, oI) :: (C, oC) :: (D, oD) :: news, p ∈ all) (off : LCg.Off3 I C D news) (hS : S news) (e : b = true) :
    LCg.CompEnd h₀ L m s₁ I oI C oC D oD S (fun y news' => MEl news b k y news') (.int k t) { s₁ with heap := h', toks := tk } :=
  LCg.CompEnd.intro F N news sub off hS ⟨rfl, e, t, rfl⟩
theorem end_no {y : Value} (F : Fr h₀ L h' m) (N : News h₀ L h' all) (sub : ∀ p ∈ (I, oI) :: (C, oC) :: (D, oD) :: news, p ∈ all) (off : LCg.Off3 I C D news) (hS : S news) (e : b = false) :
    LCg.CompEnd h₀ L m s₁ I oI C oC D oD S (fun _ news' => MNo news b news') y { s₁ with heap := h', toks := tk } :=
  LCg.CompEnd.intro F N news sub off hS ⟨rfl, e⟩
end
theorem size_of {vs : List Value} {ns : List Int} (h : IntsAre vs ns) (hb : ns.length < 2 ^ 62) (hb2 : ns.length < 1000000) : vs.toArray.size ≤ sizeLine := by
  rw [List.size_toArray, h.length, sizeLine_eq]; omega
end Mine
-- the words of this file stand ahead of the library's lines
local macro_rules | `(tactic| walk_at $s:str) => if s.getString.startsWith "mine" then Lean.Macro.throwUnsupported else `(tactic| k_extra $(Lean.Syntax.mkStrLit ("m " ++ s.getString)))
theorem Mine.words1 : True := by
  k_with "mine mem" => first | exact List.Mem.head _ | exact List.Mem.tail _ (List.Mem.head _) | exact List.Mem.tail _ (List.Mem.tail _ (List.Mem.head _)) | exact List.Mem.tail _ (List.Mem.tail _ (List.Mem.tail _ (List.Mem.head _))) | exact List.Mem.tail _ (List.Mem.tail _ (List.Mem.tail _ (List.Mem.tail _ (List.Mem.head _)))) | exact List.Mem.tail _ (List.Mem.tail _ (List.Mem.tail _ (List.Mem.tail _ (List.Mem.tail _ (List.Mem.head _))))) | exact List.Mem.tail _ (List.Mem.tail _ (List.Mem.tail _ (List.Mem.tail _ (List.Mem.tail _ (List.Mem.tail _ (List.Mem.head _)))))) | exact List.Mem.tail _ (List.Mem.tail _ (List.Mem.tail _ (List.Mem.tail _ (List.Mem.tail _ (List.Mem.tail _ (List.Mem.tail _ (List.Mem.head _))))))) | exact List.Mem.tail _ (List.Mem.tail _ (List.Mem.tail _ (List.Mem.tail _ (List.Mem.tail _ (List.Mem.tail _ (List.Mem.tail _ (List.Mem.tail _ (List.Mem.head _)))))))) | exact List.Mem.tail _ (List.Mem.tail _ (List.Mem.tail _ (List.Mem.tail _ (List.Mem.tail _ (List.Mem.tail _ (List.Mem.tail _ (List.Mem.tail _ (List.Mem.tail _ (List.Mem.head _))))))))) | exact List.Mem.tail _ (List.Mem.tail _ (List.Mem.tail _ (List.Mem.tail _ (List.Mem.tail _ (List.Mem.tail _ (List.Mem.tail _ (List.Mem.tail _ (List.Mem.tail _ (List.Mem.tail _ (List.Mem.head _)))))))))) | exact List.Mem.tail _ (List.Mem.tail _ (List.Mem.tail _ (List.Mem.tail _ (List.Mem.tail _ (List.Mem.tail _ (List.Mem.tail _ (List.Mem.tail _ (List.Mem.tail _ (List.Mem.tail _ (List.Mem.tail _ (List.Mem.head _))))))))))) | exact List.Mem.tail _ (List.Mem.tail _ (List.Mem.tail _ (List.Mem.tail _ (List.Mem.tail _ (List.Mem.tail _ (List.Mem.tail _ (List.Mem.tail _ (List.Mem.tail _ (List.Mem.tail _ (List.Mem.tail _ (List.Mem.tail _ (List.Mem.head _)))))))))))) | exact (by with_reducible assumption) | exact (List.mem_cons_of_mem _ (by with_reducible assumption)) | exact (List.mem_cons_of_mem _ (List.mem_cons_of_mem _ (by with_reducible assumption))) | exact (List.mem_cons_of_mem _ (List.mem_cons_of_mem _ (List.mem_cons_of_mem _ (by with_reducible assumption)))) | exact (List.mem_cons_of_mem _ (List.mem_cons_of_mem _ (List.mem_cons_of_mem _ (List.mem_cons_of_mem _ (by with_reducible assumption))))) | exact (List.mem_cons_of_mem _ (List.mem_cons_of_mem _ (List.mem_cons_of_mem _ (List.mem_cons_of_mem _ (List.mem_cons_of_mem _ (by with_reducible assumption)))))) | exact (List.mem_cons_of_mem _ (List.mem_cons_of_mem _ (List.mem_cons_of_mem _ (List.mem_cons_of_mem _ (List.mem_cons_of_mem _ (List.mem_cons_of_mem _ (by with_reducible assumption))))))) | exact (List.mem_cons_of_mem _ (List.mem_cons_of_mem _ (List.mem_cons_of_mem _ (List.mem_cons_of_mem _ (List.mem_cons_of_mem _ (List.mem_cons_of_mem _ (List.mem_cons_of_mem _ (by with_reducible assumption)))))))) | exact (List.mem_cons_of_mem _ (List.mem_cons_of_mem _ (List.mem_cons_of_mem _ (List.mem_cons_of_mem _ (List.mem_cons_of_mem _ (List.mem_cons_of_mem _ (List.mem_cons_of_mem _ (List.mem_cons_of_mem _ (by with_reducible assumption))))))))) | exact (List.mem_cons_of_mem _ (List.mem_cons_of_mem _ (List.mem_cons_of_mem _ (List.mem_cons_of_mem _ (List.mem_cons_of_mem _ (List.mem_cons_of_mem _ (List.mem_cons_of_mem _ (List.mem_cons_of_mem _ (List.mem_cons_of_mem _ (by with_reducible assumption)))))))))) | exact (List.mem_cons_of_mem _ (List.mem_cons_of_mem _ (List.mem_cons_of_mem _ (List.mem_cons_of_mem _ (List.mem_cons_of_mem _ (List.mem_cons_of_mem _ (List.mem_cons_of_mem _ (List.mem_cons_of_mem _ (List.mem_cons_of_mem _ (List.mem_cons_of_mem _ (by with_reducible assumption))))))))))) | exact (List.mem_cons_of_mem _ (List.mem_cons_of_mem _ (List.mem_cons_of_mem _ (List.mem_cons_of_mem _ (List.mem_cons_of_mem _ (List.mem_cons_of_mem _ (List.mem_cons_of_mem _ (List.mem_cons_of_mem _ (List.mem_cons_of_mem _ (List.mem_cons_of_mem _ (List.mem_cons_of_mem _ (by with_reducible assumption)))))))))))) | exact (List.mem_cons_of_mem _ (List.mem_cons_of_mem _ (List.mem_cons_of_mem _ (List.mem_cons_of_mem _ (List.mem_cons_of_mem _ (List.mem_cons_of_mem _ (List.mem_cons_of_mem _ (List.mem_cons_of_mem _ (List.mem_cons_of_mem _ (List.mem_cons_of_mem _ (List.mem_cons_of_mem _ (List.mem_cons_of_mem _ (by with_reducible assumption))))))))))))) | exact (List.mem_cons_of_mem _ (List.mem_cons_of_mem _ (List.mem_cons_of_mem _ (List.mem_cons_of_mem _ (List.mem_cons_of_mem _ (List.mem_cons_of_mem _ (List.mem_cons_of_mem _ (List.mem_cons_of_mem _ (List.mem_cons_of_mem _ (List.mem_cons_of_mem _ (List.mem_cons_of_mem _ (List.mem_cons_of_mem _ (List.mem_cons_of_mem _ (by with_reducible assumption))))))))))))))
  trivial
local macro_rules
  | `(tactic| k_mem) => `(tactic| walk_at "mine mem")
local macro_rules
  | `(tactic| kst_facts1) => `(tactic| first | exact PyProof.Rows.IntsAre.nil | with_reducible assumption | exact PyProof.Rows.IntsAre.append (by with_reducible assumption) (.cons _ _ .nil))
theorem Mine.words2 : True := by
  k_with "mine endI" => (refine' Mine.RetI.ok ?m1_1 ?_ ?m1_3 ?m1_4 ?m1_5; (case m1_1 => assumption); (case m1_3 => k_asm); (case m1_4 => k_asm); (case m1_5 => (intro p hp; repeat (first | exact hp | (refine List.Mem.tail _ ?_)))))
  k_with "mine endB" => (refine' Mine.RetB.ok ?m2_1 ?_ ?m2_3 ?m2_4 ?m2_5; (case m2_1 => assumption); (case m2_3 => k_asm); (case m2_4 => k_asm); (case m2_5 => (intro p hp; repeat (first | exact hp | (refine List.Mem.tail _ ?_)))))
  k_with "mine endO" => (refine' Mine.RetO.none ?m3_1 ?_ ?m3_3 ?m3_4 ?m3_5; (case m3_1 => assumption); (case m3_3 => k_asm); (case m3_4 => k_asm); (case m3_5 => (intro p hp; repeat (first | exact hp | (refine List.Mem.tail _ ?_)))))
  k_with "mine endP" => (refine' Mine.RetP.none ?m4_1 ?_ ?m4_3 ?m4_4 ?m4_5; (case m4_1 => assumption); (case m4_3 => k_asm); (case m4_4 => k_asm); (case m4_5 => (intro p hp; repeat (first | exact hp | (refine List.Mem.tail _ ?_)))))
  k_with "mine endE" => (refine' Mine.RetE.some ?m5_1 ?m5_2 ?m5_3 ?m5_4 ?m5_5 ?_; (case m5_1 => assumption); (case m5_2 => k_asm); (case m5_3 => k_asm); (case m5_4 => k_mem); (case m5_5 => (intro p hp; repeat (first | exact hp | (refine List.Mem.tail _ ?_)))))
  k_with "mine endT" => (refine' Mine.RetT.ok ?m6_1 ?_ ?_ ?_ ?m6_5 ?m6_6 ?m6_7 ?m6_8; (case m6_1 => assumption); (case m6_5 => k_asm); (case m6_6 => k_asm); (case m6_7 => k_mem); (case m6_8 => (intro p hp; repeat (first | exact hp | (refine List.Mem.tail _ ?_)))))
  k_with "mine endT2" => (refine' Mine.RetT2.ok ?m7_1 ?_ ?_ ?m7_4 ?m7_5 ?m7_6 ?m7_7; (case m7_1 => assumption); (case m7_4 => k_asm); (case m7_5 => k_asm); (case m7_6 => k_mem); (case m7_7 => (intro p hp; repeat (first | exact hp | (refine List.Mem.tail _ ?_)))))
  k_with "mine endL" => (refine' Mine.RetL.ok ?m8_1 ?m8_2 ?_ ?m8_4 ?m8_5 ?m8_6 ?m8_7 ?m8_8; (case m8_1 => assumption); (case m8_4 => k_asm); (case m8_5 => k_asm); (case m8_6 => k_mem); (case m8_2 => first | assumption | l_ints); (case m8_7 => (intro p hp; repeat (first | exact hp | (refine List.Mem.tail _ ?_)))); (case m8_8 => walk_at "mine apart"))
  k_with "mine endG" => (refine' Mine.RetG.ok ?m9_1 ?m9_2 ?m9_3 ?m9_4 ?m9_5 ?_ ?_ ?_ ?_ ?_; (case m9_1 => assumption); (case m9_2 => k_asm); (case m9_3 => k_asm); (case m9_4 => k_mem); (case m9_5 => (intro p hp; repeat (first | exact hp | (refine List.Mem.tail _ ?_)))))
  k_with "mine endR" => (refine' Mine.RetR.ok ?m10_1 ?m10_2 ?m10_3 ?m10_4 ?m10_5 ?m10_6 ?_ ?_ ?_ ?_; (case m10_1 => assumption); (case m10_2 => k_asm); (case m10_3 => k_asm); (case m10_4 => k_mem); (case m10_5 => k_mem); (case m10_6 => (intro p hp; repeat (first | exact hp | (refine List.Mem.tail _ ?_)))))
  k_with "mine endM" => (refine' Mine.RetM.ok ?m11_1 ?m11_2 ?m11_3 ?m11_4 ?m11_5 ?_ ?_ ?_; (case m11_1 => assumption); (case m11_2 => k_asm); (case m11_3 => k_asm); (case m11_4 => k_mem); (case m11_5 => (intro p hp; repeat (first | exact hp | (refine List.Mem.tail _ ?_)))))
  k_with "mine apart" => first | exact Mine.ne_of_lts (by assumption) | exact Mine.ne_of_off (by assumption) | exact Mine.ne_of_allLt (by assumption) | exact Mine.ne_of_lts (And.right (by assumption)) | exact Mine.ne_of_off (And.right (by assumption)) | exact Mine.ne_of_allLt (And.right (by assumption)) | exact Mine.ne_of_lts (And.right (And.right (by assumption))) | exact Mine.ne_of_off (And.right (And.right (by assumption))) | exact Mine.ne_of_allLt (And.right (And.right (by assumption))) | exact Mine.ne_of_lts (And.right (And.right (And.right (by assumption)))) | exact Mine.ne_of_off (And.right (And.right (And.right (by assumption)))) | exact Mine.ne_of_allLt (And.right (And.right (And.right (by assumption))))
  k_with "m subscriptTail Name Constant ref int" => (k_here; (with_reducible show wpAny _ _ (subscriptTail _ _ (Value.ref _) (Value.int 0 _)) _ _ _); k_dflt ((refine' Mine.item0 ?m12_1 ?m12_2 ?_; (case m12_1 => k_asm); (case m12_2 => k_mem)); k_whole))
  k_with "m compareOp Eq ref ref" => (k_here; (with_reducible show wpAny _ _ (compareOp CmpOp.Eq (Value.ref _) (Value.ref _)) _ _ _); (with_unfolding_all ((refine' Mine.eq_as ?m13_1 ?m13_2 ?m13_3 ?m13_4 ?m13_5 ?m13_6 ?_; (case m13_1 => walk_at "mine list"); (case m13_3 => walk_at "mine list"); (case m13_2 => walk_at "mine ints"); (case m13_4 => walk_at "mine ints"); (case m13_5 => first | ktr_units | units_room); (case m13_6 => walk_at "mine eq")); k_whole)))
  k_with "m compareOp NotEq ref ref" => (k_here; (with_reducible show wpAny _ _ (compareOp CmpOp.NotEq (Value.ref _) (Value.ref _)) _ _ _); (with_unfolding_all ((refine' Mine.ne_as ?m14_1 ?m14_2 ?m14_3 ?m14_4 ?m14_5 ?m14_6 ?_; (case m14_1 => walk_at "mine list"); (case m14_3 => walk_at "mine list"); (case m14_2 => walk_at "mine ints"); (case m14_4 => walk_at "mine ints"); (case m14_5 => first | ktr_units | units_room); (case m14_6 => walk_at "mine eq")); k_whole)))
  k_with "m compareOp In int ref" => (k_here; k_dflt ((refine' in_list_ints ?m15_1 ?m15_2 ?_; (case m15_1 => walk_at "mine list"); (case m15_2 => with_reducible assumption)); k_whole))
  k_with "mine side" => first | assumption | decide | omega | exact Mine.BOk.rbd (by with_reducible assumption)
  k_with "m binaryOp FloorDiv int int" => (k_here; (with_reducible refine floordiv_int ?mA ?_ (Or.inl (PyProof.noPylong_small ?mB))); (case mA => walk_at "mine side"); (case mB => walk_at "mine side"))
  k_with "m binaryOp Mod int int" => (k_here; (with_reducible refine mod_int' ?mA ?_); (case mA => walk_at "mine side"))
  k_with "m binaryOp Mult int int" => (k_here; (with_reducible refine mul_int ?_ ?mM); (case mM => first | exact Mine.mulOk_r (by omega) (by omega) | exact Mine.mulOk_l (by omega) (by omega) | exact Mine.mulOk_f (by with_reducible assumption) (by assumption)))
  k_with "m binaryOp Pow int int" => (k_here; (with_reducible refine pow_int_small (by decide) (by decide) (by decide) ?_))
  k_with "mine start" => (unfold Mine.Can; intros; refine wpAny_call ?_; k_dflt cell_enter)
  k_with "mine startC" => (unfold Mine.Can; intros; refine wpAny_call ?_; k_dflt ((refine' code_defC ?m16_1 ?m16_2 ?m16_3 ?m16_4 ?m16_5 ?m16_6 ?m16_7 ?m16_8 ?m16_9 ?m16_10 ?m16_11 ?m16_12 ?m16_13 ?m16_14 ?_ ?m16_16 ?m16_17 ?m16_18; (case m16_1 => k_asm); (case m16_2 => k_asm); (case m16_3 => k_asm); (case m16_4 => k_asm); (case m16_5 => k_asm); (case m16_6 => exact rfl); (case m16_7 => exact rfl); (case m16_8 => assumption); (case m16_9 => k_is); (case m16_10 => k_is); (case m16_11 => ktr_room); (case m16_12 => exact BindsTo.of_eq rfl); (case m16_13 => exact rfl); (case m16_14 => decide +kernel); (case m16_16 => exact rfl); (case m16_17 => exact rfl); (case m16_18 => exact rfl)); k_whole; intro g' L' h' tk' cells' FG' F' N' Y' B' X' T' l1; (try k_lt l1); k_cells Y'; (try simp only [List.cons_append, List.nil_append] at N'); (try dsimp only); (try k_lift B'); (try k_fold)))
  k_with "mine tidy" => (try simp only [decide_eq_true_eq, decide_eq_false_iff_not, beq_iff_eq, bne_iff_ne, ne_eq, Bool.not_eq_true, beq_eq_false_iff_ne, Decidable.not_not] at *)
  k_with "mine short" => first | omega | exact Mine.LInv.short (by with_reducible assumption) (by with_reducible assumption) | ((simp only [Mine.lst_length, List.length_map, List.length_append, List.length_cons, List.length_nil]); omega) | exact Nat.lt_of_le_of_lt (List.length_filter_le _ _) (by simp only [Mine.lst_length]; omega)
  k_with "m call builtin:len" => (k_here; (with_reducible show wpAny _ _ (call (Value.builtin _) [Value.ref _]) _ _ _); (with_unfolding_all ((refine' len_ints_fit ?m17_1 ?m17_2 ?m17_3 ?_; (case m17_1 => walk_at "mine list"); (case m17_2 => with_reducible assumption); (case m17_3 => walk_at "mine short")); k_whole)))
  k_with "mine pick" => first | exact Mine.Pick.head | (refine' Mine.Pick.tail ?mP; (case mP => walk_at "mine pick"))
  k_with "mine off" => first | assumption | exact List.forall_mem_nil _ | (refine List.forall_mem_cons.mpr ⟨?_, ?_⟩; (focus (first | k_ne | exact Mine.ne_tup (by k_asm) (by k_mem) (by k_mem) | (apply Ne.symm; assumption) | assumption)); walk_at "mine off")
  k_with "m subscriptTail" => (k_here; (with_reducible show wpAny _ _ (subscriptTail _ _ (Value.ref _) (Value.int _ _)) _ _ _); k_dflt (refine' Mine.menu ?mN ?mM ?mI ?mA ?mB ?mC ?_; (case mN => k_asm); (case mM => k_mem); (case mI => (repeat (first | exact PyProof.Rows.IntsAre.nil | apply PyProof.Rows.IntsAre.cons))); (case mA => omega); (case mB => ((simp only [List.length_cons, List.length_nil]); omega)); (case mC => omega); k_whole); intro v9 t9 hv9; (simp only [List.mem_cons, List.not_mem_nil, or_false] at hv9))
  k_with "mine list" => exact News.isList (by k_asm) (by k_mem)
  k_with "mine ints" => first | with_reducible assumption | l_ints
  k_with "mine eq" => first | with_reducible rfl | with_reducible assumption | exact Mine.mlst_none (by with_reducible assumption) | exact Mine.mlst_some (by with_reducible assumption) | exact (Mine.mlst_none (by with_reducible assumption)).trans (by with_reducible assumption) | exact (Mine.mlst_some (by with_reducible assumption)).trans (by with_reducible assumption)
  k_with "mine pred" => first | assumption | (simp only [*]; done) | (simp [*]; done)
  k_with "mine own" => first | assumption | (dsimp only; assumption) | ((try dsimp only); walk_at "mine pred")
  k_with "m call builtin:sorted" => (k_here; (with_reducible show wpAny _ _ (call (Value.builtin _) [Value.ref _]) _ _ _); (with_unfolding_all ((refine' Mine.sort_as ?m18_1 ?m18_2 ?m18_3 ?m18_4 ?m18_5 ?m18_6 ?_; (case m18_2 => k_asm); (case m18_3 => k_asm); (case m18_4 => walk_at "mine list"); (case m18_1 => assumption); (case m18_5 => with_reducible assumption); (case m18_6 => walk_at "mine short")); k_whole)); intro D9 v9 c9 h9 F9 N9 l9 i9; (try k_sweep); (try dsimp only); (try k_fold))
  k_with "m CompSrcT" => (k_here; k_dflt (refine' LCt.CompSrcT.ledger ?mA ?mF ?mN ?mM ?mZ ?_; (case mA => rfl); (case mF => k_asm); (case mN => k_asm); (case mM => k_mem); (case mZ => exact Mine.size_of (by with_reducible assumption) (by walk_at "mine short") (by walk_at "mine short")); intro g'; (refine' Mine.filt (by assumption) (by with_reducible assumption) (fun k' t' I' oI' C' oC' D' m' ys' h' tk' E' hk' hC' hx' F' N' off' ne' => ?_) ?_); rotate_left; (intro ys8 hI8); rotate_right; all_goals (try k_fold)))
  k_with "m CompEnd" => k_dflt (refine' Mine.end_el ?m19_1 ?m19_2 ?m19_3 ?m19_4 ?m19_5 ?m19_6; (case m19_1 => k_asm); (case m19_2 => k_asm); (case m19_4 => assumption); (case m19_5 => lcg_src); (case m19_6 => walk_at "mine own"); (case m19_3 => kcf_all))
  k_with "mine I" => (unfold Mine.RetI; intro t9 h9 tk9 F9 N9)
  k_with "mine B" => (unfold Mine.RetB; intro h9 tk9 F9 N9)
  k_with "mine O" => (unfold Mine.RetO; (refine ⟨?_, ?_⟩); (intro h9 tk9 e9 F9 N9); rotate_left; (intro y9 t9 h9 tk9 e9 F9 N9); rotate_right)
  k_with "mine P" => (unfold Mine.RetP; (refine ⟨?_, ?_⟩); (intro h9 tk9 e9 F9 N9); rotate_left; (intro x9 y9 z9 D9 a9 b9 c9 n9 h9 tk9 e9 F9 N9); rotate_right)
  k_with "mine T" => (unfold Mine.RetT; intro D9 a9 b9 c9 n9 h9 tk9 F9 N9)
  k_with "mine T2" => (unfold Mine.RetT2; intro D9 a9 b9 n9 h9 tk9 F9 N9)
  k_with "mine E" => (unfold Mine.RetE; (refine ⟨?_, ?_⟩); (intro h9 tk9 e9 F9 N9); rotate_left; (intro x9 y9 z9 D9 a9 b9 c9 n9 h9 tk9 e9 F9 N9); rotate_right)
  k_with "mine G" => (unfold Mine.RetG; intro x9 m9 o9 t9 a9 b9 c9 h9 tk9 g1 g2 g3 g4 g5 F9 N9)
  k_with "mine L" => (unfold Mine.RetL; intro D9 vs9 c9 h9 tk9 I9 F9 N9 l9)
  k_with "mine endO" => (refine' Mine.RetO.some ?m20_1 ?_ ?m20_3 ?m20_4 ?m20_5; (case m20_1 => assumption); (case m20_3 => k_asm); (case m20_4 => k_asm); (case m20_5 => (intro p hp; repeat (first | exact hp | (refine List.Mem.tail _ ?_)))))
  k_with "mine endP" => (refine' Mine.RetP.some ?m21_1 ?_ ?m21_3 ?m21_4 ?m21_5 ?m21_6; (case m21_1 => assumption); (case m21_3 => k_asm); (case m21_4 => k_asm); (case m21_5 => k_mem); (case m21_6 => (intro p hp; repeat (first | exact hp | (refine List.Mem.tail _ ?_)))))
  k_with "mine endE" => (refine' Mine.RetE.none ?m22_1 ?m22_2 ?m22_3 ?m22_4 ?_; (case m22_1 => assumption); (case m22_2 => k_asm); (case m22_3 => k_asm); (case m22_4 => (intro p hp; repeat (first | exact hp | (refine List.Mem.tail _ ?_)))))
  k_with "m subscriptTail Name Constant ref int" => (k_here; (with_reducible show wpAny _ _ (subscriptTail _ _ (Value.ref _) (Value.int 1 _)) _ _ _); k_dflt ((refine' Mine.item1 ?m23_1 ?m23_2 ?_; (case m23_1 => k_asm); (case m23_2 => k_mem)); k_whole))
  k_with "m CompEnd" => k_dflt (refine' Mine.end_no ?m24_1 ?m24_2 ?m24_3 ?m24_4 ?m24_5 ?m24_6; (case m24_1 => k_asm); (case m24_2 => k_asm); (case m24_4 => assumption); (case m24_5 => lcg_src); (case m24_6 => walk_at "mine own"); (case m24_3 => kcf_all))
  k_with "m subscriptTail Name Constant ref int" => (k_here; (with_reducible show wpAny _ _ (subscriptTail _ _ (Value.ref _) (Value.int 2 _)) _ _ _); k_dflt ((refine' Mine.item2 ?m25_1 ?m25_2 ?_; (case m25_1 => k_asm); (case m25_2 => k_mem)); k_whole))
  k_with "mine L2" => (unfold Mine.RetL; intro D9 vs9 c9 h9 tk9 I9 F9 N9 l9; (have q8 := PyProof.Rows.IntsAre.length I9))
  trivial
namespace Mine
set_option maxHeartbeats 8000000 in
theorem count_of {w : World} {D : Addr} {f st l : Int} {t1 t2 t3 : Tok} {n : Nat} {news : List (Addr × Obj)} (hm : (D, T3 f st l t1 t2 t3 n) ∈ news) (hst : st ≠ 0) (hs1 : -1000 < st) (hs2 : st < 1000) :
    Can w 1 8 news 126 [.ref D] (RetI news (cnt f st l)) := by
  walk_at "mine start"
  k_steps
  all_goals walk_at "mine endI"
  all_goals (try simp only [decide_eq_true_eq, decide_eq_false_iff_not] at *)
  all_goals (unfold cnt; simp only [*, if_true, if_false])
end Mine
theorem Mine.words3 : True := by
  k_with "m call ref" => (k_here; (with_reducible show wpAny _ _ (call (Value.ref 126) _) _ _ _); k_dflt ((refine' Mine.Can.use ?u26k1 ?u26k2 ?u26k3 ?u26k4 ?u26k5 ?u26kK (Mine.count_of ?m26_1 ?m26_2 ?m26_3 ?m26_4) ?u26kd ?u26ku ?_); (case u26k1 => k_asm); (case u26k2 => k_asm); (case u26k3 => k_asm); (case u26k4 => k_asm); (case u26k5 => k_asm); (case u26kK => first | exact rfl | assumption); (case m26_1 => k_mem); (case m26_2 => walk_at "mine side"); (case m26_3 => walk_at "mine side"); (case m26_4 => walk_at "mine side"); (case u26kd => ktr_room); (case u26ku => ktr_units); walk_at "mine I"); all_goals ((try k_sweep); (try dsimp only); (try k_fold)))
  trivial
namespace Mine
set_option maxHeartbeats 8000000 in
theorem last_met {w : World} {D : Addr} {f st l : Int} {t1 t2 t3 : Tok} {n : Nat} {news : List (Addr × Obj)} (hm : (D, T3 f st l t1 t2 t3 n) ∈ news) (hst : st ≠ 0) (hs1 : -1000 < st) (hs2 : st < 1000) :
    Can w 2 16 news 140 [.ref D] (RetI news (lastM f st l)) := by
  walk_at "mine start"
  k_steps
  all_goals walk_at "mine endI"
  all_goals walk_at "mine tidy"
  all_goals (unfold lastM; simp only [*, if_true, if_false])
end Mine
theorem Mine.words4 : True := by
  k_with "m call ref" => (k_here; (with_reducible show wpAny _ _ (call (Value.ref 140) _) _ _ _); k_dflt ((refine' Mine.Can.use ?u27k1 ?u27k2 ?u27k3 ?u27k4 ?u27k5 ?u27kK (Mine.last_met ?m27_1 ?m27_2 ?m27_3 ?m27_4) ?u27kd ?u27ku ?_); (case u27k1 => k_asm); (case u27k2 => k_asm); (case u27k3 => k_asm); (case u27k4 => k_asm); (case u27k5 => k_asm); (case u27kK => first | exact rfl | assumption); (case m27_1 => k_mem); (case m27_2 => walk_at "mine side"); (case m27_3 => walk_at "mine side"); (case m27_4 => walk_at "mine side"); (case u27kd => ktr_room); (case u27ku => ktr_units); walk_at "mine I"); all_goals ((try k_sweep); (try dsimp only); (try k_fold)))
  trivial
namespace Mine
set_option maxHeartbeats 8000000 in
theorem neat {w : World} {D : Addr} {f st l : Int} {t1 t2 t3 : Tok} {n : Nat} {news : List (Addr × Obj)} (hm : (D, T3 f st l t1 t2 t3 n) ∈ news) (hst : st ≠ 0) (hs1 : -1000 < st) (hs2 : st < 1000) :
    Can w 3 24 news 147 [.ref D] (RetT news f st (lastM f st l)) := by
  walk_at "mine start"
  k_steps
  all_goals walk_at "mine endT"
  all_goals rfl
end Mine
theorem Mine.words5 : True := by
  k_with "m call ref" => (k_here; (with_reducible show wpAny _ _ (call (Value.ref 147) _) _ _ _); k_dflt ((refine' Mine.Can.use ?u28k1 ?u28k2 ?u28k3 ?u28k4 ?u28k5 ?u28kK (Mine.neat ?m28_1 ?m28_2 ?m28_3 ?m28_4) ?u28kd ?u28ku ?_); (case u28k1 => k_asm); (case u28k2 => k_asm); (case u28k3 => k_asm); (case u28k4 => k_asm); (case u28k5 => k_asm); (case u28kK => first | exact rfl | assumption); (case m28_1 => k_mem); (case m28_2 => walk_at "mine side"); (case m28_3 => walk_at "mine side"); (case m28_4 => walk_at "mine side"); (case u28kd => ktr_room); (case u28ku => ktr_units); walk_at "mine T"); all_goals ((try k_sweep); (try dsimp only); (try k_fold)))
  trivial
namespace Mine
set_option maxHeartbeats 8000000 in
theorem range_at {w : World} {D : Addr} {f st l : Int} {t1 t2 t3 : Tok} {n : Nat} {news : List (Addr × Obj)} {i : Int} {u : Tok} (hm : (D, T3 f st l t1 t2 t3 n) ∈ news) (hst : st ≠ 0) (hs1 : -1000 < st) (hs2 : st < 1000) :
    Can w 2 16 news 154 [.ref D, .int i u] (RetO news (rangeAt f st l i)) := by
  walk_at "mine start"
  k_steps
  all_goals walk_at "mine endO"
  all_goals walk_at "mine tidy"
  all_goals (unfold rangeAt; simp only [*, if_true, if_false])
end Mine
theorem Mine.words6 : True := by
  k_with "m call ref" => (k_here; (with_reducible show wpAny _ _ (call (Value.ref 154) _) _ _ _); k_dflt ((refine' Mine.Can.use ?u29k1 ?u29k2 ?u29k3 ?u29k4 ?u29k5 ?u29kK (Mine.range_at ?m29_1 ?m29_2 ?m29_3 ?m29_4) ?u29kd ?u29ku ?_); (case u29k1 => k_asm); (case u29k2 => k_asm); (case u29k3 => k_asm); (case u29k4 => k_asm); (case u29k5 => k_asm); (case u29kK => first | exact rfl | assumption); (case m29_1 => k_mem); (case m29_2 => walk_at "mine side"); (case m29_3 => walk_at "mine side"); (case m29_4 => walk_at "mine side"); (case u29kd => ktr_room); (case u29ku => ktr_units); walk_at "mine O"); all_goals ((try k_sweep); (try dsimp only); (try k_fold)))
  trivial
namespace Mine
set_option maxHeartbeats 8000000 in
theorem index_of_number {w : World} {D : Addr} {f st l : Int} {t1 t2 t3 : Tok} {n : Nat} {news : List (Addr × Obj)} {x : Int} {u : Tok} (hm : (D, T3 f st l t1 t2 t3 n) ∈ news) (hst : st ≠ 0) (hs1 : -1000 < st) (hs2 : st < 1000) :
    Can w 2 16 news 168 [.ref D, .int x u] (RetO news (indexOf f st l x)) := by
  walk_at "mine start"
  k_steps
  all_goals walk_at "mine endO"
  all_goals walk_at "mine tidy"
  all_goals (unfold indexOf; simp only [*, if_true, if_false])
end Mine
theorem Mine.words7 : True := by
  k_with "m call ref" => (k_here; (with_reducible show wpAny _ _ (call (Value.ref 168) _) _ _ _); k_dflt ((refine' Mine.Can.use ?u30k1 ?u30k2 ?u30k3 ?u30k4 ?u30k5 ?u30kK (Mine.index_of_number ?m30_1 ?m30_2 ?m30_3 ?m30_4) ?u30kd ?u30ku ?_); (case u30k1 => k_asm); (case u30k2 => k_asm); (case u30k3 => k_asm); (case u30k4 => k_asm); (case u30k5 => k_asm); (case u30kK => first | exact rfl | assumption); (case m30_1 => k_mem); (case m30_2 => walk_at "mine side"); (case m30_3 => walk_at "mine side"); (case m30_4 => walk_at "mine side"); (case u30kd => ktr_room); (case u30ku => ktr_units); walk_at "mine O"); all_goals ((try k_sweep); (try dsimp only); (try k_fold)))
  trivial
namespace Mine
set_option maxHeartbeats 8000000 in
theorem range_has {w : World} {D : Addr} {f st l : Int} {t1 t2 t3 : Tok} {n : Nat} {news : List (Addr × Obj)} {x : Int} {u : Tok} (hm : (D, T3 f st l t1 t2 t3 n) ∈ news) (hst : st ≠ 0) (hs1 : -1000 < st) (hs2 : st < 1000) :
    Can w 3 24 news 161 [.ref D, .int x u] (RetB news (indexOf f st l x).isSome) := by
  walk_at "mine start"
  k_steps
  all_goals walk_at "mine endB"
  all_goals walk_at "mine tidy"
  all_goals (simp only [*]; first | rfl | simp)
end Mine
theorem Mine.words8 : True := by
  k_with "m call ref" => (k_here; (with_reducible show wpAny _ _ (call (Value.ref 161) _) _ _ _); k_dflt ((refine' Mine.Can.use ?u31k1 ?u31k2 ?u31k3 ?u31k4 ?u31k5 ?u31kK (Mine.range_has ?m31_1 ?m31_2 ?m31_3 ?m31_4) ?u31kd ?u31ku ?_); (case u31k1 => k_asm); (case u31k2 => k_asm); (case u31k3 => k_asm); (case u31k4 => k_asm); (case u31k5 => k_asm); (case u31kK => first | exact rfl | assumption); (case m31_1 => k_mem); (case m31_2 => walk_at "mine side"); (case m31_3 => walk_at "mine side"); (case m31_4 => walk_at "mine side"); (case u31kd => ktr_room); (case u31ku => ktr_units); walk_at "mine B"); all_goals ((try k_sweep); (try dsimp only); (try k_fold)))
  trivial
namespace Mine
set_option maxHeartbeats 8000000 in
theorem backwards {w : World} {D : Addr} {f st l : Int} {t1 t2 t3 : Tok} {n : Nat} {news : List (Addr × Obj)} (hm : (D, T3 f st l t1 t2 t3 n) ∈ news) (hst : st ≠ 0) (hs1 : -1000 < st) (hs2 : st < 1000) :
    Can w 3 24 news 180 [.ref D] (RetT news (back1 f st l) (back2 f st l) (back3 f st l)) := by
  walk_at "mine start"
  k_steps
  all_goals walk_at "mine endT"
  all_goals walk_at "mine tidy"
  all_goals (first | unfold back1 | unfold back2 | unfold back3)
  all_goals simp only [*, if_true, if_false]
end Mine
theorem Mine.words9 : True := by
  k_with "m call ref" => (k_here; (with_reducible show wpAny _ _ (call (Value.ref 180) _) _ _ _); k_dflt ((refine' Mine.Can.use ?u32k1 ?u32k2 ?u32k3 ?u32k4 ?u32k5 ?u32kK (Mine.backwards ?m32_1 ?m32_2 ?m32_3 ?m32_4) ?u32kd ?u32ku ?_); (case u32k1 => k_asm); (case u32k2 => k_asm); (case u32k3 => k_asm); (case u32k4 => k_asm); (case u32k5 => k_asm); (case u32kK => first | exact rfl | assumption); (case m32_1 => k_mem); (case m32_2 => walk_at "mine side"); (case m32_3 => walk_at "mine side"); (case m32_4 => walk_at "mine side"); (case u32kd => ktr_room); (case u32ku => ktr_units); walk_at "mine T"); all_goals ((try k_sweep); (try dsimp only); (try k_fold)))
  trivial
namespace Mine
set_option maxHeartbeats 8000000 in
theorem moved_by {w : World} {D : Addr} {f st l : Int} {t1 t2 t3 : Tok} {n : Nat} {news : List (Addr × Obj)} {x : Int} {u : Tok} (hm : (D, T3 f st l t1 t2 t3 n) ∈ news) :
    Can w 1 8 news 187 [.ref D, .int x u] (RetT news (f + x) st (l + x)) := by
  walk_at "mine start"
  k_steps
  all_goals walk_at "mine endT"
  all_goals walk_at "mine tidy"
  all_goals rfl
end Mine
theorem Mine.words10 : True := by
  k_with "m call ref" => (k_here; (with_reducible show wpAny _ _ (call (Value.ref 187) _) _ _ _); k_dflt ((refine' Mine.Can.use ?u33k1 ?u33k2 ?u33k3 ?u33k4 ?u33k5 ?u33kK (Mine.moved_by ?m33_1) ?u33kd ?u33ku ?_); (case u33k1 => k_asm); (case u33k2 => k_asm); (case u33k3 => k_asm); (case u33k4 => k_asm); (case u33k5 => k_asm); (case u33kK => first | exact rfl | assumption); (case m33_1 => k_mem); (case u33kd => ktr_room); (case u33ku => ktr_units); walk_at "mine T"); all_goals ((try k_sweep); (try dsimp only); (try k_fold)))
  trivial
namespace Mine
set_option maxHeartbeats 8000000 in
theorem times_number {w : World} {D : Addr} {f st l : Int} {t1 t2 t3 : Tok} {n : Nat} {news : List (Addr × Obj)} {x : Int} {u : Tok} (hm : (D, T3 f st l t1 t2 t3 n) ∈ news) (hst : st ≠ 0) (hs1 : -1000 < st) (hs2 : st < 1000) (hx1 : -1000 < x) (hx2 : x < 1000) :
    Can w 4 32 news 194 [.ref D, .int x u] (RetT news (f * x) (st * x) (times3 f st l x)) := by
  walk_at "mine start"
  k_steps
  all_goals walk_at "mine endT"
  all_goals walk_at "mine tidy"
  all_goals (first | rfl | (unfold times3; simp only [*, if_true, if_false]))
end Mine
theorem Mine.words11 : True := by
  k_with "m call ref" => (k_here; (with_reducible show wpAny _ _ (call (Value.ref 194) _) _ _ _); k_dflt ((refine' Mine.Can.use ?u34k1 ?u34k2 ?u34k3 ?u34k4 ?u34k5 ?u34kK (Mine.times_number ?m34_1 ?m34_2 ?m34_3 ?m34_4 ?m34_5 ?m34_6) ?u34kd ?u34ku ?_); (case u34k1 => k_asm); (case u34k2 => k_asm); (case u34k3 => k_asm); (case u34k4 => k_asm); (case u34k5 => k_asm); (case u34kK => first | exact rfl | assumption); (case m34_1 => k_mem); (case m34_2 => walk_at "mine side"); (case m34_3 => walk_at "mine side"); (case m34_4 => walk_at "mine side"); (case m34_5 => walk_at "mine side"); (case m34_6 => walk_at "mine side"); (case u34kd => ktr_room); (case u34ku => ktr_units); walk_at "mine T"); all_goals ((try k_sweep); (try dsimp only); (try k_fold)))
  trivial
namespace Mine
set_option maxHeartbeats 8000000 in
theorem picked {w : World} {D : Addr} {f st l : Int} {t1 t2 t3 : Tok} {n : Nat} {news : List (Addr × Obj)} {D2 : Addr} {a b c : Int} {u1 u2 u3 : Tok} {k : Nat} (hm : (D, T3 f st l t1 t2 t3 n) ∈ news) (hst : st ≠ 0) (hs1 : -1000 < st) (hs2 : st < 1000) (hm2 : (D2, T3 a b c u1 u2 u3 k) ∈ news) (hb : b ≠ 0) (hb1 : -1000 < b) (hb2 : b < 1000) :
    Can w 4 32 news 201 [.ref D, .ref D2] (RetP news (pick f st l a b c)) := by
  walk_at "mine start"
  k_steps
  all_goals walk_at "mine endP"
  all_goals walk_at "mine tidy"
  all_goals (unfold pick; simp only [*, if_true, if_false])
end Mine
theorem Mine.words12 : True := by
  k_with "m call ref" => (k_here; (with_reducible show wpAny _ _ (call (Value.ref 201) _) _ _ _); k_dflt ((refine' Mine.Can.use ?u35k1 ?u35k2 ?u35k3 ?u35k4 ?u35k5 ?u35kK (Mine.picked ?m35_1 ?m35_2 ?m35_3 ?m35_4 ?m35_5 ?m35_6 ?m35_7 ?m35_8) ?u35kd ?u35ku ?_); (case u35k1 => k_asm); (case u35k2 => k_asm); (case u35k3 => k_asm); (case u35k4 => k_asm); (case u35k5 => k_asm); (case u35kK => first | exact rfl | assumption); (case m35_1 => k_mem); (case m35_5 => k_mem); (case m35_2 => walk_at "mine side"); (case m35_3 => walk_at "mine side"); (case m35_4 => walk_at "mine side"); (case m35_6 => walk_at "mine side"); (case m35_7 => walk_at "mine side"); (case m35_8 => walk_at "mine side"); (case u35kd => ktr_room); (case u35ku => ktr_units); walk_at "mine P"); all_goals ((try k_sweep); (try dsimp only); (try k_fold)))
  trivial
namespace Mine
set_option maxHeartbeats 8000000 in
theorem upwards {w : World} {D : Addr} {f st l : Int} {t1 t2 t3 : Tok} {n : Nat} {news : List (Addr × Obj)} (hm : (D, T3 f st l t1 t2 t3 n) ∈ news) (hst : st ≠ 0) (hs1 : -1000 < st) (hs2 : st < 1000) :
    Can w 4 32 news 208 [.ref D] (RetT news (up1 f st l) (up2 f st l) (up3 f st l)) := by
  walk_at "mine start"
  k_steps
  all_goals walk_at "mine endT"
  all_goals walk_at "mine tidy"
  all_goals (first | unfold up1 | unfold up2 | unfold up3)
  all_goals simp only [*, if_true, if_false]
end Mine
theorem Mine.words13 : True := by
  k_with "m call ref" => (k_here; (with_reducible show wpAny _ _ (call (Value.ref 208) _) _ _ _); k_dflt ((refine' Mine.Can.use ?u36k1 ?u36k2 ?u36k3 ?u36k4 ?u36k5 ?u36kK (Mine.upwards ?m36_1 ?m36_2 ?m36_3 ?m36_4) ?u36kd ?u36ku ?_); (case u36k1 => k_asm); (case u36k2 => k_asm); (case u36k3 => k_asm); (case u36k4 => k_asm); (case u36k5 => k_asm); (case u36kK => first | exact rfl | assumption); (case m36_1 => k_mem); (case m36_2 => walk_at "mine side"); (case m36_3 => walk_at "mine side"); (case m36_4 => walk_at "mine side"); (case u36kd => ktr_room); (case u36ku => ktr_units); walk_at "mine T"); all_goals ((try k_sweep); (try dsimp only); (try k_fold)))
  trivial
namespace Mine
set_option maxHeartbeats 8000000 in
theorem total_of {w : World} {D : Addr} {f st l : Int} {t1 t2 t3 : Tok} {n : Nat} {news : List (Addr × Obj)} (hm : (D, T3 f st l t1 t2 t3 n) ∈ news) (hst : st ≠ 0) (hs1 : -1000 < st) (hs2 : st < 1000) (hc : cnt f st l < 1000000) :
    Can w 2 16 news 215 [.ref D] (RetI news (total f st l)) := by
  have hc0 := cnt_nonneg f st l
  walk_at "mine start"
  k_steps
  all_goals walk_at "mine endI"
  all_goals walk_at "mine tidy"
  all_goals rfl
end Mine
theorem Mine.words14 : True := by
  k_with "m call ref" => (k_here; (with_reducible show wpAny _ _ (call (Value.ref 215) _) _ _ _); k_dflt ((refine' Mine.Can.use ?u37k1 ?u37k2 ?u37k3 ?u37k4 ?u37k5 ?u37kK (Mine.total_of ?m37_1 ?m37_2 ?m37_3 ?m37_4 ?m37_5) ?u37kd ?u37ku ?_); (case u37k1 => k_asm); (case u37k2 => k_asm); (case u37k3 => k_asm); (case u37k4 => k_asm); (case u37k5 => k_asm); (case u37kK => first | exact rfl | assumption); (case m37_1 => k_mem); (case m37_2 => walk_at "mine side"); (case m37_3 => walk_at "mine side"); (case m37_4 => walk_at "mine side"); (case m37_5 => walk_at "mine side"); (case u37kd => ktr_room); (case u37ku => ktr_units); walk_at "mine I"); all_goals ((try k_sweep); (try dsimp only); (try k_fold)))
  trivial
namespace Mine
set_option maxHeartbeats 8000000 in
theorem is_same_range {w : World} {D : Addr} {f st l : Int} {t1 t2 t3 : Tok} {n : Nat} {news : List (Addr × Obj)} {D2 : Addr} {a b c : Int} {u1 u2 u3 : Tok} {k : Nat} (hm : (D, T3 f st l t1 t2 t3 n) ∈ news) (hst : st ≠ 0) (hs1 : -1000 < st) (hs2 : st < 1000) (hm2 : (D2, T3 a b c u1 u2 u3 k) ∈ news) (hb : b ≠ 0) (hb1 : -1000 < b) (hb2 : b < 1000) :
    Can w 2 16 news 236 [.ref D, .ref D2] (RetB news (same f st l a b c)) := by
  walk_at "mine start"
  k_steps
  all_goals walk_at "mine endB"
  all_goals walk_at "mine tidy"
  all_goals (unfold same; first | (simp only [*, if_true, if_false]; done) | (simp only [*, if_true, if_false]; simp; done) | (simp [*]; done) | (simp only [*, if_true, if_false]; simp [*]; done) | (simp_all; done))
end Mine
theorem Mine.words15 : True := by
  k_with "m call ref" => (k_here; (with_reducible show wpAny _ _ (call (Value.ref 236) _) _ _ _); k_dflt ((refine' Mine.Can.use ?u38k1 ?u38k2 ?u38k3 ?u38k4 ?u38k5 ?u38kK (Mine.is_same_range ?m38_1 ?m38_2 ?m38_3 ?m38_4 ?m38_5 ?m38_6 ?m38_7 ?m38_8) ?u38kd ?u38ku ?_); (case u38k1 => k_asm); (case u38k2 => k_asm); (case u38k3 => k_asm); (case u38k4 => k_asm); (case u38k5 => k_asm); (case u38kK => first | exact rfl | assumption); (case m38_1 => k_mem); (case m38_5 => k_mem); (case m38_2 => walk_at "mine side"); (case m38_3 => walk_at "mine side"); (case m38_4 => walk_at "mine side"); (case m38_6 => walk_at "mine side"); (case m38_7 => walk_at "mine side"); (case m38_8 => walk_at "mine side"); (case u38kd => ktr_room); (case u38ku => ktr_units); walk_at "mine B"); all_goals ((try k_sweep); (try dsimp only); (try k_fold)))
  trivial
namespace Mine
set_option maxHeartbeats 8000000 in
theorem law_list {w : World} {D : Addr} {f st l : Int} {t1 t2 t3 : Tok} {n : Nat} {news : List (Addr × Obj)} (hm : (D, T3 f st l t1 t2 t3 n) ∈ news) (hst : st ≠ 0) (hs1 : -1000 < st) (hs2 : st < 1000) (hc : cnt f st l < 70) :
    Can w 1 8 news 264 [.ref D] (RetL news (lst f st l)) := by
  k_with "exec While BoolOp cons nil" => k_while (fun _ here found => LInv f st l here found) (fun _ here found => 70 - found.length) "here" "found"
  k_with "state" => first | exact LInv.zero f st l | exact LInv.nx1 (by assumption) (by assumption) (by assumption) | exact LInv.nx2 hst (by assumption) (by assumption) (by assumption)
  k_with "measure" => exact meas70 (LInv.short' (by assumption) hc)
  walk_at "mine start"
  k_steps
  all_goals walk_at "mine endL"
  all_goals walk_at "mine tidy"
  all_goals first | exact LInv.end1 (by assumption) (by assumption) (by assumption) | exact LInv.end2 hst (by assumption) (by assumption) (by assumption) | exact LInv.end3 (by assumption) hc (by assumption)
end Mine
theorem Mine.words16 : True := by
  k_with "m call ref" => (k_here; (with_reducible show wpAny _ _ (call (Value.ref 264) _) _ _ _); k_dflt ((refine' Mine.Can.use ?u39k1 ?u39k2 ?u39k3 ?u39k4 ?u39k5 ?u39kK (Mine.law_list ?m39_1 ?m39_2 ?m39_3 ?m39_4 ?m39_5) ?u39kd ?u39ku ?_); (case u39k1 => k_asm); (case u39k2 => k_asm); (case u39k3 => k_asm); (case u39k4 => k_asm); (case u39k5 => k_asm); (case u39kK => first | exact rfl | assumption); (case m39_1 => k_mem); (case m39_2 => walk_at "mine side"); (case m39_3 => walk_at "mine side"); (case m39_4 => walk_at "mine side"); (case m39_5 => walk_at "mine side"); (case u39kd => ktr_room); (case u39ku => ktr_units); walk_at "mine L"); all_goals ((try k_sweep); (try dsimp only); (try k_fold)))
  trivial
theorem Mine.words17 : True := by
  k_with "m call type:range" => ((rename (¬ (_ : Int) < Mine.cnt _ _ _) => q9); simp only [if_neg q9]; clear q9)
  trivial
namespace Mine
set_option maxHeartbeats 8000000 in
theorem numbers_of {w : World} {D : Addr} {f st l : Int} {t1 t2 t3 : Tok} {n : Nat} {news : List (Addr × Obj)} {k : Int} {u : Tok} (hm : (D, T3 f st l t1 t2 t3 n) ∈ news) (hst : st ≠ 0) (hs1 : -1000 < st) (hs2 : st < 1000) (hc : cnt f st l < 70) (hk : 70 ≤ k) :
    Can w 2 16 news 173 [.ref D, .int k u] (RetL news (lst f st l)) := by
  have hc0 := cnt_nonneg f st l
  have hkc : ¬ k < cnt f st l := by omega
  walk_at "mine startC"
  k_steps
  all_goals walk_at "mine endL"
  all_goals exact lst_map f st l _ (by omega)
end Mine
theorem Mine.words18 : True := by
  k_with "m call ref" => (k_here; (with_reducible show wpAny _ _ (call (Value.ref 173) _) _ _ _); k_dflt ((refine' Mine.Can.use ?u40k1 ?u40k2 ?u40k3 ?u40k4 ?u40k5 ?u40kK (Mine.numbers_of ?m40_1 ?m40_2 ?m40_3 ?m40_4 ?m40_5 ?m40_6) ?u40kd ?u40ku ?_); (case u40k1 => k_asm); (case u40k2 => k_asm); (case u40k3 => k_asm); (case u40k4 => k_asm); (case u40k5 => k_asm); (case u40kK => first | exact rfl | assumption); (case m40_1 => k_mem); (case m40_2 => walk_at "mine side"); (case m40_3 => walk_at "mine side"); (case m40_4 => walk_at "mine side"); (case m40_5 => walk_at "mine side"); (case m40_6 => walk_at "mine side"); (case u40kd => ktr_room); (case u40ku => ktr_units); walk_at "mine L"); all_goals ((try k_sweep); (try dsimp only); (try k_fold)))
  trivial
namespace Mine
set_option maxHeartbeats 8000000 in
theorem bezout {w : World} {x y : Int} {u v : Tok} {news : List (Addr × Obj)} (h1 : 0 < x) (h2 : x < 10) (h3 : 0 < y) (h4 : y < 10) :
    Can w 1 8 news 222 [.int x u, .int y v] (RetT2 news (bezG x y) (bezT x y)) := by
  k_with "exec While Compare cons nil" => k_while (fun _ l r a b => BOk x y l r a b) (fun _ l r a b => r.toNat) "left" "right" "first" "second"
  k_with "state" => first | exact BOk.zero h1 h2 h3 h4 | exact BOk.next (by assumption) (by assumption)
  k_with "measure" => exact BOk.meas (by assumption) (by assumption)
  walk_at "mine start"
  k_steps
  all_goals walk_at "mine endT2"
  all_goals walk_at "mine tidy"
  all_goals first | exact (BOk.last (by assumption) (by assumption)).1 | exact (BOk.last (by assumption) (by assumption)).2
end Mine
theorem Mine.words19 : True := by
  k_with "m call ref" => (k_here; (with_reducible show wpAny _ _ (call (Value.ref 222) _) _ _ _); k_dflt ((refine' Mine.Can.use ?u41k1 ?u41k2 ?u41k3 ?u41k4 ?u41k5 ?u41kK (Mine.bezout ?m41_1 ?m41_2 ?m41_3 ?m41_4) ?u41kd ?u41ku ?_); (case u41k1 => k_asm); (case u41k2 => k_asm); (case u41k3 => k_asm); (case u41k4 => k_asm); (case u41k5 => k_asm); (case u41kK => first | exact rfl | assumption); (case m41_1 => walk_at "mine side"); (case m41_2 => walk_at "mine side"); (case m41_3 => walk_at "mine side"); (case m41_4 => walk_at "mine side"); (case u41kd => ktr_room); (case u41ku => ktr_units); walk_at "mine T2"); all_goals ((try k_sweep); (try dsimp only); (try k_fold)))
  trivial
namespace Mine
set_option maxHeartbeats 8000000 in
theorem met {w : World} {D : Addr} {f st l : Int} {t1 t2 t3 : Tok} {n : Nat} {news : List (Addr × Obj)} {D2 : Addr} {a b c : Int} {u1 u2 u3 : Tok} {k : Nat} (hm : (D, T3 f st l t1 t2 t3 n) ∈ news) (hst : st ≠ 0) (hs1 : -6 < st) (hs2 : st < 6)
    (hm2 : (D2, T3 a b c u1 u2 u3 k) ∈ news) (hb : b ≠ 0) (hb1 : -6 < b) (hb2 : b < 6) :
    Can w 6 48 news 229 [.ref D, .ref D2] (RetE news (metP f st l a b c)) := by
  have hA := up2_facts (f := f) (l := l) hst hs1 hs2
  have hB := up2_facts (f := a) (l := c) hb hb1 hb2
  have hAp := up2_pos (f := f) (l := l) hst
  have hBp := up2_pos (f := a) (l := c) hb
  have hG := fun h1 h3 => bez_facts (x := up2 f st l) (y := up2 a b c) h1 hA.2.2 h3 hB.2.2
  walk_at "mine start"
  k_steps
  all_goals walk_at "mine endE"
  all_goals walk_at "mine tidy"
  all_goals (unfold metP; simp only [*, if_true, if_false])
end Mine
theorem Mine.words20 : True := by
  k_with "m call ref" => (k_here; (with_reducible show wpAny _ _ (call (Value.ref 229) _) _ _ _); k_dflt ((refine' Mine.Can.use ?u42k1 ?u42k2 ?u42k3 ?u42k4 ?u42k5 ?u42kK (Mine.met ?m42_1 ?m42_2 ?m42_3 ?m42_4 ?m42_5 ?m42_6 ?m42_7 ?m42_8) ?u42kd ?u42ku ?_); (case u42k1 => k_asm); (case u42k2 => k_asm); (case u42k3 => k_asm); (case u42k4 => k_asm); (case u42k5 => k_asm); (case u42kK => first | exact rfl | assumption); (case m42_1 => k_mem); (case m42_5 => k_mem); (case m42_2 => walk_at "mine side"); (case m42_3 => walk_at "mine side"); (case m42_4 => walk_at "mine side"); (case m42_6 => walk_at "mine side"); (case m42_7 => walk_at "mine side"); (case m42_8 => walk_at "mine side"); (case u42kd => ktr_room); (case u42ku => ktr_units); walk_at "mine E"); all_goals ((try k_sweep); (try dsimp only); (try k_fold)))
  trivial
namespace Mine
set_option maxHeartbeats 8000000 in
theorem law_list_E {w : World} {news : List (Addr × Obj)} : Can w 1 8 news 264 [.ref 112] (RetL news []) := by
  walk_at "mine start"
  k_steps
  all_goals walk_at "mine endL"
  all_goals rfl
end Mine
theorem Mine.words21 : True := by
  k_with "m call ref" => (k_here; (with_reducible show wpAny _ _ (call (Value.ref 264) _) _ _ _); k_dflt ((refine' Mine.Can.use ?u43k1 ?u43k2 ?u43k3 ?u43k4 ?u43k5 ?u43kK Mine.law_list_E ?u43kd ?u43ku ?_); (case u43k1 => k_asm); (case u43k2 => k_asm); (case u43k3 => k_asm); (case u43k4 => k_asm); (case u43k5 => k_asm); (case u43kK => first | exact rfl | assumption); (case u43kd => ktr_room); (case u43ku => ktr_units); walk_at "mine L"); all_goals ((try k_sweep); (try dsimp only); (try k_fold)))
  trivial
theorem Mine.words22 : True := by
  k_with "m setItem ref int int" => (k_here; (with_reducible show wpAny _ _ (setItem (Value.ref _) (Value.int 0 _) (Value.int _ _)) _ _ _); k_dflt ((refine' Mine.mill_set0 ?m44_1 ?m44_2 ?m44_3 ?_; (case m44_1 => k_asm); (case m44_2 => k_asm); (case m44_3 => assumption)); k_whole); intro h9 F9 N9; (try k_sweep))
  k_with "m setItem ref int int" => (k_here; (with_reducible show wpAny _ _ (setItem (Value.ref _) (Value.int 1 _) (Value.int _ _)) _ _ _); k_dflt ((refine' Mine.mill_set1 ?m45_1 ?m45_2 ?m45_3 ?_; (case m45_1 => k_asm); (case m45_2 => k_asm); (case m45_3 => assumption)); k_whole); intro h9 F9 N9; (try k_sweep))
  trivial
namespace Mine
set_option maxHeartbeats 8000000 in
theorem law_grind {w : World} {M : Addr} {a b : Int} {t1 t2 : Tok} {c : Nat} {news : List (Addr × Obj)} {k : Int} {u : Tok} (hne : ∀ p ∈ news, p.1 ≠ M) (ha : 0 ≤ a) (hb : 0 ≤ b) (hb2 : b < 2147483399) (hk : 0 < k) (hk2 : k < 1000) :
    Can w 1 8 ((M, LO [.int a t1, .int b t2] c) :: news) 250 [.ref M, .int k u] (RetG M news k) := by
  walk_at "mine start"
  k_steps
  all_goals walk_at "mine endG"
  all_goals walk_at "mine tidy"
  all_goals first | assumption | exact Int.fmod_nonneg_of_pos _ hk | exact Int.fmod_lt_of_pos _ hk | exact Int.fdiv_nonneg ha (Int.le_of_lt hk) | exact Int.fmod_nonneg_of_pos _ (by decide) | exact Int.fmod_lt_of_pos _ (by decide)
end Mine
theorem Mine.words23 : True := by
  k_with "m call ref" => (k_here; (with_reducible show wpAny _ _ (call (Value.ref 250) _) _ _ _); k_dflt ((refine' Mine.Can.use ?u46k1 ?u46k2 ?u46k3 ?u46k4 ?u46k5 ?u46kK (Mine.law_grind ?m46_1 ?m46_2 ?m46_3 ?m46_4 ?m46_5 ?m46_6) ?u46kd ?u46ku ?_); (case u46k1 => k_asm); (case u46k2 => k_asm); (case u46k3 => k_asm); (case u46k4 => exact Mine.Pick.news (by k_asm) (by walk_at "mine pick")); (case u46k5 => k_asm); (case u46kK => first | exact rfl | assumption); (case m46_1 => walk_at "mine off"); (case m46_2 => walk_at "mine side"); (case m46_3 => walk_at "mine side"); (case m46_4 => walk_at "mine side"); (case m46_5 => walk_at "mine side"); (case m46_6 => walk_at "mine side"); (case u46kd => ktr_room); (case u46ku => ktr_units); walk_at "mine G"); all_goals ((try k_sweep); (try dsimp only); (try k_fold)))
  trivial
namespace Mine
set_option maxHeartbeats 8000000 in
theorem law_row {w : World} {M : Addr} {a b : Int} {t1 t2 : Tok} {c : Nat} {news : List (Addr × Obj)} (hne : ∀ p ∈ news, p.1 ≠ M) (ha : 0 ≤ a) (hb : 0 ≤ b) (hb2 : b < 2147483399) :
    Can w 2 16 ((M, LO [.int a t1, .int b t2] c) :: news) 257 [.ref M] (RetR M news) := by
  walk_at "mine start"
  k_steps
  all_goals walk_at "mine endR"
  all_goals first | assumption | (unfold RowOk; omega)
end Mine
namespace Mine
set_option maxHeartbeats 8000000 in
theorem law_mill {w : World} {l : Addr} {lv : List Value} {ns : List Int} {news : List (Addr × Obj)} (hi : IntsAre lv ns) (hn : ns.length ≤ 63) :
    CanS w 1 8 l lv news 243 [.ref l] (RetM news) := by
  unfold CanS
  intros
  refine wpAny_call ?_
  k_dflt cell_enter
  k_steps
  all_goals walk_at "mine endM"
  all_goals walk_at "mine tidy"
  all_goals first | exact Int.fmod_nonneg_of_pos _ (by decide) | exact Int.fmod_lt_of_pos _ (by decide) | omega
end Mine
theorem Mine.words24 : True := by
  k_with "mine side" => first | assumption | (first | apply Mine.met_s1 | apply Mine.met_s2 | apply Mine.met_s3 | apply Mine.met_s4) <;> (with_reducible assumption) | omega
  trivial
namespace Mine
set_option maxHeartbeats 8000000 in
theorem law_met_right {w : World} {D : Addr} {f st l : Int} {t1 t2 t3 : Tok} {n : Nat} {news : List (Addr × Obj)} {D2 : Addr} {a b c : Int} {u1 u2 u3 : Tok} {k : Nat} (hm : (D, T3 f st l t1 t2 t3 n) ∈ news)
    (hm2 : (D2, T3 a b c u1 u2 u3 k) ∈ news) (hO : Ok6 f st l) (hP : Ok6 a b c) :
    Can w 7 200 news 286 [.ref D, .ref D2] (RetB news true) := by
  obtain ⟨hst, hs1, hs2, hc⟩ := id hO
  obtain ⟨hb, hb1, hb2, hc2⟩ := id hP
  have hp : PredIs (fun x => (lst a b c).any (· == x)) := ⟨⟩
  have hT : SortTo ((lst f st l).filter (fun x => (lst a b c).any (· == x))) (mlst f st l a b c) := met_sort hO hP
  have hS : mlst a b c f st l = mlst f st l a b c := met_comm hO hP
  walk_at "mine startC"
  k_steps
  all_goals walk_at "mine endB"
  all_goals rfl
end Mine
namespace Mine
section
open PySem.Spec PySem.SeqAt PySem.Calls
theorem index_in {w : World} {A : Around} {E : Value → Shared → Prop} {s : Shared} {l : Addr} {vs : List Value} {ns : List Int} {k : Int} {t : Tok} {Q : Value → Shared → Prop} (hl : s.heap.IsList l vs.toArray) (hi : IntsAre vs ns)
    (hb : ns.length < 1000000) (hk : k ∈ ns) (h : Q (.int (ns.idxOf k : Nat) s.toks) { s with toks := s.toks + 1 }) : wpAny (model prog w) A (call (.builtin "list.index") [.ref l, .int k t]) Q E s := by
  obtain ⟨⟨cls, dd, data, sl⟩, ho, hc, n, hd⟩ := id hl
  dsimp only at hc hd
  subst hc hd
  have e := hi.length
  have hj : ns.idxOf k < ns.length := List.idxOf_lt_length_iff.mpr hk
  have look := list_indexAt l vs.toArray n dd sl (.int k t) (isInt k) (ns.idxOf k) (by simpa [e] using hj) (by omega)
    (by show isInt k vs[ns.idxOf k] = true; rw [isInt_at k hi _ (by omega) hj]; simpa using List.getElem_idxOf hj)
    (by intro j hjs hlt; show isInt k vs[j] = false; rw [isInt_at k hi j (by simpa using hjs) (by omega)]; exact ne_of_lt_idxOf hlt _)
  exact call_meets PySem.F.slot_list_index ⟨_, ho, rfl⟩ PySem.F.entry_list_index (PySem.F.args_list_index_2 _ _) look ⟨ho, fun y hy => (eq_isInt k t hi y (by simpa using hy)).at _ _, h⟩
/-- ints and Nones -/
inductive OptsAre : List Value → List (Option Int) → Prop
  | nil : OptsAre [] []
  | none {vs : List Value} {os : List (Option Int)} : OptsAre vs os → OptsAre (.none :: vs) (Option.none :: os)
  | int (x : Int) (t : Tok) {vs : List Value} {os : List (Option Int)} : OptsAre vs os → OptsAre (.int x t :: vs) (Option.some x :: os)
theorem OptsAre.append : ∀ {vs us : List Value} {os ps : List (Option Int)}, OptsAre vs os → OptsAre us ps → OptsAre (vs ++ us) (os ++ ps)
  | _, _, _, _, .nil, h => h
  | _, _, _, _, .none r, h => .none (r.append h)
  | _, _, _, _, .int x t r, h => .int x t (r.append h)
theorem OptsAre.length : ∀ {vs : List Value} {os : List (Option Int)}, OptsAre vs os → vs.length = os.length
  | _, _, .nil => rfl
  | _, _, .none r => congrArg Nat.succ r.length
  | _, _, .int _ _ r => congrArg Nat.succ r.length
theorem OptsAre.of_ints : ∀ {vs : List Value} {ns : List Int}, IntsAre vs ns → OptsAre vs (ns.map Option.some)
  | _, _, .nil => .nil
  | _, _, .cons x t r => .int x t (of_ints r)
def optD : Option Int → PyData
  | Option.none => .none
  | Option.some x => .int x
theorem OptsAre.reads {h : Heap} : ∀ {vs : List Value} {os : List (Option Int)}, OptsAre vs os → ReadsAll h vs (os.map optD) []
  | _, _, .nil => .nil
  | _, _, .none r => ReadsAll.cons (as := []) Reads.none r.reads
  | _, _, .int x t r => ReadsAll.cons (as := []) (Reads.int x t) r.reads
theorem opts_lay : ∀ os : List (Option Int), PyData.canLayAll0 (os.map optD) = true
  | [] => by simp [PyData.canLayAll0]
  | o :: r => by cases o <;> simp [PyData.canLayAll0, PyData.canLay0, optD, opts_lay r]
theorem opts_depth : ∀ os : List (Option Int), PyData.depthAll (os.map optD) ≤ 1
  | [] => by simp [PyData.depthAll]
  | o :: r => by
    have := opts_depth r
    cases o <;> (simp only [List.map_cons, PyData.depthAll, PyData.depth, optD]; omega)
theorem opts_shaped (os : List (Option Int)) : shaped (.list (os.map optD)) = true := by
  have h1 := opts_depth os
  have h2 : PyData.depth (.list (os.map optD)) ≤ 64 := by simp only [PyData.depth]; omega
  show (PyData.canLay0 (.list (os.map optD)) && decide (PyData.depth (.list (os.map optD)) ≤ 64)) = true
  rw [Bool.and_eq_true]
  exact ⟨by simp only [PyData.canLay0]; exact opts_lay os, decide_eq_true h2⟩
theorem opts_noMix : ∀ os : List (Option Int), noMixAll (os.map optD) (os.map optD) = true
  | [] => by simp [noMixAll]
  | o :: r => by cases o <;> simp [noMixAll, noMix, optD, opts_noMix r]
theorem opts_same : ∀ os : List (Option Int), PySem.Spec.sameAll (os.map optD) (os.map optD) = true
  | [] => by simp [PySem.Spec.sameAll]
  | o :: r => by cases o <;> simp [PySem.Spec.sameAll, PySem.Spec.same, optD, opts_same r]
theorem opts_data {h : Heap} {a : Addr} {vs : List Value} {os : List (Option Int)} (hl : h.IsList a vs.toArray) (hi : OptsAre vs os) : Reads h (.ref a) (.list (os.map optD)) [a] := by
  obtain ⟨o, ho, hc, n, hd⟩ := hl
  exact Reads.list ho hc hd (by simpa using hi.reads)
theorem ne_opts {w : World} {A : Around} {E : Value → Shared → Prop} {s : Shared} {a b : Addr} {vs us : List Value} {os ps : List (Option Int)} {Q : Value → Shared → Prop} (hl : s.heap.IsList a vs.toArray) (hi : OptsAre vs os) (hl' : s.heap.IsList b us.toArray) (hi' : OptsAre us ps) (hu : A.units + 64 < cLine) (e : os = ps)
    (h : Q (.bool false) s) : wpAny (model prog w) A (compareOp .NotEq (.ref a) (.ref b)) Q E s := by
  subst e
  exact ne_dataH_same (opts_data hl hi) (opts_data hl' hi') (opts_shaped os) (opts_shaped os) hu (by simp only [noMix]; exact opts_noMix os) (by simp only [PySem.Spec.same]; rw [opts_same]; exact h)
structure OptIs (g : Int → Option Int) : Prop where
def OEl (news : List (Addr × Obj)) (o : Option Int) (y : Value) (news' : List (Addr × Obj)) : Prop := news' = news ∧ OptsAre [y] [o]
section
variable {w : World} {A : Around} {h₀ : Heap} {L : Addr} {m : Str → Option Value} {env : Env} {elt : PySem.Expr} {x : Str} {scope : Scope} {cl : List (Str × Addr)} {s : Shared} {S : List (Addr × Obj) → Prop} {Fin : List Value → List (Addr × Obj) → Prop} {news : List (Addr × Obj)}
theorem optc {g : Int → Option Int} (_hg : OptIs g) {n : Nat} {a : Int}
    (turn : ∀ k t I oI C oC D m₂ ys h tk (E' : Value → Shared → Prop), a ≤ k → k < a + (n : Int) → LCg.NsObj oC m₂ → m₂ x = some (.int k t) → Fr h₀ L h m → News h₀ L h ((I, oI) :: (C, oC) :: (D, LCg.lst ys) :: news) → LCg.Off3 I C D news → ((@Ne Nat I C) ∧ (@Ne Nat I D) ∧ (@Ne Nat C D)) →
      wpAny (model prog w) A (eval elt (compEnvC scope cl C env)) (LCg.CompEnd h₀ L m { s with heap := h, toks := tk } I oI C oC D (LCg.lst ys) S (fun y news' => OEl news (g k) y news')) E' { s with heap := h, toks := tk })
    (fin : ∀ ys, OptsAre ys ((rangeKs a n).map g) → Fin ys news) : LCg.CompRest prog w A h₀ L m env elt x scope cl s S (fun i v => ∃ t, v = .int (a + (i : Int)) t) Fin n 0 [] news := by
  have key : ∀ (j i : Nat) (ys : List Value), i + j = n → OptsAre ys ((rangeKs a i).map g) → LCg.CompRest prog w A h₀ L m env elt x scope cl s S (fun i v => ∃ t, v = .int (a + (i : Int)) t) Fin j i ys news := by
    intro j
    induction j with
    | zero =>
      intro i ys hi hy
      obtain rfl : i = n := by omega
      exact LCg.CompRest.zero (fin ys hy)
    | succ j ih =>
      intro i ys hi hy
      refine LCg.CompRest.succ fun v I oI C oC D m₂ h tk E' hv hC hx F N off ne => ?_
      obtain ⟨t, rfl⟩ := hv
      refine wpAny_mono (turn (a + (i : Int)) t I oI C oC D m₂ ys h tk E' (by omega) (by omega) hC hx F N off ne) (fun y s₂ hq => ?_) fun _ _ e => e
      obtain ⟨h', tk', nw, e, F', N', off', hS, hn, hy'⟩ := hq
      subst hn
      refine ⟨h', tk', nw, e, F', N', off', hS, ih (i + 1) _ (by omega) ?_⟩
      have q : rangeKs a (i + 1) = rangeKs a i ++ [a + (i : Int)] := by unfold rangeKs; rw [List.range_succ, List.map_append]; rfl
      rw [q, List.map_append]
      exact hy.append hy'
  exact key n 0 [] (by omega) .nil
theorem end_opt_none {h' : Heap} {I C D : Addr} {s₁ : Shared} {oI oC oD : Obj} {tk : Nat} {all : List (Addr × Obj)} {o : Option Int} (F : Fr h₀ L h' m) (N : News h₀ L h' all) (sub : ∀ p ∈ (I, oI) :: (C, oC) :: (D, oD) :: news, p ∈ all) (off : LCg.Off3 I C D news) (hS : S news) (e : o = Option.none) :
    LCg.CompEnd h₀ L m s₁ I oI C oC D oD S (fun y news' => OEl news o y news') Value.none { s₁ with heap := h', toks := tk } :=
  LCg.CompEnd.intro F N news sub off hS ⟨rfl, by subst e; exact .none .nil⟩
theorem end_opt_some {h' : Heap} {I C D : Addr} {s₁ : Shared} {oI oC oD : Obj} {tk : Nat} {all : List (Addr × Obj)} {o : Option Int} {k : Int} {t : Tok} (F : Fr h₀ L h' m) (N : News h₀ L h' all) (sub : ∀ p ∈ (I, oI) :: (C, oC) :: (D, oD) :: news, p ∈ all) (off : LCg.Off3 I C D news) (hS : S news) (e : o = Option.some k) :
    LCg.CompEnd h₀ L m s₁ I oI C oC D oD S (fun y news' => OEl news o y news') (.int k t) { s₁ with heap := h', toks := tk } :=
  LCg.CompEnd.intro F N news sub off hS ⟨rfl, by subst e; exact .int k t .nil⟩
end
theorem ne_int_eq {w : World} {A : Around} {E : Value → Shared → Prop} {s : Shared} {a b : Int} {t u : Tok} {Q : Value → Shared → Prop} (e : a = b) (h : Q (.bool false) s) : wpAny (model prog w) A (compareOp .NotEq (.int a t) (.int b u)) Q E s :=
  PyProof.Rows.ne_int (by rw [show (a != b) = false by simp [e]]; exact h)
theorem Can.mono {w : World} {d u : Nat} {news : List (Addr × Obj)} {f : Addr} {vs : List Value} {R R' : Heap → Addr → (Str → Option Value) → Shared → (Value → Shared → Prop) → Prop}
    (C : Can w d u news f vs R) (h : ∀ h₀ L m s Q, R' h₀ L m s Q → R h₀ L m s Q) : Can w d u news f vs R' :=
  fun mean mg mb dp un gd cn cs a ccd cl outer A₀ base h₀ L m s Q E B F X N T hk hd hu ret => C mean mg mb dp un gd cn cs a ccd cl outer A₀ base h₀ L m s Q E B F X N T hk hd hu (h _ _ _ _ _ ret)
/-- None comes back -/
def RetN (news : List (Addr × Obj)) (h₀ : Heap) (L : Addr) (m : Str → Option Value) (s : Shared) (Q : Value → Shared → Prop) : Prop :=
  ∀ (h' : Heap) (tk' : Nat), Fr h₀ L h' m → News h₀ L h' news → Q .none { s with heap := h', toks := tk' }
theorem RetO.of_some {news : List (Addr × Obj)} {x : Option Int} {y : Int} {h₀ : Heap} {L : Addr} {m : Str → Option Value} {s : Shared} {Q : Value → Shared → Prop} (e : x = Option.some y) (R : RetI news y h₀ L m s Q) : RetO news x h₀ L m s Q :=
  ⟨fun h' tk' q _ _ => absurd (e.symm.trans q) (by simp), fun y' t h' tk' q F N => by have q' := Option.some.inj (e.symm.trans q); subst q'; exact R t h' tk' F N⟩
theorem RetO.of_none {news : List (Addr × Obj)} {x : Option Int} {h₀ : Heap} {L : Addr} {m : Str → Option Value} {s : Shared} {Q : Value → Shared → Prop} (e : x = Option.none) (R : RetN news h₀ L m s Q) : RetO news x h₀ L m s Q :=
  ⟨fun h' tk' _ F N => R h' tk' F N, fun y' t h' tk' q _ _ => absurd (e.symm.trans q) (by simp)⟩
section
variable {w : World} {A : Around} {E : Value → Shared → Prop} {s : Shared} {env : Env} {h₀ : Heap} {x : Str} {body : List Stmt} {Q : Flow → Shared → Prop} {news : List (Addr × Obj)} {m₀ : Str → Option Value}
theorem rng_walk {I : Addr} {n : Nat} {a : Int} {P : Nat → Value → Prop} {St : Nat → Heap → Prop} (stored : List Str) (W : Walks prog w A I [I] [I] n P St) (hP : ∀ i v, P i v → ∃ t, v = .int (a + (i : Int)) t) (hI : s.heap.get? I ≠ none) (hL : env.locals ≠ I) (hI0 : h₀.get? I = none) (hoff : ∀ p ∈ news, p.1 ≠ I) (hst : St 0 s.heap)
    (F : Fr h₀ env.locals s.heap m₀) (N : News h₀ env.locals s.heap news)
    (turn : ∀ k t (U : Str → Option Value) h tk own, a ≤ k → k < a + (n : Int) → Fr h₀ env.locals h (fun y => if y = x then some (.int k t) else if stored.contains y = true then U y else m₀ y) → News h₀ env.locals h (news ++ own) →
      wpAny (model prog w) A (execs body env) (InvPostN h₀ env.locals (fun m' nx => nx = news ∧ ∀ y, y ≠ x → stored.contains y = false → m' y = m₀ y) own (news.map (·.1)) { s with heap := h, toks := tk } Q) E { s with heap := h, toks := tk })
    (done : ∀ (U : Str → Option Value) h tk, Fr h₀ env.locals h (fun y => if y = x then U y else if stored.contains y = true then U y else m₀ y) → News h₀ env.locals h news → Q .next { s with heap := h, toks := tk }) :
    LoopAtV prog w A h₀ env x body Q E (.ref I) s := by
  have same : ∀ m₁ : Str → Option Value, (∀ y, y ≠ x → stored.contains y = false → m₁ y = m₀ y) → ∀ (v : Option Value), (fun y => if y = x then v else m₁ y) = fun y => if y = x then v else if stored.contains y = true then m₁ y else m₀ y := by
    intro m₁ hm v
    funext y
    by_cases h1 : y = x
    · simp [h1]
    · simp only [if_neg h1]
      cases h2 : stored.contains y with
      | true => simp
      | false => simp only [Bool.false_eq_true, if_false]; exact hm y h1 h2
  refine loop_invN (fun _ m nx => nx = news ∧ ∀ y, y ≠ x → stored.contains y = false → m y = m₀ y) W ?_ ?_ ?_ ?_ hst F N ⟨rfl, fun _ _ _ => rfl⟩ ?_ ?_
  · exact fun hm => hL (List.mem_singleton.mp hm)
  · intro b hb; rw [List.mem_singleton.mp hb]; exact hI0
  · exact fun p hp hm => hoff p hp (List.mem_singleton.mp hm)
  · exact fun p hp hm => hoff p hp (List.mem_singleton.mp hm)
  · rintro i v m₁ nx h tk own hi hv _ _ ⟨rfl, hm⟩ F₁ N₁
    obtain ⟨t, rfl⟩ := hP i v hv
    rw [same m₁ hm] at F₁
    exact turn (a + (i : Int)) t m₁ h tk own (by omega) (by omega) F₁ N₁
  · rintro m₁ nx h tk ⟨rfl, hm⟩ F₁ N₁
    refine done m₁ h tk ?_ N₁
    have e : (fun y => if y = x then m₁ y else if stored.contains y = true then m₁ y else m₀ y) = m₁ := by
      funext y
      by_cases h1 : y = x
      · simp [h1]
      · simp only [if_neg h1]
        cases h2 : stored.contains y with
        | true => simp
        | false => simp only [Bool.false_eq_true, if_false]; exact (hm y h1 h2).symm
    rw [e]; exact F₁
theorem rng_loop {r : Addr} {a b : Int} {t₀ u₀ v₀ : Tok} {n : Nat} (stored : List Str) (hh : A.handled = none) (hr : IsRange s.heap r a b 1 t₀ u₀ v₀) (hn : Builtin.Range.rangeSize a b 1 = (n : Int))
    (F : Fr h₀ env.locals s.heap m₀) (N : News h₀ env.locals s.heap news)
    (turn : ∀ k t (U : Str → Option Value) h tk own, a ≤ k → k < a + (n : Int) → Fr h₀ env.locals h (fun y => if y = x then some (.int k t) else if stored.contains y = true then U y else m₀ y) → News h₀ env.locals h (news ++ own) →
      wpAny (model prog w) A (execs body env) (InvPostN h₀ env.locals (fun m' nx => nx = news ∧ ∀ y, y ≠ x → stored.contains y = false → m' y = m₀ y) own (news.map (·.1)) { s with heap := h, toks := tk } Q) E { s with heap := h, toks := tk })
    (done : ∀ (U : Str → Option Value) h tk, Fr h₀ env.locals h (fun y => if y = x then U y else if stored.contains y = true then U y else m₀ y) → News h₀ env.locals h news → Q .next { s with heap := h, toks := tk }) :
    wpAny (model prog w) A (pyIter (.ref r)) (fun it s₂ => LoopAtV prog w A h₀ env x body Q E it s₂) E s := by
  have hL : env.locals ≠ s.heap.objs.size := Nat.ne_of_lt F.ns.lt
  have hoff : ∀ p ∈ news, p.1 ≠ s.heap.objs.size := fun p hp => Nat.ne_of_lt (Heap.lt_size (N p hp).1)
  cases hs : Builtin.Range.small a b 1 with
  | true =>
    refine wpAny_pyIter_range hr hs ?_
    exact rng_walk stored (a := a) (Walks.range hh s.heap.objs.size a 1 n) (fun i v ⟨t, e⟩ => ⟨t, by rw [e, Int.mul_one]⟩) (by rw [Heap.get?_push_size _ rfl]; simp) hL (next_is_new F) hoff (by show IsRangeIter _ _ _ _ _; rw [hn]; simpa using Heap.get?_push_size _ rfl) (F.push _) (fun p hp => ⟨Heap.get?_push_of_some _ (N p hp).1, (N p hp).2⟩) turn done
  | false =>
    refine wpAny_pyIter_longrange hr hs ?_
    exact rng_walk stored (a := a) (Walks.longrange hh s.heap.objs.size a 1 n) (fun i v ⟨t, e⟩ => ⟨t, by rw [e, Int.mul_one]⟩) (by rw [Heap.get?_push_size _ rfl]; simp) hL (next_is_new F) hoff (by show IsLongIter _ _ _ _ _; rw [hn]; simpa using Heap.get?_push_size _ rfl) (F.push _) (fun p hp => ⟨Heap.get?_push_of_some _ (N p hp).1, (N p hp).2⟩) turn done
theorem rng_end {h' : Heap} {tk : Nat} {L : Addr} {s₁ : Shared} {own : List (Addr × Obj)} {m' : Str → Option Value} {stored : List Str} (F : Fr h₀ L h' m') (N : News h₀ L h' (news ++ own)) (keep : ∀ y, y ≠ x → stored.contains y = false → m' y = m₀ y) :
    InvEndN h₀ L (fun m' nx => nx = news ∧ ∀ y, y ≠ x → stored.contains y = false → m' y = m₀ y) own (news.map (·.1)) s₁ { s₁ with heap := h', toks := tk } :=
  InvEndN.intro F N ⟨rfl, keep⟩ rfl (fun p hp => List.mem_append_left _ hp) fun p hp => List.mem_append_right _ hp
end
structure JoinAs (x : Int) : Prop where
def JI (h₀ : Heap) (L : Addr) (m : Str → Option Value) (news : List (Addr × Obj)) (x : Int) (s : Shared) (v : Value) (s' : Shared) : Prop :=
  ∃ t h' tk', v = .int x t ∧ s' = { s with heap := h', toks := tk' } ∧ Fr h₀ L h' m ∧ News h₀ L h' news
theorem JI.ok {h₀ h' : Heap} {L : Addr} {m : Str → Option Value} {news led : List (Addr × Obj)} {x y : Int} {s : Shared} {t : Tok} {tk' : Nat} (F : Fr h₀ L h' m) (N : News h₀ L h' led) (hs : ∀ p ∈ news, p ∈ led) (e : y = x) :
    JI h₀ L m news x s (.int y t) { s with heap := h', toks := tk' } := ⟨t, h', tk', by rw [e], rfl, F, fun p hp => N p (hs p hp)⟩
theorem join_int {w : World} {A : Around} {E : Value → Shared → Prop} {s : Shared} {h₀ : Heap} {L : Addr} {m : Str → Option Value} {news : List (Addr × Obj)} {x : Int} {tree : Sem Value} {Q : Value → Shared → Prop} (_j : JoinAs x) (_F : Fr h₀ L s.heap m) (_N : News h₀ L s.heap news)
    (h : wpAny (model prog w) A tree (JI h₀ L m news x s) E s) (k : ∀ t h' tk', Fr h₀ L h' m → News h₀ L h' news → Q (.int x t) { s with heap := h', toks := tk' }) : wpAny (model prog w) A tree Q E s :=
  wpAny_mono h (fun v s' ⟨t, h', tk', e1, e2, F', N'⟩ => by subst e1; subst e2; exact k t h' tk' F' N') fun _ _ e => e
end
end Mine
namespace Mine
theorem mem_any {x : Int} {ns : List Int} (h : ns.any (· == x) = true) : x ∈ ns := by
  obtain ⟨y, hy, e⟩ := List.any_eq_true.mp h
  rw [← eq_of_beq e]; exact hy
theorem mem_any' {x : Int} {ns : List Int} (h : ns.any (· == x) = false) : x ∉ ns := fun q => by
  have := List.any_eq_false.mp h x q
  exact this (beq_self_eq_true x)
section
variable {w : World} {D : Addr} {f st l : Int} {t1 t2 t3 : Tok} {n : Nat} {news : List (Addr × Obj)} {x : Int} {u : Tok} (hm : (D, T3 f st l t1 t2 t3 n) ∈ news) (hst : st ≠ 0) (hs1 : -1000 < st) (hs2 : st < 1000)
include hm hst hs1 hs2
theorem idx_in (h : (lst f st l).any (· == x) = true) : Can w 2 16 news 168 [.ref D, .int x u] (RetI news ((((lst f st l).idxOf x : Nat) : Int) + 1)) :=
  (index_of_number hm hst hs1 hs2).mono fun _ _ _ _ _ R => RetO.of_some (idx_mem hst (mem_any h)) R
theorem idx_out (h : (lst f st l).any (· == x) = false) : Can w 2 16 news 168 [.ref D, .int x u] (RetN news) :=
  (index_of_number hm hst hs1 hs2).mono fun _ _ _ _ _ R => RetO.of_none (idx_not hst (mem_any' h)) R
theorem has_in (h : (lst f st l).any (· == x) = true) : Can w 3 24 news 161 [.ref D, .int x u] (RetB news true) :=
  (range_has hm hst hs1 hs2).mono fun _ _ _ _ _ R => by rw [idx_mem hst (mem_any h)]; exact R
theorem has_out (h : (lst f st l).any (· == x) = false) : Can w 3 24 news 161 [.ref D, .int x u] (RetB news false) :=
  (range_has hm hst hs1 hs2).mono fun _ _ _ _ _ R => by rw [idx_not hst (mem_any' h)]; exact R
end
theorem OptsAre.brackets {vs : List Value} {ns : List Int} (h : IntsAre vs ns) : OptsAre (([Value.none] ++ vs) ++ [Value.none]) (([Option.none] ++ ns.map Option.some) ++ [Option.none]) :=
  .append (.append (.none .nil) (.of_ints h)) (.none .nil)
end Mine
theorem Mine.words25 : True := by
  k_with "mine N" => (unfold Mine.RetN; intro h9 tk9 F9 N9)
  k_with "m call ref" => (k_here; (with_reducible show wpAny _ _ (call (Value.ref 168) _) _ _ _); k_dflt ((refine' Mine.Can.use ?u47k1 ?u47k2 ?u47k3 ?u47k4 ?u47k5 ?u47kK (Mine.idx_out ?m47_1 ?m47_2 ?m47_3 ?m47_4 ?m47_5) ?u47kd ?u47ku ?_); (case u47k1 => k_asm); (case u47k2 => k_asm); (case u47k3 => k_asm); (case u47k4 => k_asm); (case u47k5 => k_asm); (case u47kK => first | exact rfl | assumption); (case m47_1 => k_mem); (case m47_2 => walk_at "mine side"); (case m47_3 => walk_at "mine side"); (case m47_4 => walk_at "mine side"); (case m47_5 => with_reducible assumption); (case u47kd => ktr_room); (case u47ku => ktr_units); walk_at "mine N"); all_goals ((try k_sweep); (try dsimp only); (try k_fold)))
  k_with "m call ref" => (k_here; (with_reducible show wpAny _ _ (call (Value.ref 168) _) _ _ _); k_dflt ((refine' Mine.Can.use ?u48k1 ?u48k2 ?u48k3 ?u48k4 ?u48k5 ?u48kK (Mine.idx_in ?m48_1 ?m48_2 ?m48_3 ?m48_4 ?m48_5) ?u48kd ?u48ku ?_); (case u48k1 => k_asm); (case u48k2 => k_asm); (case u48k3 => k_asm); (case u48k4 => k_asm); (case u48k5 => k_asm); (case u48kK => first | exact rfl | assumption); (case m48_1 => k_mem); (case m48_2 => walk_at "mine side"); (case m48_3 => walk_at "mine side"); (case m48_4 => walk_at "mine side"); (case m48_5 => with_reducible assumption); (case u48kd => ktr_room); (case u48ku => ktr_units); walk_at "mine I"); all_goals ((try k_sweep); (try dsimp only); (try k_fold)))
  k_with "m call ref" => (k_here; (with_reducible show wpAny _ _ (call (Value.ref 161) _) _ _ _); k_dflt ((refine' Mine.Can.use ?u49k1 ?u49k2 ?u49k3 ?u49k4 ?u49k5 ?u49kK (Mine.has_out ?m49_1 ?m49_2 ?m49_3 ?m49_4 ?m49_5) ?u49kd ?u49ku ?_); (case u49k1 => k_asm); (case u49k2 => k_asm); (case u49k3 => k_asm); (case u49k4 => k_asm); (case u49k5 => k_asm); (case u49kK => first | exact rfl | assumption); (case m49_1 => k_mem); (case m49_2 => walk_at "mine side"); (case m49_3 => walk_at "mine side"); (case m49_4 => walk_at "mine side"); (case m49_5 => with_reducible assumption); (case u49kd => ktr_room); (case u49ku => ktr_units); walk_at "mine B"); all_goals ((try k_sweep); (try dsimp only); (try k_fold)))
  k_with "m call ref" => (k_here; (with_reducible show wpAny _ _ (call (Value.ref 161) _) _ _ _); k_dflt ((refine' Mine.Can.use ?u50k1 ?u50k2 ?u50k3 ?u50k4 ?u50k5 ?u50kK (Mine.has_in ?m50_1 ?m50_2 ?m50_3 ?m50_4 ?m50_5) ?u50kd ?u50ku ?_); (case u50k1 => k_asm); (case u50k2 => k_asm); (case u50k3 => k_asm); (case u50k4 => k_asm); (case u50k5 => k_asm); (case u50kK => first | exact rfl | assumption); (case m50_1 => k_mem); (case m50_2 => walk_at "mine side"); (case m50_3 => walk_at "mine side"); (case m50_4 => walk_at "mine side"); (case m50_5 => with_reducible assumption); (case u50kd => ktr_room); (case u50ku => ktr_units); walk_at "mine B"); all_goals ((try k_sweep); (try dsimp only); (try k_fold)))
  trivial
theorem Mine.words26 : True := by
  k_with "m compareOp NotEq int int" => (k_here; k_dflt (refine' Mine.ne_int_eq ?m51_1 ?_; (case m51_1 => first | with_reducible assumption | omega)))
  k_with "m call builtin:sum" => (k_here; (with_reducible show wpAny _ _ (call (Value.builtin "sum") [Value.ref _]) _ _ _); (with_unfolding_all ((refine' LSm.sum_ints ?m52_1 ?m52_2 ?m52_3 ?m52_4 ?m52_5 ?_; (case m52_1 => k_asm); (case m52_2 => k_asm); (case m52_4 => walk_at "mine list"); (case m52_3 => exact rfl); (case m52_5 => with_reducible assumption)); k_whole)); intro h9 tk9 t9 F9 N9; (try k_sweep); (try dsimp only))
  k_with "m eval IfExp" => (k_here; (with_reducible show wpAny _ _ (eval (Expr.IfExp (Expr.Compare (Expr.Name _ _) [CmpOp.NotEq] _ _) _ _ _) _) _ _ _); (fail_if_success (with_reducible show wpAny _ _ _ (Mine.JI _ _ _ _ _ _) _ _)); (refine' Mine.join_int ?m53_1 ?m53_2 ?m53_3 ?_ ?_; (case m53_2 => k_asm); (case m53_3 => k_asm); (case m53_1 => assumption)); rotate_left; (intro t9 h9 tk9 F9 N9); rotate_right; all_goals ((try k_sweep); (try dsimp only); (try k_fold)))
  k_with "mine dec" => first | with_reducible assumption | exact of_decide_eq_true (by with_reducible assumption) | exact of_decide_eq_false (by with_reducible assumption)
  k_with "m JI" => ((refine' Mine.JI.ok ?m54_1 ?m54_2 ?m54_3 ?_; (case m54_1 => k_asm); (case m54_2 => k_asm); (case m54_3 => (intro p hp; repeat (first | exact hp | (refine List.Mem.tail _ ?_))))); first | exact Mine.lst_last_ne (by walk_at "mine dec") | exact Mine.lst_last_e1 (by walk_at "mine dec") (by walk_at "mine dec") | exact Mine.lst_last_e2 (by walk_at "mine dec") (by walk_at "mine dec"))
  k_with "m compareOp NotEq ref ref" => (k_here; (with_reducible show wpAny _ _ (compareOp CmpOp.NotEq (Value.ref _) (Value.ref _)) _ _ _); (with_unfolding_all refine' ne_intsK ?k1 ?k2 ?k3 ?k4 ?k5 ?_; (case k1 => walk_at "mine list"); (case k2 => with_reducible assumption); (case k3 => walk_at "mine list"); (case k4 => exact PyProof.Rows.IntsAre.nil); (case k5 => ktr_units); k_whole))
  k_with "m subscriptTail Name UnaryOp ref int" => (k_here; (with_reducible show wpAny _ _ (subscriptTail _ _ (Value.ref _) (Value.int _ _)) _ _ _); (with_unfolding_all refine' item_list_ints_neg ?k1 ?k2 ?k3 ?k4 ?k5 ?_; (case k1 => walk_at "mine list"); (case k2 => with_reducible assumption); (case k3 => decide); (case k4 => exact Mine.lst_pos_len (by first | with_reducible assumption | exact of_decide_eq_false (by with_reducible assumption))); (case k5 => decide); k_whole); intro t9)
  k_with "m CompSrc" => (k_here; k_dflt (refine LCg.CompSrc.range (by rfl) (by k_asm) (by k_asm) (by assumption) (small_one (by omega) (by omega) (by omega) (by omega)) (rangeSize_nat _ _) (by rw [PySem.sizeLine_eq]; omega) ?_; intro g'; (refine' Mine.optc (by assumption) (fun k' t' I' oI' C' oC' D' m' ys' h' tk' E' hlo' hhi' hC' hx' F' N' off' ne' => ?_) ?_); rotate_left; (intro ys8 hI8); rotate_right; all_goals (try k_fold)))
  k_with "m CompEnd" => k_dflt first | (refine' Mine.end_opt_none ?m55_1 ?m55_2 ?m55_3 ?m55_4 ?m55_5 ?m55_6; (case m55_1 => k_asm); (case m55_2 => k_asm); (case m55_4 => assumption); (case m55_5 => lcg_src); (case m55_6 => with_reducible assumption); (case m55_3 => kcf_all)) | (refine' Mine.end_opt_some ?m56_1 ?m56_2 ?m56_3 ?m56_4 ?m56_5 ?m56_6; (case m56_1 => k_asm); (case m56_2 => k_asm); (case m56_4 => assumption); (case m56_5 => lcg_src); (case m56_6 => with_reducible assumption); (case m56_3 => kcf_all))
  k_with "m binaryOp Add ref ref" => (k_here; k_dflt ((refine' PyProof.Rows.add_lists ?m57_1 ?m57_2 ?m57_3 ?m57_4 ?_ ?m57_6; (case m57_1 => k_asm); (case m57_2 => k_asm); (case m57_3 => walk_at "mine list"); (case m57_4 => walk_at "mine list"); (case m57_6 => ((rw [PySem.sizeLine_eq]); (simp only [List.length_append, List.length_cons, List.length_nil]); omega))); k_whole); intro h9 F9 N9; (try k_sweep); (try dsimp only); (try k_fold))
  k_with "m compareOp NotEq ref ref" => (k_here; (with_reducible show wpAny _ _ (compareOp CmpOp.NotEq (Value.ref _) (Value.ref _)) _ _ _); (with_unfolding_all refine' Mine.ne_opts ?k1 ?k2 ?k3 ?k4 ?k5 ?k6 ?_; (case k1 => walk_at "mine list"); (case k2 => with_reducible assumption); (case k3 => walk_at "mine list"); (case k4 => exact Mine.OptsAre.brackets (by with_reducible assumption)); (case k5 => ktr_units); (case k6 => exact Mine.opt_row (by omega)); k_whole))
  k_with "m call builtin:list.index" => (k_here; k_dflt (refine' Mine.index_in ?k1 ?k2 ?k3 ?k4 ?_; (case k1 => walk_at "mine list"); (case k2 => with_reducible assumption); (case k3 => omega); (case k4 => exact Mine.mem_any (by with_reducible assumption)); k_whole))
  k_with "m pyIter ref" => (k_here; k_dflt (refine' Mine.rng_loop [Str.ofString "due"] ?mh ?mr ?mn ?mF ?mN ?_ ?_; (case mh => rfl); (case mr => assumption); (case mn => exact rangeSize_nat _ _); (case mF => k_asm); (case mN => k_asm)); (intro k8 t8 U8 h8 tk8 own8 hlo8 hhi8 F8 N8); rotate_left; (intro U8 h8 tk8 F8 N8); rotate_right; all_goals (try k_fold))
  k_with "m InvEndN" => (k_dflt (refine' Mine.rng_end ?mF ?mN ?mK; (case mF => k_asm); (case mN => k_asm); (case mK => (intro y9 h1 h2; (have h3 : y9 ≠ Str.ofString "due" := fun e => by (subst e; revert h2; decide)); simp [h1, h3, h2]))))
  trivial
namespace Mine
set_option maxHeartbeats 8000000 in
theorem law_plain {w : World} {D : Addr} {f st l : Int} {t1 t2 t3 : Tok} {n : Nat} {news : List (Addr × Obj)} {U : Addr} {vs : List Value} {c : Nat} (hm : (D, T3 f st l t1 t2 t3 n) ∈ news) (hU : (U, LO vs c) ∈ news) (hi : IntsAre vs (lst f st l)) (hO : RowOk f st l) :
    Can w 5 300 news 276 [.ref D, .ref U] (RetB news true) := by
  obtain ⟨⟨hst, hs1, hs2⟩, hr⟩ := id hO
  have hc := hO.cnt
  have hc0 := cnt_nonneg f st l
  have hlen : cnt f st l = ((lst f st l).length : Int) := by rw [lst_length]; omega
  have hvl := hi.length
  have htot : total f st l = (lst f st l).sum := total_sum
  have hJ : JoinAs (lastM f st l) := ⟨⟩
  have hG : OptIs (rangeAt f st l) := ⟨⟩
  obtain ⟨hb1, hb2⟩ := back_lst (f := f) (s := st) (l := l) hst
  have hb3 : back2 f st l ≠ 0 ∧ -1000 < back2 f st l ∧ back2 f st l < 1000 := by unfold back2; split <;> (refine ⟨?_, ?_, ?_⟩ <;> omega)
  obtain ⟨hb4, hb5, hb6⟩ := hb3
  have hb7 : cnt (back1 f st l) (back2 f st l) (back3 f st l) < 70 := by omega
  walk_at "mine startC"
  k_steps
  all_goals walk_at "mine endB"
  all_goals rfl
end Mine
namespace Mine
theorem tf1 {s v : Int} (hs : s ≠ 0) (hv : v = -3 ∨ v = -1 ∨ v = 1 ∨ v = 2) : s * v ≠ 0 := by rcases hv with rfl | rfl | rfl | rfl <;> omega
theorem tf2 {s v : Int} (h1 : -6 < s) (h2 : s < 6) (hv : v = -3 ∨ v = -1 ∨ v = 1 ∨ v = 2) : -1000 < s * v := by rcases hv with rfl | rfl | rfl | rfl <;> omega
theorem tf3 {s v : Int} (h1 : -6 < s) (h2 : s < 6) (hv : v = -3 ∨ v = -1 ∨ v = 1 ∨ v = 2) : s * v < 1000 := by rcases hv with rfl | rfl | rfl | rfl <;> omega
theorem tf4 {f s l v : Int} (hs : s ≠ 0) (hc : cnt f s l ≤ 31) (hv : v = -3 ∨ v = -1 ∨ v = 1 ∨ v = 2) : cnt (f * v) (s * v) (times3 f s l v) < 70 := by
  rw [cnt_times hs (by omega)]; omega
theorem tf5 {f s l v : Int} (hs : s ≠ 0) (hv : v = -3 ∨ v = -1 ∨ v = 1 ∨ v = 2) : lst (f * v) (s * v) (times3 f s l v) = (lst f s l).map (fun x => x * v) := lst_times hs (by omega)
theorem tf6 {f s l k : Int} (hc : cnt f s l ≤ 31) : cnt (f + k) s (l + k) < 70 := by rw [cnt_moved]; omega
/-- the indices are few -/
theorem tf7 {a b c : Int} (h1 : 0 ≤ a) (h2 : a < 8) (h3 : 0 ≤ c) (h4 : c < 8) (hb : b = 1 ∨ b = 2 ∨ b = -1 ∨ b = -3) : cnt a b c ≤ 8 := by
  unfold cnt
  split
  · split
    · omega
    · have := (fdiv_bd (l := c - a) (r := b) (by omega) (by omega)).2; omega
  · split
    · omega
    · have := (fdiv_bd (l := a - c) (r := 0 - b) (by omega) (by omega)).2; omega
theorem tf8 {a b c : Int} (h1 : 0 ≤ a) (h2 : a < 8) (h3 : 0 ≤ c) (h4 : c < 8) (hb : b = 1 ∨ b = 2 ∨ b = -1 ∨ b = -3) : cnt a b c < 70 := by
  have := tf7 h1 h2 h3 h4 hb; omega
theorem allne_of {D c : Addr} : ∀ {news : List (Addr × Obj)}, AllLt D news → @LE.le Nat _ D c → ∀ p ∈ news, p.1 ≠ c
  | [], _, _, _, hp => nomatch hp
  | q :: r, h, hc, p, hp => by
    rcases List.mem_cons.mp hp with rfl | hp
    · exact Nat.ne_of_lt (Nat.lt_of_lt_of_le h.1 hc)
    · exact allne_of h.2 hc p hp
/-- which comprehension is meant: told by the list that stands before it -/
structure Means (g : Int → Int) : Prop where
theorem ne_from {D M : Addr} {o : Obj} {led : List (Addr × Obj)} (h : ∀ p ∈ led, p.1 ≠ D) (hm : (M, o) ∈ led) : D ≠ M := fun e => h _ hm e.symm
theorem lst_short {a b c : Int} {n : Nat} (h : cnt a b c < 70) (hn : 70 ≤ n) : (lst a b c).length < n := by rw [lst_length]; omega
def REl (news : List (Addr × Obj)) (v : Int) (y : Value) (news' : List (Addr × Obj)) : Prop := news' = news ∧ ∃ t : Tok, y = .int v t
section
variable {w : World} {A : Around} {h₀ : Heap} {L : Addr} {m : Str → Option Value} {env : Env} {elt : PySem.Expr} {x : Str} {scope : Scope} {cl : List (Str × Addr)} {s : Shared} {S : List (Addr × Obj) → Prop} {Fin : List Value → List (Addr × Obj) → Prop} {news : List (Addr × Obj)}
theorem ints_nth : ∀ {vs : List Value} {ns : List Int}, IntsAre vs ns → ∀ {i : Nat} {v : Value}, vs[i]? = some v → ∃ k t, ns[i]? = some k ∧ v = .int k t
  | _, _, .nil, _, _, h => by simp at h
  | _, _, .cons k t r, 0, v, h => ⟨k, t, rfl, by simpa using h.symm⟩
  | _, _, .cons k t r, i + 1, v, h => by
    simp only [List.getElem?_cons_succ] at h ⊢
    exact ints_nth r h
theorem mapc {g : Int → Int} (_hg : Means g) {vs : List Value} {ns : List Int} (hi : IntsAre vs ns)
    (turn : ∀ k t I oI C oC D m₂ ys h tk (E' : Value → Shared → Prop), k ∈ ns → LCg.NsObj oC m₂ → m₂ x = some (.int k t) → Fr h₀ L h m → News h₀ L h ((I, oI) :: (C, oC) :: (D, LCg.lst ys) :: news) → LCg.Off3 I C D news → ((@Ne Nat I C) ∧ (@Ne Nat I D) ∧ (@Ne Nat C D)) →
      wpAny (model prog w) A (eval elt (compEnvC scope cl C env)) (LCg.CompEnd h₀ L m { s with heap := h, toks := tk } I oI C oC D (LCg.lst ys) S (fun y news' => REl news (g k) y news')) E' { s with heap := h, toks := tk })
    (fin : ∀ ys, IntsAre ys (ns.map g) → Fin ys news) : LCg.CompRest prog w A h₀ L m env elt x scope cl s S (fun i v => vs.toArray[i]? = some v) Fin vs.toArray.size 0 [] news := by
  have key : ∀ (j i : Nat) (ys : List Value), i + j = ns.length → IntsAre ys ((ns.take i).map g) → LCg.CompRest prog w A h₀ L m env elt x scope cl s S (fun i v => vs.toArray[i]? = some v) Fin j i ys news := by
    intro j
    induction j with
    | zero =>
      intro i ys hj hy
      obtain rfl : i = ns.length := by omega
      rw [List.take_length] at hy
      exact LCg.CompRest.zero (fin ys hy)
    | succ j ih =>
      intro i ys hj hy
      refine LCg.CompRest.succ fun v I oI C oC D m₂ h tk E' hv hC hx F N off ne => ?_
      obtain ⟨k, t, e1, rfl⟩ := ints_nth hi (by simpa using hv)
      refine wpAny_mono (turn k t I oI C oC D m₂ ys h tk E' (List.mem_of_getElem? e1) hC hx F N off ne) (fun y s₂ hq => ?_) fun _ _ e => e
      obtain ⟨h', tk', nw, e, F', N', off', hS, hn, t', hy'⟩ := hq
      subst hn; subst hy'
      refine ⟨h', tk', nw, e, F', N', off', hS, ih (i + 1) _ (by omega) ?_⟩
      rw [List.take_add_one, e1, List.map_append]
      exact hy.append (.cons _ _ .nil)
  have q : vs.toArray.size = ns.length := by rw [List.size_toArray, hi.length]
  rw [q]
  exact key _ 0 [] (by omega) (by simpa using .nil)
theorem end_map {h' : Heap} {I C D : Addr} {s₁ : Shared} {oI oC oD : Obj} {tk : Nat} {all : List (Addr × Obj)} {k v : Int} {t : Tok} (F : Fr h₀ L h' m) (N : News h₀ L h' all) (sub : ∀ p ∈ (I, oI) :: (C, oC) :: (D, oD) :: news, p ∈ all) (off : LCg.Off3 I C D news) (hS : S news) (e : k = v) :
    LCg.CompEnd h₀ L m s₁ I oI C oC D oD S (fun y news' => REl news v y news') (.int k t) { s₁ with heap := h', toks := tk } :=
  LCg.CompEnd.intro F N news sub off hS ⟨rfl, t, by rw [e]⟩
end
abbrev addBy (b : Int) : Int → Int := fun x => x + b
abbrev mulBy (b : Int) : Int → Int := fun x => x * b
abbrev atBy (f s : Int) : Int → Int := fun i => f + (i - 1) * s
theorem means_pick {us : List Value} {f s x y z a b c : Int} (_h : IntsAre us (lst x y z)) (_e : lst x y z = (lst a b c).map (atBy f s)) : Means (atBy f s) := ⟨⟩
theorem means_times {us : List Value} {f s l b : Int} (_h : IntsAre us (lst (f * b) (s * b) (times3 f s l b))) : Means (mulBy b) := ⟨⟩
theorem means_moved {us : List Value} {f s l b : Int} (_h : IntsAre us (lst (f + b) s (l + b))) : Means (addBy b) := ⟨⟩
theorem nth_at {w : World} {A : Around} {E : Value → Shared → Prop} {s : Shared} {h₀ : Heap} {L D : Addr} {news : List (Addr × Obj)} {vs : List Value} {n : Nat} {f st l k : Int} {u : Tok} {value slice : PySem.Expr} {Q : Value → Shared → Prop} (N : News h₀ L s.heap news) (hm : (D, LO vs n) ∈ news) (hi : IntsAre vs (lst f st l)) (h0 : 1 ≤ k ∧ k ≤ cnt f st l) (hc : cnt f st l < 70) (h : ∀ t, Q (.int (f + (k - 1) * st) t) s)
    (hs : subscripted slice false (.ref D) (.int (k - 1) u) = operate [.ref D, .int (k - 1) u] (getItem (.ref D) (.int (k - 1) u)) := by with_unfolding_all rfl) :
    wpAny (model prog w) A (subscriptTail value slice (.ref D) (.int (k - 1) u)) Q E s :=
  ksa_sub N hm hi (by omega) (by rw [lst_length]; omega) (by omega) (fun t => by rw [lst_nth h0.1 h0.2]; exact h t) hs
theorem ne_not {w : World} {A : Around} {E : Value → Shared → Prop} {s : Shared} {a b : Addr} {vs us : List Value} {ns ms : List Int} {Q : Value → Shared → Prop} (hl : s.heap.IsList a vs.toArray) (hi : IntsAre vs ns) (hl' : s.heap.IsList b us.toArray) (hi' : IntsAre us ms) (hu : A.units + 64 < cLine) (e : ns ≠ ms)
    (h : Q (.bool true) s) : wpAny (model prog w) A (compareOp .NotEq (.ref a) (.ref b)) Q E s := ne_intsK hl hi hl' hi' hu (by rw [decide_eq_false e]; exact h)
theorem bad_y1 {n k : Int} (h : k < 1) : badAt n k = true := by unfold badAt; simp [h]
theorem bad_y2 {n k m : Int} (h : m < k) (e : n = m) : badAt n k = true := by unfold badAt; simp [e, h]
theorem bad_no {n k m : Int} (h1 : ¬ k < 1) (h2 : ¬ m < k) (e : n = m) : badAt n k = false := by unfold badAt; simp [e]; omega
def RetPW (news : List (Addr × Obj)) (f s l a b c : Int) (h₀ : Heap) (L : Addr) (m : Str → Option Value) (st : Shared) (Q : Value → Shared → Prop) : Prop :=
  (∀ (h' : Heap) (tk' : Nat), (lst a b c).filter (badAt (cnt f s l)) ≠ [] → Fr h₀ L h' m → News h₀ L h' news → Q .none { st with heap := h', toks := tk' }) ∧
  (∀ (x y z : Int) (D : Addr) (t1 t2 t3 : Tok) (n : Nat) (h' : Heap) (tk' : Nat), (lst a b c).filter (badAt (cnt f s l)) = [] → y ≠ 0 → -1000 < y → y < 1000 → cnt x y z < 70 → lst x y z = (lst a b c).map (atBy f s) →
    Fr h₀ L h' m → News h₀ L h' ((D, T3 x y z t1 t2 t3 n) :: news) → Q (.ref D) { st with heap := h', toks := tk' })
theorem picked_w {w : World} {D : Addr} {f st l : Int} {t1 t2 t3 : Tok} {n : Nat} {news : List (Addr × Obj)} {D2 : Addr} {a b c : Int} {u1 u2 u3 : Tok} {k : Nat} (hm : (D, T3 f st l t1 t2 t3 n) ∈ news) (hst : st ≠ 0) (hs1 : -6 < st) (hs2 : st < 6) (hm2 : (D2, T3 a b c u1 u2 u3 k) ∈ news)
    (hb : b = 1 ∨ b = 2 ∨ b = -1 ∨ b = -3) (hc : cnt a b c ≤ 8) : Can w 4 32 news 201 [.ref D, .ref D2] (RetPW news f st l a b c) :=
  (picked hm hst (by omega) (by omega) hm2 (by omega) (by omega) (by omega)).mono fun h₀ L m s Q R => by
    have hb0 : b ≠ 0 := by omega
    by_cases e : (lst a b c).filter (badAt (cnt f st l)) = []
    · obtain ⟨x, z, e1, e2, e3⟩ := pick_ok (f := f) (l := l) hst hb0 e
      have y1 : st * b ≠ 0 := Int.mul_ne_zero hst hb0
      have y2 : -1000 < st * b ∧ st * b < 1000 := by rcases hb with rfl | rfl | rfl | rfl <;> omega
      refine ⟨fun h' tk' q F N => ?_, fun x' y' z' D t1 t2 t3 n h' tk' q F N => ?_⟩
      · rw [e1] at q; cases q
      · rw [e1] at q; cases q
        exact R.2 x (st * b) z D t1 t2 t3 n h' tk' e y1 y2.1 y2.2 (by omega) e3 F N
    · refine ⟨fun h' tk' q F N => R.1 h' tk' e F N, fun x' y' z' D t1 t2 t3 n h' tk' q F N => ?_⟩
      exact absurd (pick_bad hb0 q) e
/-- true comes back, the mill stands with other numbers -/
def RetTu (M : Addr) (news : List (Addr × Obj)) (h₀ : Heap) (L : Addr) (m : Str → Option Value) (s : Shared) (Q : Value → Shared → Prop) : Prop :=
  ∀ (a b : Int) (t1 t2 : Tok) (c : Nat) (h' : Heap) (tk' : Nat), 0 ≤ a → 0 ≤ b → b < 2147483399 → Fr h₀ L h' m → News h₀ L h' ((M, LO [.int a t1, .int b t2] c) :: news) → Q (.bool true) { s with heap := h', toks := tk' }
theorem RetTu.ok {M : Addr} {news led : List (Addr × Obj)} {a b : Int} {t1 t2 : Tok} {c : Nat} {h₀ h' : Heap} {L : Addr} {m : Str → Option Value} {s : Shared} {Q : Value → Shared → Prop} {tk' : Nat} {x : Bool}
    (R : RetTu M news h₀ L m s Q) (F : Fr h₀ L h' m) (N : News h₀ L h' led) (hM : (M, LO [.int a t1, .int b t2] c) ∈ led) (hs : ∀ p ∈ news, p ∈ led) (e : x = true) (h3 : 0 ≤ a) (h4 : 0 ≤ b) (h5 : b < 2147483399) : Q (.bool x) { s with heap := h', toks := tk' } := by
  subst e
  exact R a b t1 t2 c h' tk' h3 h4 h5 F fun p hp => N p ((List.mem_cons.mp hp).elim (fun e => e ▸ hM) (hs p))
end Mine
local macro_rules
  | `(tactic| k_all) => `(tactic| exact Mine.allne_of (And.right (by with_reducible assumption)) (by omega))
theorem Mine.words27 : True := by
  k_with "mine dec" => first | with_reducible assumption | exact of_decide_eq_true (by with_reducible assumption) | exact of_decide_eq_false (by with_reducible assumption)
  k_with "m CompSrc" => (k_here; k_dflt (refine' LCg.CompSrc.ledger ?mA ?mF ?mN ?mM ?mZ ?_; (case mA => rfl); (case mF => k_asm); (case mN => k_asm); (case mM => k_mem); (case mZ => exact Mine.size_of (by with_reducible assumption) (by walk_at "mine short") (by walk_at "mine short")); intro g'; (first | have hg9 := Mine.means_pick (by with_reducible assumption) (by with_reducible assumption) | have hg9 := Mine.means_times (by with_reducible assumption) | have hg9 := Mine.means_moved (by with_reducible assumption)); (refine' Mine.mapc (by assumption) (by with_reducible assumption) (fun k' t' I' oI' C' oC' D' m' ys' h' tk' E' hk' hC' hx' F' N' off' ne' => ?_) ?_); rotate_left; (intro ys8 hI8); rotate_right; all_goals (try k_fold)))
  k_with "m CompEnd" => k_dflt (refine' Mine.end_map ?m58_1 ?m58_2 ?m58_3 ?m58_4 ?m58_5 ?m58_6; (case m58_1 => k_asm); (case m58_2 => k_asm); (case m58_4 => assumption); (case m58_5 => lcg_src); (case m58_6 => exact rfl); (case m58_3 => kcf_all))
  k_with "mine eq" => first | exact Mine.lst_moved | exact Mine.tf5 (by with_reducible assumption) (by with_reducible assumption) | with_reducible assumption
  k_with "mine pred" => first | exact Mine.bad_y1 (by walk_at "mine dec") | exact Mine.bad_y2 (by walk_at "mine dec") (by with_reducible assumption) | exact Mine.bad_no (by walk_at "mine dec") (by walk_at "mine dec") (by with_reducible assumption)
  k_with "m subscriptTail Name BinOp ref int" => (k_here; (with_reducible show wpAny _ _ (subscriptTail _ _ (Value.ref _) (Value.int (_ - 1) _)) _ _ _); k_dflt (refine' Mine.nth_at ?mN ?mM ?mI ?mA ?mC ?_; (case mN => k_asm); (case mM => k_mem); (case mI => with_reducible assumption); (case mA => exact Mine.bad_none (by with_reducible assumption) _ (by with_reducible assumption)); (case mC => omega); k_whole); intro t9)
  k_with "m compareOp NotEq ref ref" => (k_here; (with_reducible show wpAny _ _ (compareOp CmpOp.NotEq (Value.ref _) (Value.ref _)) _ _ _); (with_unfolding_all ((refine' Mine.ne_not ?m59_1 ?m59_2 ?m59_3 ?m59_4 ?m59_5 ?m59_6 ?_; (case m59_1 => walk_at "mine list"); (case m59_3 => walk_at "mine list"); (case m59_2 => walk_at "mine ints"); (case m59_4 => walk_at "mine ints"); (case m59_5 => first | ktr_units | units_room); (case m59_6 => with_reducible assumption)); k_whole)))
  k_with "m call ref" => (k_here; (with_reducible show wpAny _ _ (call (Value.ref 201) _) _ _ _); k_dflt ((refine' Mine.Can.use ?u60k1 ?u60k2 ?u60k3 ?u60k4 ?u60k5 ?u60kK (Mine.picked_w ?m60_1 ?m60_2 ?m60_3 ?m60_4 ?m60_5 ?m60_6 ?m60_7) ?u60kd ?u60ku ?_); (case u60k1 => k_asm); (case u60k2 => k_asm); (case u60k3 => k_asm); (case u60k4 => k_asm); (case u60k5 => k_asm); (case u60kK => first | exact rfl | assumption); (case m60_1 => k_mem); (case m60_5 => k_mem); (case m60_2 => walk_at "mine side"); (case m60_3 => walk_at "mine side"); (case m60_4 => walk_at "mine side"); (case m60_6 => walk_at "mine side"); (case m60_7 => walk_at "mine side"); (case u60kd => ktr_room); (case u60ku => ktr_units); walk_at "mine PW"); all_goals ((try k_sweep); (try dsimp only); (try k_fold)))
  k_with "mine endU" => (refine' Mine.RetTu.ok ?m61_1 ?m61_2 ?m61_3 ?m61_4 ?m61_5 ?_ ?_ ?_ ?_; (case m61_1 => assumption); (case m61_2 => k_asm); (case m61_3 => k_asm); (case m61_4 => k_mem); (case m61_5 => (intro p hp; repeat (first | exact hp | (refine List.Mem.tail _ ?_)))))
  k_with "mine off" => first | exact List.forall_mem_nil _ | with_reducible assumption | (refine List.forall_mem_cons.mpr ⟨?_, ?_⟩; (focus (first | k_ne | exact Mine.ne_tup (by k_asm) (by k_mem) (by k_mem) | (dsimp only; exact Mine.ne_from (by with_reducible assumption) (by k_mem)) | (apply Ne.symm; assumption) | assumption)); walk_at "mine off")
  k_with "mine PW" => (unfold Mine.RetPW; (refine ⟨?_, ?_⟩); (intro h9 tk9 e9 F9 N9); rotate_left; (intro x9 y9 z9 D9 a9 b9 c9 n9 h9 tk9 e9 ya9 yb9 yc9 d9 l9 F9 N9); rotate_right)
  k_with "mine side" => first | with_reducible assumption | ((first | apply Mine.tf1 | apply Mine.tf2 | apply Mine.tf3 | apply Mine.tf4 | apply Mine.tf6 | apply Mine.tf7 | apply Mine.tf8) <;> (with_reducible assumption)) | decide | omega
  k_with "mine short" => first | exact Mine.lst_short (by first | with_reducible assumption | walk_at "mine side") (by decide) | omega | ((simp only [Mine.lst_length, List.length_map, List.length_append, List.length_cons, List.length_nil]); omega) | exact Nat.lt_of_le_of_lt (List.length_filter_le _ _) (by walk_at "mine short")
  trivial
namespace Mine
set_option maxHeartbeats 8000000 in
theorem law_turned {w : World} {M : Addr} {a b : Int} {t1 t2 : Tok} {c : Nat} {D : Addr} {f st l : Int} {u1 u2 u3 : Tok} {n : Nat} {news : List (Addr × Obj)} {U : Addr} {vs : List Value} {k : Nat} (hne : ∀ p ∈ news, p.1 ≠ M) (ha : 0 ≤ a) (hb : 0 ≤ b) (hb2 : b < 2147483399)
    (hm : (D, T3 f st l u1 u2 u3 n) ∈ news) (hU : (U, LO vs k) ∈ news) (hi : IntsAre vs (lst f st l)) (hO : RowOk f st l) :
    Can w 6 300 ((M, LO [.int a t1, .int b t2] c) :: news) 281 [.ref M, .ref D, .ref U] (RetTu M news) := by
  obtain ⟨⟨hst, hs1, hs2⟩, hr⟩ := id hO
  have hc := hO.cnt
  have hc0 := cnt_nonneg f st l
  have hlen : cnt f st l = ((lst f st l).length : Int) := by rw [lst_length]; omega
  have hvl := hi.length
  have hc31 : cnt f st l ≤ 31 := by omega
  have hp : PredIs (badAt (cnt f st l)) := ⟨⟩
  walk_at "mine startC"
  k_steps
  all_goals walk_at "mine endU"
  all_goals first | rfl | assumption
end Mine
namespace Mine
theorem dict_mapFields (f : Array Value → Array Value) : ∀ o : Obj, (o.mapFields f).dict = o.dict
  | ⟨_, _, dt, _⟩ => by cases dt <;> rfl
/-- how a fault with a dict of its own stands while it flies; fl: the frame that holds it -/
def Fly (B : Heap) (l : List Env) (e : Addr) (cls : Value) (dc : Option Addr) (fl : Value) (h : Heap) : Prop :=
  (B.StaysIn h ∧ B.get? e = none ∧ h.FunFrames B l) ∧ ∃ oe vs T oT ts, h.get? e = some oe ∧ (oe.cls = cls ∧ oe.dict = dc) ∧ oe.data = .fields vs ∧ vs[1]? = some (.ref T) ∧ (B.get? T = none ∧ T ≠ e) ∧ h.get? T = some oT ∧ oT.data = .fields ts ∧ ts[3]? = some fl
/-- turning a record leaves all but it as it was -/
theorem turn_rest {h : Heap} {T : Addr} {f : Obj → Obj} : ∀ b, b ≠ T → (h.update T f).get? b = h.get? b := fun _ q => Heap.get?_update_other _ _ (Ne.symm q)
theorem rec_ne {h : Heap} {T b : Addr} {oT o : Obj} {ts : Array Value} (hT : h.get? T = some oT) (hd : oT.data = .fields ts) (hb : h.get? b = some o) (hn : ∀ vs, o.data ≠ .fields vs) : b ≠ T := by
  rintro rfl
  rw [hb] at hT; cases hT
  exact hn _ hd
section
variable {M : Model} {A : Around} {E : Value → Shared → Prop} {s : Shared} {B : Heap} {env : Env} {outer l : List Env} {L e : Addr} {oe : Obj} {vs : Array Value} {cls : Value} {dc : Option Addr} {fl : Value} {Q : Unit → Shared → Prop}
/-- the fault's record of frames gets a new head -/
theorem fly_entry {head : Value} {hadNext : Bool} (hfr : A.frames = some (env :: outer)) (hf : env.frame = some L) (hst : B.StaysIn s.heap ∧ B.get? e = none ∧ s.heap.FunFrames B (env :: outer))
    (he : s.heap.get? e = some oe) (hc : oe.cls = cls ∧ oe.dict = dc) (hd : oe.data = .fields vs) (hsz : 1 < vs.size)
    (h : ∀ h', Fly B (env :: outer) e cls dc (rawInt L) h' → s.heap.UpToSlots h' → Q () { s with heap := h' }) :
    wpAny M A (do let a ← frameOf env; let pl ← entryPlaceOf L hadNext; let b ← EntryCells.newEntry head a .none (rawInt L) .none pl; setField (.ref e) 1 b) Q E s := by
  obtain ⟨k0, k1, k2⟩ := hst
  have off : e ∉ (env :: outer).filterMap (·.frame) := by
    intro hm
    obtain ⟨_, o, g1, g2⟩ := k2.mem hm
    rw [he] at g1; cases g1
    exact g2 _ hd
  refine wpAny_bind (wpAny_frameOf_fun hfr k2 hf fun h₁ ⟨_, u1, u2⟩ => ?_)
  refine wpAny_bind (wpAny_entryPlaceOf fun pl hpl => ?_)
  unfold EntryCells.newEntry newFields
  refine wpAny_bind (wpAny_newObj_type ?_ (hpl.sizeOk5 _ _ _ _ _))
  have b1 : ∀ b o, B.get? b = some o → h₁.get? b = some o := fun b o q => (u1 b fun hm => by rw [(k2.mem hm).1] at q; cases q).trans (k0 b o q)
  have e1 : h₁.get? e = some oe := (u1 e off).trans he
  have lt : ∀ b o, h₁.get? b = some o → h₁.objs.size ≠ b := fun b o q => Nat.ne_of_gt (Heap.lt_size q)
  have T0 : B.get? h₁.objs.size = none := by
    cases q : B.get? h₁.objs.size with
    | none => rfl
    | some o => exact absurd rfl (lt _ _ (b1 _ _ q))
  generalize ho : ({ cls := .type "traceback", dict := none, data := .fields ([head, .ref L, .none, rawInt L, .none] ++ (if pl.isEmpty then List.replicate 6 Value.none else pl)).toArray } : Obj) = oT
  have oTd : oT.data = .fields ([head, .ref L, .none, rawInt L, .none] ++ (if pl.isEmpty then List.replicate 6 Value.none else pl)).toArray := by rw [← ho]
  have oTf : oT.isFreed = false := Obj.isFreed_of_fields oTd
  have e2 : (h₁.push oT).get? e = some oe := Heap.get?_push_of_some oT e1
  have e3 := Obj.data_mapFields hd (·.setIfInBounds 1 (Value.ref h₁.objs.size))
  refine wpAny_setField e2 hd hsz (h _ ⟨⟨fun b o q => ?_, k1, ?_⟩, _, _, h₁.objs.size, oT, _, Heap.get?_update_self _ e2 (Obj.isFreed_of_fields e3), ⟨(Obj.cls_mapFields _ _).trans hc.1, (dict_mapFields _ _).trans hc.2⟩, e3, ?_, ⟨T0, lt _ _ e1⟩, ?_, oTd, ?_⟩ ?_)
  · exact (turn_rest b fun z => by rw [z, k1] at q; cases q).trans (Heap.get?_push_of_some oT (b1 b o q))
  · refine k2.of_keeps fun b o q1 q2 => ?_
    obtain ⟨sl, q3⟩ := u2 b o q1
    exact ⟨_, (turn_rest b (rec_ne he hd q1 q2)).trans (Heap.get?_push_of_some oT q3), rfl⟩
  · simp [hsz]
  · exact (turn_rest _ (lt _ _ e1)).trans (Heap.get?_push_size h₁ oTf)
  · first | (simp; done) | (rcases hpl with rfl | ⟨_, _, _, _, _, _, _, rfl⟩ <;> simp)
  · intro b o q1 q2
    obtain ⟨sl, q3⟩ := u2 b o q1
    exact ⟨sl, (turn_rest b (rec_ne he hd q1 q2)).trans (Heap.get?_push_of_some oT q3)⟩
theorem fly_first (hfr : A.frames = some (env :: outer)) (hf : env.frame = some L) (hst : B.StaysIn s.heap ∧ B.get? e = none ∧ s.heap.FunFrames B (env :: outer))
    (he : s.heap.get? e = some oe) (hc : oe.cls = cls ∧ oe.dict = dc) (hd : oe.data = .fields vs) (h1 : vs[1]? = some .none)
    (h : ∀ h', Fly B (env :: outer) e cls dc (rawInt L) h' → s.heap.UpToSlots h' → Q () { s with heap := h' }) : wpAny M A (noteFrame (.ref e) env) Q E s := by
  unfold noteFrame
  simp only [hf]
  refine wpAny_bind (wpAny_field he hd h1 ?_)
  rw [if_neg (by decide)]
  exact fly_entry hfr hf hst he hc hd (Array.getElem?_eq_some_iff.mp h1).1 h
theorem fly_next (hfr : A.frames = some (env :: outer)) (hf : env.frame = some L) (hx : Fly B (env :: outer) e cls dc .none s.heap)
    (h : ∀ h', Fly B (env :: outer) e cls dc (rawInt L) h' → s.heap.UpToSlots h' → Q () { s with heap := h' }) : wpAny M A (noteFrame (.ref e) env) Q E s := by
  obtain ⟨⟨k0, k1, k2⟩, oe, vs, T, oT, ts, he, hc, hd, h1, ⟨hn, hne⟩, hT, hdT, h3⟩ := hx
  unfold noteFrame
  simp only [hf]
  refine wpAny_bind (wpAny_field he hd h1 ?_)
  rw [if_pos (show (Value.ref T != Value.none) = true from by simp)]
  refine wpAny_bind (wpAny_field hT hdT h3 ?_)
  rw [if_neg (show ¬ ((Value.none == rawInt L) = true) from by simp [rawInt])]
  refine wpAny_bind (wpAny_setField hT hdT (Array.getElem?_eq_some_iff.mp h3).1 ?_)
  refine fly_entry hfr hf ⟨fun b o q => ?_, k1, k2.of_keeps fun b o q1 q2 => ⟨o, (turn_rest b (rec_ne hT hdT q1 q2)).trans q1, rfl⟩⟩ ((turn_rest e (Ne.symm hne)).trans he) hc hd (Array.getElem?_eq_some_iff.mp h1).1
    fun h' x u => h h' x fun b o q1 q2 => u b o ((turn_rest b (rec_ne hT hdT q1 q2)).trans q1) q2
  exact (turn_rest b fun z => by rw [z, hn] at q; cases q).trans (k0 b o q)
/-- no frame holds it any more -/
theorem fly_free (hx : Fly B l e cls dc fl s.heap) (h : ∀ h', Fly B l e cls dc .none h' → s.heap.UpToSlots h' → Q () { s with heap := h' }) : wpAny M A (setFlight (.ref e) none) Q E s := by
  obtain ⟨⟨k0, k1, k2⟩, oe, vs, T, oT, ts, he, hc, hd, h1, ⟨hn, hne⟩, hT, hdT, h3⟩ := hx
  have hsz : 3 < ts.size := (Array.getElem?_eq_some_iff.mp h3).1
  unfold setFlight
  refine wpAny_bind (wpAny_field he hd h1 ?_)
  rw [if_pos (show (Value.ref T != Value.none) = true from by simp)]
  refine wpAny_setField hT hdT hsz (h _ ⟨⟨fun b o q => ?_, k1, k2.of_keeps fun b o q1 q2 => ⟨o, (turn_rest b (rec_ne hT hdT q1 q2)).trans q1, rfl⟩⟩, oe, vs, T, _, _, (turn_rest e (Ne.symm hne)).trans he, hc, hd, h1, ⟨hn, hne⟩, Heap.get?_update_self _ hT (Obj.isFreed_of_fields (Obj.data_mapFields hdT _)), Obj.data_mapFields hdT _, by simp [hsz]⟩
    fun b o q1 q2 => ⟨o.slots, (turn_rest b (rec_ne hT hdT q1 q2)).trans q1⟩)
  exact (turn_rest b fun z => by rw [z, hn] at q; cases q).trans (k0 b o q)
theorem Fly.off (x : Fly B (env :: outer) e cls dc fl s.heap) : Fly B outer e cls dc fl s.heap := ⟨⟨x.1.1, x.1.2.1, x.1.2.2.2.2⟩, x.2⟩
theorem Fly.pop {h : Heap} (x : Fly B (env :: outer) e cls dc fl h) : Fly B outer e cls dc fl h := ⟨⟨x.1.1, x.1.2.1, x.1.2.2.2.2⟩, x.2⟩
/-- it leaves the frame in which it was raised -/
theorem fly_leave_first (hfr : A.frames = some (env :: outer)) (hf : env.frame = some L) (hst : B.StaysIn s.heap ∧ B.get? e = none ∧ s.heap.FunFrames B (env :: outer))
    (he : s.heap.get? e = some oe) (hc : oe.cls = cls ∧ oe.dict = dc) (hd : oe.data = .fields vs) (h1 : vs[1]? = some .none)
    (h : ∀ h', Fly B outer e cls dc .none h' → s.heap.UpToSlots h' → Q () { s with heap := h' }) : wpAny M A (leaving env (.ref e)) Q E s := by
  unfold leaving
  exact wpAny_bind (fly_first hfr hf hst he hc hd h1 fun h₁ x₁ u₁ => fly_free (s := { s with heap := h₁ }) x₁ fun h₂ x₂ u₂ => h h₂ x₂.pop (u₁.trans u₂))
theorem fly_leave_next (hfr : A.frames = some (env :: outer)) (hf : env.frame = some L) (hx : Fly B (env :: outer) e cls dc .none s.heap)
    (h : ∀ h', Fly B outer e cls dc .none h' → s.heap.UpToSlots h' → Q () { s with heap := h' }) : wpAny M A (leaving env (.ref e)) Q E s := by
  unfold leaving
  exact wpAny_bind (fly_next hfr hf hx fun h₁ x₁ u₁ => fly_free (s := { s with heap := h₁ }) x₁ fun h₂ x₂ u₂ => h h₂ x₂.pop (u₁.trans u₂))
end
/-- a fault of the text's own, with a dict, is under way; the ledger stands; G: the ground of the frame that it has left -/
def RaisedD (base G : Heap) (l : List Env) (e C d : Addr) (news : List (Addr × Obj)) (h : Heap) : Prop :=
  ∃ B, base.StaysIn B ∧ (∀ b o, G.get? b = some o → b ∉ l.filterMap (·.frame) → B.get? b = some o) ∧ (∀ q ∈ news, B.get? q.1 = some q.2 ∧ G.get? q.1 = none ∧ base.get? q.1 = none) ∧ Fly B l e (.ref C) (some d) .none h
section
variable {M : Model} {A : Around} {E : Value → Shared → Prop} {s' : Shared} {base g g₂ h : Heap} {outer : List Env} {L a e C d t : Addr} {m : Str → Option Value} {name : Str} {scope : Scope} {cd : Value} {Q : Unit → Shared → Prop} {news : List (Addr × Obj)}
theorem leave_raiseD (K : Below A base outer g) (F : Fr g L s'.heap m) (N : News g L s'.heap ((e, { cls := .ref C, dict := some d, data := .fields #[.ref t, .none, .none, .none, .bool false, .none] }) :: news)) (hne : ∀ q ∈ news, q.1 ≠ e)
    (hQ : ∀ h', RaisedD base g outer e C d news h' → g.UpToSlots h' → Q () { s' with heap := h' }) (hk : scope.kind = .function := by rfl) :
    wpAny M (A.deeper (envOf name scope L a cd)) (leaving (envOf name scope L a cd) (.ref e)) Q E s' := by
  have K' := K.push (name := name) (a := a) (cd := cd) F hk
  obtain ⟨he, heL, hge⟩ := N _ List.mem_cons_self
  have nf : ∀ env ∈ (envOf name scope L a cd :: outer), ∀ b, env.frame = some b → b ∈ e :: (envOf name scope L a cd :: outer).filterMap (·.frame) := fun env q1 b q2 => List.mem_cons_of_mem _ (List.mem_filterMap.mpr ⟨env, q1, q2⟩)
  refine fly_leave_first (B := hideAll s'.heap (e :: (envOf name scope L a cd :: outer).filterMap (·.frame))) (Around.frames_deeper K.stack) rfl ⟨fun b o q => of_hideAll _ q, hideAll_none _ List.mem_cons_self, funFrames_hide K'.frames nf⟩ he ⟨rfl, rfl⟩ rfl rfl
    fun h' x u => hQ h' ⟨_, fun b o q => ?_, fun b o q nm => ?_, fun q hq => ?_, x⟩ ((Heap.UpToSlots.of_keeps F.keep).trans u)
  · refine hideAll_get _ (K'.stays b o q) fun hm => ?_
    rcases List.mem_cons.mp hm with rfl | hm
    · have := K.stays _ _ q; rw [hge] at this; cases this
    · rw [(K'.frames.mem hm).1] at q; cases q
  · refine hideAll_get _ (F.keep b o q) fun hm => ?_
    rcases List.mem_cons.mp hm with rfl | hm
    · rw [hge] at q; cases q
    · rcases kts_mem hm with rfl | z
      · rw [kts_self F] at q; cases q
      · exact nm z
  · obtain ⟨n1, n2, n3⟩ := N _ (List.mem_cons_of_mem _ hq)
    refine ⟨hideAll_get _ n1 fun hm => ?_, n3, fresh_of_stays K.stays n3⟩
    rcases List.mem_cons.mp hm with z | hm
    · exact hne q hq z
    · obtain ⟨env, q1, q2⟩ := List.mem_filterMap.mp hm
      rcases List.mem_cons.mp q1 with rfl | q1
      · exact n2 (Option.some.inj q2).symm
      · obtain ⟨o, ho, _⟩ := (K.frames.mem (List.mem_filterMap.mpr ⟨env, q1, q2⟩)).2
        rw [n3] at ho; cases ho
theorem leave_onD (K : Below A base outer g) (F : Fr g L g₂ m) (R : RaisedD base g₂ (envOf name scope L a cd :: outer) e C d news s'.heap) (hsm : g₂.UpToSlots s'.heap)
    (hQ : ∀ h', RaisedD base g outer e C d news h' → g.UpToSlots h' → Q () { s' with heap := h' }) :
    wpAny M (A.deeper (envOf name scope L a cd)) (leaving (envOf name scope L a cd) (.ref e)) Q E s' := by
  obtain ⟨B, hB, hG, hl, hx⟩ := R
  refine fly_leave_next (Around.frames_deeper K.stack) rfl hx fun h' x u => hQ h' ⟨B, hB, fun b o q nm => hG b o (F.keep b o q) fun hm => ?_, fun q hq => ⟨(hl q hq).1, kts_none F.keep (hl q hq).2.1, (hl q hq).2.2⟩, x⟩ ((Heap.UpToSlots.of_keeps F.keep).trans (hsm.trans u))
  rcases kts_mem hm with rfl | z
  · rw [kts_self F] at q; cases q
  · exact nm z
end
end Mine
namespace Mine
set_option maxHeartbeats 8000000 in
theorem is_signed_8 {w : World} {news : List (Addr × Obj)} {t : Tok} : Can w 1 8 news 22 [.str (Str.ofString "Int8") t] (RetB news true) := by
  walk_at "mine start"
  k_steps
  all_goals walk_at "mine endB"
  all_goals rfl
set_option maxHeartbeats 8000000 in
theorem is_signed_64 {w : World} {news : List (Addr × Obj)} {t : Tok} : Can w 1 8 news 22 [.str (Str.ofString "Int64") t] (RetB news true) := by
  walk_at "mine start"
  k_steps
  all_goals walk_at "mine endB"
  all_goals rfl
end Mine
theorem Mine.words28 : True := by
  k_with "m call ref" => (k_here; (with_reducible show wpAny _ _ (call (Value.ref 22) _) _ _ _); k_dflt ((refine' Mine.Can.use ?u62k1 ?u62k2 ?u62k3 ?u62k4 ?u62k5 ?u62kK Mine.is_signed_8 ?u62kd ?u62ku ?_); (case u62k1 => k_asm); (case u62k2 => k_asm); (case u62k3 => k_asm); (case u62k4 => k_asm); (case u62k5 => k_asm); (case u62kK => first | exact rfl | assumption); (case u62kd => ktr_room); (case u62ku => ktr_units); walk_at "mine B"); all_goals ((try k_sweep); (try dsimp only); (try k_fold)))
  k_with "m call ref" => (k_here; (with_reducible show wpAny _ _ (call (Value.ref 22) _) _ _ _); k_dflt ((refine' Mine.Can.use ?u63k1 ?u63k2 ?u63k3 ?u63k4 ?u63k5 ?u63kK Mine.is_signed_64 ?u63kd ?u63ku ?_); (case u63k1 => k_asm); (case u63k2 => k_asm); (case u63k3 => k_asm); (case u63k4 => k_asm); (case u63k5 => k_asm); (case u63kK => first | exact rfl | assumption); (case u63kd => ktr_room); (case u63ku => ktr_units); walk_at "mine B"); all_goals ((try k_sweep); (try dsimp only); (try k_fold)))
  trivial
namespace Mine
set_option maxHeartbeats 8000000 in
theorem least_8 {w : World} {news : List (Addr × Obj)} {t : Tok} : Can w 2 16 news 29 [.str (Str.ofString "Int8") t] (RetI news (-128)) := by
  walk_at "mine start"
  k_steps
  all_goals walk_at "mine endI"
  all_goals rfl
set_option maxHeartbeats 8000000 in
theorem least_64 {w : World} {news : List (Addr × Obj)} {t : Tok} : Can w 2 16 news 29 [.str (Str.ofString "Int64") t] (RetI news (-9223372036854775808)) := by
  walk_at "mine start"
  k_steps
  all_goals walk_at "mine endI"
  all_goals rfl
set_option maxHeartbeats 8000000 in
theorem greatest_8 {w : World} {news : List (Addr × Obj)} {t : Tok} : Can w 2 16 news 36 [.str (Str.ofString "Int8") t] (RetI news 127) := by
  walk_at "mine start"
  k_steps
  all_goals walk_at "mine endI"
  all_goals rfl
set_option maxHeartbeats 8000000 in
theorem greatest_64 {w : World} {news : List (Addr × Obj)} {t : Tok} : Can w 2 16 news 36 [.str (Str.ofString "Int64") t] (RetI news 9223372036854775807) := by
  walk_at "mine start"
  k_steps
  all_goals walk_at "mine endI"
  all_goals rfl
end Mine
theorem Mine.words29 : True := by
  k_with "m call ref" => (k_here; (with_reducible show wpAny _ _ (call (Value.ref 29) _) _ _ _); k_dflt ((refine' Mine.Can.use ?u64k1 ?u64k2 ?u64k3 ?u64k4 ?u64k5 ?u64kK Mine.least_8 ?u64kd ?u64ku ?_); (case u64k1 => k_asm); (case u64k2 => k_asm); (case u64k3 => k_asm); (case u64k4 => k_asm); (case u64k5 => k_asm); (case u64kK => first | exact rfl | assumption); (case u64kd => ktr_room); (case u64ku => ktr_units); walk_at "mine I"); all_goals ((try k_sweep); (try dsimp only); (try k_fold)))
  k_with "m call ref" => (k_here; (with_reducible show wpAny _ _ (call (Value.ref 29) _) _ _ _); k_dflt ((refine' Mine.Can.use ?u65k1 ?u65k2 ?u65k3 ?u65k4 ?u65k5 ?u65kK Mine.least_64 ?u65kd ?u65ku ?_); (case u65k1 => k_asm); (case u65k2 => k_asm); (case u65k3 => k_asm); (case u65k4 => k_asm); (case u65k5 => k_asm); (case u65kK => first | exact rfl | assumption); (case u65kd => ktr_room); (case u65ku => ktr_units); walk_at "mine I"); all_goals ((try k_sweep); (try dsimp only); (try k_fold)))
  k_with "m call ref" => (k_here; (with_reducible show wpAny _ _ (call (Value.ref 36) _) _ _ _); k_dflt ((refine' Mine.Can.use ?u66k1 ?u66k2 ?u66k3 ?u66k4 ?u66k5 ?u66kK Mine.greatest_8 ?u66kd ?u66ku ?_); (case u66k1 => k_asm); (case u66k2 => k_asm); (case u66k3 => k_asm); (case u66k4 => k_asm); (case u66k5 => k_asm); (case u66kK => first | exact rfl | assumption); (case u66kd => ktr_room); (case u66ku => ktr_units); walk_at "mine I"); all_goals ((try k_sweep); (try dsimp only); (try k_fold)))
  k_with "m call ref" => (k_here; (with_reducible show wpAny _ _ (call (Value.ref 36) _) _ _ _); k_dflt ((refine' Mine.Can.use ?u67k1 ?u67k2 ?u67k3 ?u67k4 ?u67k5 ?u67kK Mine.greatest_64 ?u67kd ?u67ku ?_); (case u67k1 => k_asm); (case u67k2 => k_asm); (case u67k3 => k_asm); (case u67k4 => k_asm); (case u67k5 => k_asm); (case u67kK => first | exact rfl | assumption); (case u67kd => ktr_room); (case u67ku => ktr_units); walk_at "mine I"); all_goals ((try k_sweep); (try dsimp only); (try k_fold)))
  trivial
namespace Mine
set_option maxHeartbeats 8000000 in
theorem fits_8 {w : World} {news : List (Addr × Obj)} {t u : Tok} {n : Int} : Can w 3 24 news 43 [.str (Str.ofString "Int8") t, .int n u] (RetB news (decide (-128 ≤ n) && decide (n ≤ 127))) := by
  walk_at "mine start"
  k_steps
  all_goals walk_at "mine endB"
  all_goals walk_at "mine tidy"
  all_goals simp [*]
set_option maxHeartbeats 8000000 in
theorem fits_64 {w : World} {news : List (Addr × Obj)} {t u : Tok} {n : Int} : Can w 3 24 news 43 [.str (Str.ofString "Int64") t, .int n u] (RetB news (decide (-9223372036854775808 ≤ n) && decide (n ≤ 9223372036854775807))) := by
  walk_at "mine start"
  k_steps
  all_goals walk_at "mine endB"
  all_goals walk_at "mine tidy"
  all_goals simp [*]
end Mine
namespace Mine
abbrev XO (d t : Addr) : Obj := { cls := .ref 81, dict := some d, data := .fields #[.ref t, .none, .none, .none, .bool false, .none] }
/-- the dict of a fault: what its two __init__ laid there -/
abbrev VD (h1 h2 h3 : Int) (k1 k2 k3 : Tok) (v1 v2 v3 : Value) : List DictEntry := [⟨h1, .str (Str.ofString "message") k1, v1⟩, ⟨h2, .str (Str.ofString "spot") k2, v2⟩, ⟨h3, .str (Str.ofString "value") k3, v3⟩]
abbrev V3 (x y z : Value) (n : Nat) : Obj := { cls := .type "tuple", data := .seq #[x, y, z] n }
/-- a fault of the text's own comes back, its value and the value's kind stand -/
def RetX (news : List (Addr × Obj)) (kind : Str) (h₀ : Heap) (L : Addr) (m : Str → Option Value) (s : Shared) (Q : Value → Shared → Prop) : Prop :=
  ∀ (e d v k t : Addr) (h1 h2 h3 : Int) (k1 k2 k3 : Tok) (v1 v2 : Value) (n n2 n3 : Nat) (x0 x2 y0 y2 : Value) (tk : Tok) (h' : Heap) (tk' : Nat),
    (∀ q ∈ (d, dictOf (VD h1 h2 h3 k1 k2 k3 v1 v2 (.ref v)) n) :: (v, V3 x0 (.ref k) x2 n2) :: (k, V3 y0 (.str kind tk) y2 n3) :: news, q.1 ≠ e) → Fr h₀ L h' m →
    News h₀ L h' ((e, XO d t) :: (d, dictOf (VD h1 h2 h3 k1 k2 k3 v1 v2 (.ref v)) n) :: (v, V3 x0 (.ref k) x2 n2) :: (k, V3 y0 (.str kind tk) y2 n3) :: news) → Q (.ref e) { s with heap := h', toks := tk' }
/-- the frames may lie deeper than they do -/
theorem wp_deep {α : Type} {M : Model} {t : Sem α} {Q : α → Shared → Prop} {E : Value → Shared → Prop} {s : Shared} {h : Option Value} {fr : Option (List Env)} {g : Option (List Code)} {d d' u u' : Nat} (hd : d ≤ d') (hu : u ≤ u') (x : wpAny M ⟨h, d', fr, g, u'⟩ t Q E s) : wpAny M ⟨h, d, fr, g, u⟩ t Q E s :=
  fun Γ p ⟨i1, i2, i3, i4, i5⟩ => x Γ p ⟨i1, Nat.le_trans i2 hd, i3, i4, Nat.le_trans i5 hu⟩
/-- an object of the written part, as it stands there (no twin of it is wanted) -/
noncomputable def BE (P : Params) (a : Addr) : Obj := ((Mine.hd.heap_1_39 P).lookup a).getD default
theorem BE.at {w : World} {h : Heap} {a : Addr} (X : (Mine.hd.heap_1_39 w.params).In h) (e : ((Mine.hd.heap_1_39 w.params).lookup a).isSome = true) : h.get? a = some ⟨(BE w.params a).cls, (BE w.params a).dict, (BE w.params a).data, (BE w.params a).slots⟩ := by
  obtain ⟨o, q⟩ := Option.isSome_iff_exists.mp e
  have : BE w.params a = o := by unfold BE; rw [q]; rfl
  rw [this]; exact X a o q
section
variable {s : Shared} {h h₀ : Heap} {L : Addr} {m : Str → Option Value} {news nws : List (Addr × Obj)}
theorem mem_keep (D : W.X.Mem s.heap h [] nws) : ∀ b o, s.heap.get? b = some o → h.get? b = some o := fun b o q => D.keep b o q (by simp [W.X.away])
theorem mem_new (D : W.X.Mem s.heap h [] nws) (F : Fr h₀ L s.heap m) {i : Nat} {a : Addr} {o : Obj} (q : nws[i]? = some (a, o)) : h.get? a = some o ∧ a ≠ L ∧ h₀.get? a = none := by
  have q1 := (D.nw _ (List.mem_of_getElem? q)).2
  refine ⟨D.at i a o q, ?_, ?_⟩
  · rintro rfl
    obtain ⟨o, _, _, ho, _⟩ := F.ns
    dsimp only at q1
    rw [ho] at q1; cases q1
  · cases q2 : h₀.get? a with
    | none => rfl
    | some o' => have := F.keep _ _ q2; dsimp only at q1; rw [q1] at this; cases this
theorem mem_news (D : W.X.Mem s.heap h [] nws) (N : News h₀ L s.heap news) : News h₀ L h news := fun q hq => ⟨mem_keep D _ _ (N q hq).1, (N q hq).2⟩
end
/-- some object comes back -/
def RetV (news : List (Addr × Obj)) (h₀ : Heap) (L : Addr) (m : Str → Option Value) (s : Shared) (Q : Value → Shared → Prop) : Prop :=
  ∀ (a : Addr) (h' : Heap) (tk' : Nat), Fr h₀ L h' m → News h₀ L h' news → Q (.ref a) { s with heap := h', toks := tk' }
theorem rv_end {news nws : List (Addr × Obj)} {h₀ h : Heap} {L : Addr} {m : Str → Option Value} {s : Shared} {Q : Value → Shared → Prop} {a : Addr} {tk' : Nat} (R : RetV news h₀ L m s Q) (F : Fr h₀ L s.heap m) (N : News h₀ L s.heap news) (D : W.X.Mem s.heap h [] nws) :
    Q (.ref a) { s with heap := h, toks := tk' } := R a h tk' (F.keeps (mem_keep D)) (mem_news D N)
/-- a fault's value comes back -/
def RetEV (news : List (Addr × Obj)) (kind : Str) (h₀ : Heap) (L : Addr) (m : Str → Option Value) (s : Shared) (Q : Value → Shared → Prop) : Prop :=
  ∀ (v k : Addr) (n2 n3 : Nat) (x0 x2 y0 y2 : Value) (tk : Tok) (h' : Heap) (tk' : Nat), Fr h₀ L h' m → News h₀ L h' ((v, V3 x0 (.ref k) x2 n2) :: (k, V3 y0 (.str kind tk) y2 n3) :: news) → Q (.ref v) { s with heap := h', toks := tk' }
theorem ev_end {news nws : List (Addr × Obj)} {kind : Str} {h₀ h : Heap} {L : Addr} {m : Str → Option Value} {s : Shared} {Q : Value → Shared → Prop} {v k : Addr} {n2 n3 : Nat} {x0 x2 y0 y2 : Value} {tk : Tok} {tk' : Nat} (R : RetEV news kind h₀ L m s Q) (F : Fr h₀ L s.heap m) (N : News h₀ L s.heap news) (D : W.X.Mem s.heap h [] nws)
    {i j : Nat} (i0 : nws[i]? = some (v, V3 x0 (.ref k) x2 n2)) (i1 : nws[j]? = some (k, V3 y0 (.str kind tk) y2 n3)) : Q (.ref v) { s with heap := h, toks := tk' } :=
  R v k n2 n3 x0 x2 y0 y2 tk h tk' (F.keeps (mem_keep D)) fun q hq => by
    rcases List.mem_cons.mp hq with rfl | hq
    · exact mem_new D F i0
    · rcases List.mem_cons.mp hq with rfl | hq
      · exact mem_new D F i1
      · exact mem_news D N q hq
/-- the fault itself comes back -/
def RetTh (news : List (Addr × Obj)) (v : Addr) (h₀ : Heap) (L : Addr) (m : Str → Option Value) (s : Shared) (Q : Value → Shared → Prop) : Prop :=
  ∀ (e d t : Addr) (h1 h2 h3 : Int) (k1 k2 k3 : Tok) (v1 v2 : Value) (n : Nat) (h' : Heap) (tk' : Nat), (∀ q ∈ (d, dictOf (VD h1 h2 h3 k1 k2 k3 v1 v2 (.ref v)) n) :: news, q.1 ≠ e) → Fr h₀ L h' m →
    News h₀ L h' ((e, XO d t) :: (d, dictOf (VD h1 h2 h3 k1 k2 k3 v1 v2 (.ref v)) n) :: news) → Q (.ref e) { s with heap := h', toks := tk' }
theorem th_end {news nws : List (Addr × Obj)} {v : Addr} {h₀ h : Heap} {L : Addr} {m : Str → Option Value} {s : Shared} {Q : Value → Shared → Prop} {e d t : Addr} {h1 h2 h3 : Int} {k1 k2 k3 : Tok} {v1 v2 : Value} {n : Nat} {tk' : Nat} (R : RetTh news v h₀ L m s Q) (F : Fr h₀ L s.heap m) (N : News h₀ L s.heap news) (D : W.X.Mem s.heap h [] nws)
    (i0 : nws[0]? = some (d, dictOf (VD h1 h2 h3 k1 k2 k3 v1 v2 (.ref v)) n)) (i4 : nws[4]? = some (e, XO d t)) : Q (.ref e) { s with heap := h, toks := tk' } := by
  refine R e d t h1 h2 h3 k1 k2 k3 v1 v2 n h tk' (fun q hq => ?_) (F.keeps (mem_keep D)) fun q hq => ?_
  · rcases List.mem_cons.mp hq with rfl | hq
    · exact D.ne 0 4 d e _ _ i0 i4 rfl
    · exact Ne.symm (D.ne_old 4 e _ i4 q.1 q.2 (N q hq).1)
  · rcases List.mem_cons.mp hq with rfl | hq
    · exact mem_new D F i4
    · rcases List.mem_cons.mp hq with rfl | hq
      · exact mem_new D F i0
      · exact mem_news D N q hq
end Mine
open PySem.W.X in
local macro_rules
  | `(tactic| x_close) => `(tactic| (first | exact Mine.rv_end (by assumption) (by assumption) (by assumption) (by assumption) | exact Mine.ev_end (i := 0) (j := 1) (by assumption) (by assumption) (by assumption) (by assumption) rfl rfl | exact Mine.ev_end (i := 1) (j := 2) (by assumption) (by assumption) (by assumption) (by assumption) rfl rfl | exact Mine.th_end (by assumption) (by assumption) (by assumption) (by assumption) rfl rfl))
namespace Mine
-- the twin of the written part is not wanted (its proof is long)
theorem made0.xw3067323843314967869 : True := trivial
set_option Elab.async true
set_option maxHeartbeats 8000000 in
theorem made0 {w : World} {gd : Option (List Code)} {cn : Str} {cs : Scope} {L a : Addr} {ccd : Value} {cl : List (Str × Addr)} {outer : List Env} {news : List (Addr × Obj)} {h₀ : Heap} {m : Str → Option Value} {s : Shared} {Q E : Value → Shared → Prop} {v : Addr}
    (hB0 : s.heap.get? (nat_lit 0) = some ⟨(BE w.params (nat_lit 0)).cls, (BE w.params (nat_lit 0)).dict, (BE w.params (nat_lit 0)).data, (BE w.params (nat_lit 0)).slots⟩) (hB3 : s.heap.get? (nat_lit 3) = some ⟨(BE w.params (nat_lit 3)).cls, (BE w.params (nat_lit 3)).dict, (BE w.params (nat_lit 3)).data, (BE w.params (nat_lit 3)).slots⟩)
    (X : (Mine.hd.heap_1_39 w.params).In s.heap) (F : Fr h₀ L s.heap m) (N : News h₀ L s.heap news) (R : RetTh news v h₀ L m s Q) :
    wpAny (model prog w) (ktrTop 600 9000 gd cn cs L a ccd cl outer) (call (.ref 81) [.ref v]) Q E s := by
  x_run
set_option Elab.async false
#print axioms Mine.made0
set_option maxHeartbeats 8000000 in
theorem value0 {w : World} {gd : Option (List Code)} {cn : Str} {cs : Scope} {L a : Addr} {ccd : Value} {cl : List (Str × Addr)} {outer : List Env} {news : List (Addr × Obj)} {h₀ : Heap} {m : Str → Option Value} {s : Shared} {Q E : Value → Shared → Prop} {P x : Addr} {n : Nat} {kind : Str} {t0 : Tok}
    (hB0 : s.heap.get? (nat_lit 0) = some ⟨(BE w.params (nat_lit 0)).cls, (BE w.params (nat_lit 0)).dict, (BE w.params (nat_lit 0)).data, (BE w.params (nat_lit 0)).slots⟩) (hB3 : s.heap.get? (nat_lit 3) = some ⟨(BE w.params (nat_lit 3)).cls, (BE w.params (nat_lit 3)).dict, (BE w.params (nat_lit 3)).data, (BE w.params (nat_lit 3)).slots⟩)
    (X : (Mine.hd.heap_1_39 w.params).In s.heap) (F : Fr h₀ L s.heap m) (N : News h₀ L s.heap news) (hP : s.heap.get? P = some ⟨.type "tuple", none, .seq #[.ref x] n, #[]⟩) (R : RetEV news kind h₀ L m s Q) :
    wpAny (model prog w) (ktrTop 600 9000 gd cn cs L a ccd cl outer) (call (.ref 104) [.str kind t0, .ref P]) Q E s := by
  x_run
set_option maxHeartbeats 8000000 in
theorem text0 {w : World} {gd : Option (List Code)} {cn : Str} {cs : Scope} {L a : Addr} {ccd : Value} {cl : List (Str × Addr)} {outer : List Env} {news : List (Addr × Obj)} {h₀ : Heap} {m : Str → Option Value} {s : Shared} {Q E : Value → Shared → Prop} {t0 : Tok}
    (X : (Mine.hd.heap_1_39 w.params).In s.heap) (F : Fr h₀ L s.heap m) (N : News h₀ L s.heap news) (R : RetV news h₀ L m s Q) :
    wpAny (model prog w) (ktrTop 600 9000 gd cn cs L a ccd cl outer) (call (.ref 90) [.str (Str.ofString "a range cannot have a step of 0") t0]) Q E s := by
  x_run
set_option maxHeartbeats 8000000 in
theorem text1 {w : World} {gd : Option (List Code)} {cn : Str} {cs : Scope} {L a : Addr} {ccd : Value} {cl : List (Str × Addr)} {outer : List Env} {news : List (Addr × Obj)} {h₀ : Heap} {m : Str → Option Value} {s : Shared} {Q E : Value → Shared → Prop} {t0 : Tok}
    (X : (Mine.hd.heap_1_39 w.params).In s.heap) (F : Fr h₀ L s.heap m) (N : News h₀ L s.heap news) (R : RetV news h₀ L m s Q) :
    wpAny (model prog w) (ktrTop 600 9000 gd cn cs L a ccd cl outer) (call (.ref 90) [.str (Str.ofString "a range has more numbers than can be told") t0]) Q E s := by
  x_run
theorem room_le {dp d : Nat} (h : dp + 399 < recursionLimit) : dp ≤ 600 := by simp only [recursionLimit] at h; omega
theorem units_le {un : Nat} (h : un + 900 < cLine) : un ≤ 9000 := by simp only [cLine] at h; omega
theorem made {w : World} {news : List (Addr × Obj)} {v : Addr} : Can w 399 900 news 81 [.ref v] (RetTh news v) :=
  fun mean mg mb dp un gd cn cs a ccd cl outer A₀ base h₀ L m s Q E B F X N T hk hd hu R => wp_deep (room_le (d := 0) hd) (units_le hu) (made0 (BE.at (X.keeps F.keep) rfl) (BE.at (X.keeps F.keep) rfl) (X.keeps F.keep) F N R)
theorem value {w : World} {news : List (Addr × Obj)} {P x : Addr} {n : Nat} {kind : Str} {t0 : Tok} (hP : (P, ({ cls := .type "tuple", data := .seq #[.ref x] n } : Obj)) ∈ news) : Can w 399 900 news 104 [.str kind t0, .ref P] (RetEV news kind) :=
  fun mean mg mb dp un gd cn cs a ccd cl outer A₀ base h₀ L m s Q E B F X N T hk hd hu R => wp_deep (room_le (d := 0) hd) (units_le hu) (value0 (BE.at (X.keeps F.keep) rfl) (BE.at (X.keeps F.keep) rfl) (X.keeps F.keep) F N (N _ hP).1 R)
/-- the two texts -/
def IsText (x : Str) : Prop := x = Str.ofString "a range cannot have a step of 0" ∨ x = Str.ofString "a range has more numbers than can be told"
theorem text {w : World} {news : List (Addr × Obj)} {x : Str} {t0 : Tok} (hx : IsText x) : Can w 399 900 news 90 [.str x t0] (RetV news) := by
  intro mean mg mb dp un gd cn cs a ccd cl outer A₀ base h₀ L m s Q E B F X N T hk hd hu R
  rcases hx with rfl | rfl
  · exact wp_deep (room_le (d := 0) hd) (units_le hu) (text0 (X.keeps F.keep) F N R)
  · exact wp_deep (room_le (d := 0) hd) (units_le hu) (text1 (X.keeps F.keep) F N R)
theorem RetX.ok {news led : List (Addr × Obj)} {kind : Str} {h₀ h' : Heap} {L : Addr} {m : Str → Option Value} {s : Shared} {Q : Value → Shared → Prop} {e d v k t : Addr} {h1 h2 h3 : Int} {k1 k2 k3 : Tok} {v1 v2 : Value} {n n2 n3 : Nat} {x0 x2 y0 y2 : Value} {tk : Tok} {tk' : Nat}
    (R : RetX news kind h₀ L m s Q) (F : Fr h₀ L h' m) (N : News h₀ L h' ((e, XO d t) :: led)) (hne : ∀ q ∈ led, q.1 ≠ e) (i0 : (d, dictOf (VD h1 h2 h3 k1 k2 k3 v1 v2 (.ref v)) n) ∈ led) (i1 : (v, V3 x0 (.ref k) x2 n2) ∈ led) (i2 : (k, V3 y0 (.str kind tk) y2 n3) ∈ led) (hs : ∀ p ∈ news, p ∈ led) :
    Q (.ref e) { s with heap := h', toks := tk' } := by
  have sub : ∀ q ∈ (d, dictOf (VD h1 h2 h3 k1 k2 k3 v1 v2 (.ref v)) n) :: (v, V3 x0 (.ref k) x2 n2) :: (k, V3 y0 (.str kind tk) y2 n3) :: news, q ∈ led := List.forall_mem_cons.mpr ⟨i0, List.forall_mem_cons.mpr ⟨i1, List.forall_mem_cons.mpr ⟨i2, hs⟩⟩⟩
  exact R e d v k t h1 h2 h3 k1 k2 k3 v1 v2 n n2 n3 x0 x2 y0 y2 tk h' tk' (fun q hq => hne q (sub q hq)) F fun q hq => (List.mem_cons.mp hq).elim (fun z => z ▸ N _ List.mem_cons_self) fun hq => N _ (List.mem_cons_of_mem _ (sub q hq))
end Mine
theorem Mine.words30 : True := by
  k_with "m call ref" => (k_here; (with_reducible show wpAny _ _ (call (Value.ref 81) _) _ _ _); k_dflt ((refine' Mine.Can.use ?u68k1 ?u68k2 ?u68k3 ?u68k4 ?u68k5 ?u68kK Mine.made ?u68kd ?u68ku ?_); (case u68k1 => k_asm); (case u68k2 => k_asm); (case u68k3 => k_asm); (case u68k4 => k_asm); (case u68k5 => k_asm); (case u68kK => first | exact rfl | assumption); (case u68kd => ktr_room); (case u68ku => ktr_units); walk_at "mine Th"); all_goals ((try k_sweep); (try dsimp only); (try k_fold)))
  k_with "m call ref" => (k_here; (with_reducible show wpAny _ _ (call (Value.ref 104) _) _ _ _); k_dflt ((refine' Mine.Can.use ?u69k1 ?u69k2 ?u69k3 ?u69k4 ?u69k5 ?u69kK (Mine.value ?m69_1) ?u69kd ?u69ku ?_); (case u69k1 => k_asm); (case u69k2 => k_asm); (case u69k3 => k_asm); (case u69k4 => k_asm); (case u69k5 => k_asm); (case u69kK => first | exact rfl | assumption); (case m69_1 => k_mem); (case u69kd => ktr_room); (case u69ku => ktr_units); walk_at "mine EV"); all_goals ((try k_sweep); (try dsimp only); (try k_fold)))
  k_with "m call ref" => (k_here; (with_reducible show wpAny _ _ (call (Value.ref 90) _) _ _ _); k_dflt ((refine' Mine.Can.use ?u70k1 ?u70k2 ?u70k3 ?u70k4 ?u70k5 ?u70kK (Mine.text ?m70_1) ?u70kd ?u70ku ?_); (case u70k1 => k_asm); (case u70k2 => k_asm); (case u70k3 => k_asm); (case u70k4 => k_asm); (case u70k5 => k_asm); (case u70kK => first | exact rfl | assumption); (case m70_1 => assumption); (case u70kd => ktr_room); (case u70ku => ktr_units); walk_at "mine V"); all_goals ((try k_sweep); (try dsimp only); (try k_fold)))
  k_with "mine endX" => (refine' Mine.RetX.ok ?m71_1 ?m71_2 ?m71_3 ?m71_4 ?m71_5 ?m71_6 ?m71_7 ?m71_8; (case m71_1 => assumption); (case m71_2 => assumption); (case m71_3 => k_asm); (case m71_5 => k_mem); (case m71_6 => k_mem); (case m71_7 => k_mem); (case m71_4 => assumption); (case m71_8 => (intro p hp; repeat (first | exact hp | (refine List.Mem.tail _ ?_)))))
  k_with "mine Th" => (unfold Mine.RetTh; intro e9 d9 t9 i9 j9 l9 a9 b9 c9 f9 w9 n9 h9 tk9 ne9 F9 N9)
  k_with "mine EV" => (unfold Mine.RetEV; intro v9 k9 m9 o9 x9 y9 z9 u9 q9 h9 tk9 F9 N9)
  k_with "mine V" => (unfold Mine.RetV; intro a9 h9 tk9 F9 N9)
  trivial
namespace Mine
set_option maxHeartbeats 8000000 in
theorem thrown_text {w : World} {news : List (Addr × Obj)} {kind x : Str} {t0 t1 : Tok} (hx : IsText x) : Can w 400 950 news 111 [.str kind t0, .str x t1] (RetX news kind) := by
  walk_at "mine start"
  k_steps
  all_goals walk_at "mine endX"
end Mine
namespace Mine
theorem fv_end {s : Shared} {Q : Value → Shared → Prop} {v : Addr} {h : Heap} {nws : List (Addr × Obj)} {tk' : Nat} (R : ∀ (h' : Heap) (tk' : Nat), (∀ b o, s.heap.get? b = some o → h'.get? b = some o) → Q (.ref v) { s with heap := h', toks := tk' }) (D : W.X.Mem s.heap h [] nws) :
    Q (.ref v) { s with heap := h, toks := tk' } := R h tk' fun b o q => D.keep b o q (by simp [W.X.away])
end Mine
open PySem.W.X in
local macro_rules
  | `(tactic| x_close) => `(tactic| (first | exact Mine.fv_end (by assumption) (by assumption) | (rename_i R; exact R _ _ (fun _ _ q => q))))
namespace Mine
set_option maxHeartbeats 8000000 in
theorem fault_value {w : World} {e1 : Env} {cn : Str} {cs : Scope} {L a : Addr} {ccd : Value} {hdl : Option Value} {tk k1 k2 k3 : Tok} {s : Shared} {Q E : Value → Shared → Prop} {e d v : Addr} {vs : Array Value} {sl : Array (Option Value)} {h1 h2 h3 : Int} {v1 v2 : Value} {n : Nat}
    (X : (Mine.hd.heap_1_39 w.params).In s.heap) (hE : s.heap.get? e = some ⟨.ref 81, some d, .fields vs, sl⟩) (hD : s.heap.get? d = some ⟨.type "dict", none, .dict (VD h1 h2 h3 k1 k2 k3 v1 v2 (.ref v)).toArray n, #[]⟩)
    (R : ∀ (h' : Heap) (tk' : Nat), (∀ b o, s.heap.get? b = some o → h'.get? b = some o) → Q (.ref v) { s with heap := h', toks := tk' }) :
    wpAny (model prog w) (((callerA.deeper e1).deeper (envOf cn cs L a ccd)).mark hdl) (call (.builtin "BaseException.__getattribute__") [.ref e, .str (Str.ofString "value") tk]) Q E s := by
  x_run
theorem bga_kind : builtinKind "BaseException.__getattribute__" = some .slot := by decide +kernel
theorem bga_bind (self : Value) : bindSpecial (.builtin "BaseException.__getattribute__") self = pure (.builtin "BaseException.__getattribute__", [self]) := by
  have hop : withoutEnding? "BaseException.__getattribute__" "#opaque" = none := by decide +kernel
  have hdat : withoutEnding? "BaseException.__getattribute__" "#data" = none := by decide +kernel
  simp only [bindSpecial, typeOf, builtinType, hop, hdat, bga_kind]; rfl
theorem get_fault {w : World} {A : Around} {E : Value → Shared → Prop} {s : Shared} {K : Frag} {e C : Addr} {oe : Obj} {name : Str} {expr : Bool} {Q : Value → Shared → Prop} (X : K.In s.heap) (he : s.heap.get? e = some oe) (hc : oe.cls = .ref C)
    (hga : findIn K (.ref C) "__getattribute__" = some (some (.builtin "BaseException.__getattribute__"))) (hgt : findIn K (.ref C) "__getattr__" = some none)
    (h : wpAny (model prog w) A (call (.builtin "BaseException.__getattribute__") [.ref e, .str name s.toks]) (fun v s' => wpAny (model prog w) A (handedOut v) Q E s') (fun _ _ => False) { s with toks := s.toks + 1 }) :
    wpAny (model prog w) A (getAttr (.ref e) name expr) Q E s := by
  obtain ⟨hh, g, d, t, os⟩ := s
  have L0 : Looks (model prog w) hh (typeOf (.ref e)) (.ref C) := hc ▸ (Looks.ld he).andThen .now
  have L1 := looks_findIn (M := model prog w) X hga
  have L2 := looks_findIn (M := model prog w) X hgt
  unfold getAttr getAttrBy
  refine wpAny_bind (wpAny_mkText (wpAny_holding (wpAny_bind (L0.at (wpAny_bind (L1.at ?_))))))
  show wpAny _ _ (getAttrByItsOwn _ _ _ _ _ _) _ _ _
  unfold getAttrByItsOwn
  refine wpAny_bind (show wpAny _ _ (typeLookup (.ref C) "__getattr__") _ _ _ from L2.at ?_)
  refine wpAny_bind (wpAny_attempt (wpAny_holding ?_))
  have e1 : callGetattribute (.ref e) (.str name t) (.builtin "BaseException.__getattribute__") expr = boundAndCalled (.builtin "BaseException.__getattribute__") (.ref e) (.str name t) := by cases expr <;> rfl
  rw [e1]
  unfold boundAndCalled
  rw [bga_bind]
  exact wpAny_bind (wpAny_pure (wpAny_mono h (fun _ _ q => q) fun _ _ q => q.elim))
theorem fault_attr {w : World} {e1 : Env} {cn : Str} {cs : Scope} {L a : Addr} {ccd : Value} {hdl : Option Value} {k1 k2 k3 : Tok} {s : Shared} {Q E : Value → Shared → Prop} {e d v : Addr} {oe : Obj} {vs : Array Value} {h1 h2 h3 : Int} {v1 v2 : Value} {n : Nat} {expr : Bool}
    {g : Heap} {m : Str → Option Value} {rest : List (Addr × Obj)} (F : Fr g L s.heap m) (X : (Mine.hd.heap_1_39 w.params).In g) (N : News g L s.heap ((e, oe) :: (d, dictOf (VD h1 h2 h3 k1 k2 k3 v1 v2 (.ref v)) n) :: rest))
    (hc : oe.cls = .ref 81) (hd : oe.dict = some d) (hf : oe.data = .fields vs)
    (h : ∀ h' tk', Fr g L h' m → News g L h' ((e, oe) :: (d, dictOf (VD h1 h2 h3 k1 k2 k3 v1 v2 (.ref v)) n) :: rest) → Q (.ref v) { s with heap := h', toks := tk' }) :
    wpAny (model prog w) (((callerA.deeper e1).deeper (envOf cn cs L a ccd)).mark hdl) (getAttr (.ref e) (Str.ofString "value") expr) Q E s := by
  have X' := X.keeps F.keep
  obtain ⟨c, d', dt, sl⟩ := oe
  dsimp only at hc hd hf
  subst hc; subst hd; subst hf
  refine get_fault X' (N _ List.mem_cons_self).1 rfl (by k_is) (by k_is) (fault_value (s := { s with toks := s.toks + 1 }) X' (N _ List.mem_cons_self).1 (N _ (List.mem_cons_of_mem _ List.mem_cons_self)).1 fun h' tk' keep => ?_)
  show wpAny _ _ (handedOut (.ref v)) _ _ _
  rw [handedOut_of rfl]
  exact wpAny_pure (h h' tk' (F.keeps keep) fun q hq => ⟨keep _ _ (N q hq).1, (N q hq).2⟩)
end Mine
namespace Mine
/-- as Can, for a call out of the law's own frame -/
def CanL (w : World) (news : List (Addr × Obj)) (f : Addr) (vs : List Value)
    (Ret : Heap → Addr → (Str → Option Value) → Shared → (Value → Shared → Prop) → Prop) : Prop :=
  ∀ (mean : ExcName → Option Value) (mg mb : Str → Option Value) (cn : Str) (cs : Scope) (a : Addr) (ccd : Value) (h₀ : Heap) (L : Addr) (m : Str → Option Value) (s : Shared) (Q E : Value → Shared → Prop),
    Fr h₀ L s.heap m → (Mine.hd.heap_1_39 w.params).In h₀ → News h₀ L s.heap news → Top Mine.hd.view_1_40 lo mean mg mb h₀ → cs.kind = .function → Ret h₀ L m s Q →
    wpAny (model prog w) (callerA.deeper (envOf cn cs L a ccd)) (call (.ref f) vs) Q E s
/-- the text's own class of faults, as its object stands -/
def Cls (K : Frag) (C : Addr) : Prop := ∃ nm q N bs bm hdct sn sub ab col dd k0 k1 k2 k3 k5 newId, K.lookup C = some (excClassObj nm q C N bs bm hdct sn sub ab col dd k0 k1 k2 k3 k5 newId) ∧ bm.contains (.type "BaseException") = true
theorem cls81 {P : Params} : Cls (Mine.hd.heap_1_39 P) 81 := ⟨_, _, _, _, _, _, _, _, _, _, _, _, _, _, _, _, _, rfl, rfl⟩
/-- what a raised fault must show -/
def RB (C : Addr) (E : Value → Shared → Prop) (v : Value) (s : Shared) : Prop :=
  ∃ e t d nm q N bs bm hdct sn sub ab col dd k0 k1 k2 k3 k5 newId, v = .ref e ∧ s.heap.get? C = some (excClassObj nm q C N bs bm hdct sn sub ab col dd k0 k1 k2 k3 k5 newId) ∧ bm.contains (.type "BaseException") = true ∧
    s.heap.get? e = some { cls := .ref C, dict := some d, data := .fields #[.ref t, .none, .none, .none, .bool false, .none] } ∧ E (.ref e) s
theorem RB.ok {C e t d : Addr} {E : Value → Shared → Prop} {s : Shared} {K : Frag} {h₀ : Heap} {L : Addr} {m : Str → Option Value} {news : List (Addr × Obj)} (F : Fr h₀ L s.heap m) (X : K.In h₀) (c : Cls K C)
    (N : News h₀ L s.heap ((e, { cls := .ref C, dict := some d, data := .fields #[.ref t, .none, .none, .none, .bool false, .none] }) :: news)) (h : E (.ref e) s) : RB C E (.ref e) s := by
  obtain ⟨nm, q, N', bs, bm, hdct, sn, sub, ab, col, dd, k0, k1, k2, k3, k5, newId, c1, c2⟩ := c
  exact ⟨e, t, d, nm, q, N', bs, bm, hdct, sn, sub, ab, col, dd, k0, k1, k2, k3, k5, newId, rfl, F.keep _ _ (X _ _ c1), c2, (N _ List.mem_cons_self).1, h⟩
theorem raise_D {M : Model} {A : Around} {E : Value → Shared → Prop} {s : Shared} {env : Env} {C : Addr} {x : PySem.Expr} {pos : Pos} {Q : Flow → Shared → Prop} (hh : A.handled = none) (h : wpAny M A (eval x env) (RB C E) E s) : wpAny M A (exec (.Raise (some x) none pos) env) Q E s := by
  have key : wpAny M A (raiseStmt env (some (do let v ← eval x env; standAt pos; pure v)) none) Q E s := by
    unfold raiseStmt
    refine wpAny_bind (wpAny_mono (wpAny_bind (wpAny_mono h (fun v s₁ h₁ => wpAny_bind (wpAny_standAt (wpAny_pure h₁))) fun _ _ y => y)) (fun v s₁ h₁ => ?_) fun _ _ y => y)
    obtain ⟨e, t, d, nm, q, N, bs, bm, hdct, sn, sub, ab, col, dd, k0, k1, k2, k3, k5, newId, rfl, hC, hb, he, hE⟩ := h₁
    have hcB : (Value.ref C :: bm).contains (.type "BaseException") = true := by rw [List.contains_cons, hb, Bool.or_true]
    obtain ⟨hp, g, dr, tk, os⟩ := s₁
    repeat (first | with_reducible refine wpAny_loadPart_at he ?_ | with_reducible refine wpAny_loadPart_at hC ?_ | (with_reducible refine wpAny_isSubtype_exc hC ?_; rw [hcB]) | wp_step)
    exact wpAny_raiseNew_none hh hE
  rw [arm_exec_Raise]
  first
    | exact wpAny_bind (wpAny_standAt key)
    | (simp only [evalOpt, Option.map]; exact wpAny_bind (wpAny_standAt key))
    | (show wpAny M A (do standAt pos; raiseStmt env (some (do let v ← eval x env; standAt pos; pure v)) none) Q E s; exact wpAny_bind (wpAny_standAt key))
section
variable {prog : Program} {w : World} {A₀ : Around} {E : Value → Shared → Prop} {s' : Shared} {h₀ h : Heap} {outer : List Env} {L a e C d : Addr} {m : Str → Option Value} {name : Str} {scope : Scope} {cd : Value}
  {n : Str} {b₀ : Stmt} {suite : List Stmt} {pos np : Pos} {rest : List ExceptHandler} {Q : Flow → Shared → Prop} {news : List (Addr × Obj)}
  {p : Program} {loose : List Str} {mg mb : Str → Option Value} {x : Str} {KF : Frag}
theorem caught_D {G base g : Heap} {mean : ExcName → Option Value} (R : RaisedD base G (envOf name scope L a cd :: outer) e C d news s'.heap) (F : Fr g L G m) (K : Below A₀ base outer g) (hsm : G.UpToSlots s'.heap)
    (XB : KF.In base) (TB : Top p loose mean mg mb base) (ex : nsIn KF mainGlobals x = some (some (.ref C))) (c : Cls KF C)
    (k : ∀ h' g' tk oe vs, oe.cls = .ref C → oe.dict = some d → oe.data = .fields vs → KtsTurn (outer.filterMap (·.frame)) g g' → Fr g' L h' (fun y => if y = n then some (.ref e) else m y) → News g' L h' ((e, oe) :: news) → Below A₀ base outer g' → KF.In g' → Top p loose mean mg mb g' →
      wpAny (model prog w) ((A₀.deeper (envOf name scope L a cd)).mark (some (.ref e))) (execs (b₀ :: suite) (envOf name scope L a cd))
        (fun f s₄ => wpAny (model prog w) (A₀.deeper (envOf name scope L a cd)) (do bindName (envOf name scope L a cd) n .none; unbindBehindTheSuite (envOf name scope L a cd) n pos) (fun _ s₅ => Q f s₅) E s₄)
        (AsSuiteRaised (model prog w) ((A₀.deeper (envOf name scope L a cd)).mark (some (.ref e))) (envOf name scope L a cd) n pos (notedBy (model prog w) ((A₀.deeper (envOf name scope L a cd)).mark (some (.ref e))) (envOf name scope L a cd) (cameBackBy (model prog w) (A₀.deeper (envOf name scope L a cd)) (envOf name scope L a cd) E)))
        { s' with heap := h', toks := tk })
    (hk : scope.kind = .function := by rfl) (hlo : (envOf name scope L a cd).kindOf n = some .local := by rfl) (hx : (envOf name scope L a cd).kindOf x = some .globalImplicit := by rfl) (hd : (x == ("__debug__" : Str)) = false := by decide) :
    wpAny (model prog w) (A₀.deeper (envOf name scope L a cd)) (noteFrame (.ref e) (envOf name scope L a cd))
      (fun _ s₂ => wpAny (model prog w) (A₀.deeper (envOf name scope L a cd)) (setFlight (.ref e) none) (fun _ s₃ =>
        wpAny (model prog w) (A₀.deeper (envOf name scope L a cd)) (handleBy (.ref e) (envOf name scope L a cd) (.ExceptHandler (some (.Name x np)) (some n) (b₀ :: suite) pos :: rest)) Q E s₃) E s₂) E s' := by
  obtain ⟨B, hB, hG, hl, hx0⟩ := R
  have hL : B.get? L = none := by
    obtain ⟨_, ⟨L', _, q1, q2, _⟩, _⟩ := hx0.1.2.2
    obtain rfl : L = L' := Option.some.inj q1
    exact q2
  refine fly_next (Around.frames_deeper K.stack) rfl hx0 fun h₁ x₁ u₁ => ?_
  refine fly_free (s := { s' with heap := h₁ }) x₁ fun h₂ x₂ u₂ => ?_
  have w₂ := hsm.trans (u₁.trans u₂)
  obtain ⟨g₂, _, F₂, K₂⟩ := kts_ground K F hG x₂.1.1 w₂
  have X₂ : KF.In g₂ := XB.keeps K₂.stays
  obtain ⟨oe, _, _, _, _, he, hc, _⟩ := id x₂.2
  obtain ⟨nm, q, N, bs, bm, hdct, sn, sub, ab, col, dd, k0, k1, k2, k3, k5, newId, c1, c2⟩ := c
  refine wpAny_handleBy_cons (codeAny_handlers_test (name_K F₂ X₂ (topRead_of (TB.keeps K₂.stays)) ex ?_ hk hx hd)) (by intro q; cases q)
  refine wpAny_excMatches_sub_self (F₂.keep _ _ (X₂ _ _ c1)) he hc.1 c2 (codeAny_handlers_suite_as ?_)
  refine fly_free (s := { s' with heap := h₂ }) x₂ fun h₃ x₃ u₃ => ?_
  obtain ⟨g₃, T₃, F₃, K₃⟩ := kts_ground K F hG x₃.1.1 (w₂.trans u₃)
  obtain ⟨oe', vs', _, _, _, he', hc', hd', _⟩ := id x₃.2
  have fe : g₃.get? e = none := T₃.none_ _ (kts_fresh F hG x₃.1.2.1 fun o ho hm => by
    obtain ⟨_, o', ho', hn⟩ := K.frames.mem hm
    rw [ho] at ho'; cases ho'
    obtain ⟨sl, hs⟩ := (w₂.trans u₃) _ _ (F.keep _ _ ho) hn
    try dsimp only at he'
    rw [he'] at hs; cases hs
    exact hn _ hd')
  have N₃ : News g₃ L h₃ ((e, oe') :: news) := fun q hq => by
    rcases List.mem_cons.mp hq with rfl | hq
    · refine ⟨he', ?_, fe⟩
      rintro rfl
      obtain ⟨_, es, n', g1, g2, _⟩ := F₃.ns
      try dsimp only at he'
      rw [g1] at he'; cases he'
      rw [g2] at hd'; cases hd'
    · exact ⟨x₃.1.1 _ _ (hl q hq).1, (fun z => by have := (hl q hq).1; rw [z, hL] at this; cases this), T₃.none_ _ (kts_none F.keep (hl q hq).2.1)⟩
  refine stN (s := { s' with heap := h₃ }) F₃ N₃ (fun h₄ F₄ N₄ => ?_) hk hlo
  exact k h₄ g₃ _ oe' vs' hc'.1 hc'.2 hd' T₃ F₄ N₄ K₃ (XB.keeps K₃.stays) (TB.keeps K₃.stays)
end
end Mine
namespace Mine
theorem itemV {w : World} {A : Around} {E : Value → Shared → Prop} {s : Shared} {h₀ : Heap} {L D : Addr} {news : List (Addr × Obj)} {x y z : Value} {u : Tok} {n : Nat} {value slice : PySem.Expr} {Q : Value → Shared → Prop} (N : News h₀ L s.heap news) (hm : (D, V3 x y z n) ∈ news) (h : Q y s)
    (hs : subscripted slice false (.ref D) (.int 1 u) = operate [.ref D, .int 1 u] (getItem (.ref D) (.int 1 u)) := by with_unfolding_all rfl) : wpAny (model prog w) A (subscriptTail value slice (.ref D) (.int 1 u)) Q E s :=
  item_tupleT (News.isTup N hm) (by decide) (by decide) rfl rfl h hs
theorem raise_81 {M : Model} {A : Around} {E : Value → Shared → Prop} {s : Shared} {env : Env} {x : PySem.Expr} {pos : Pos} {Q : Flow → Shared → Prop} (hh : A.handled = none) (h : wpAny M A (eval x env) (RB 81 E) E s) : wpAny M A (exec (.Raise (some x) none pos) env) Q E s := raise_D hh h
theorem RB.ok81 {e t d : Addr} {E : Value → Shared → Prop} {s : Shared} {P : Params} {h₀ : Heap} {L : Addr} {m : Str → Option Value} {news : List (Addr × Obj)} (F : Fr h₀ L s.heap m) (X : (Mine.hd.heap_1_39 P).In h₀)
    (N : News h₀ L s.heap ((e, XO d t) :: news)) (h : E (.ref e) s) : RB 81 E (.ref e) s := RB.ok F X cls81 N h
theorem eq_int_no {w : World} {A : Around} {E : Value → Shared → Prop} {s : Shared} {a b : Int} {t u : Tok} {Q : Value → Shared → Prop} (e : a ≠ b) (h : Q (.bool false) s) : wpAny (model prog w) A (compareOp .Eq (.int a t) (.int b u)) Q E s :=
  eq_int (by rw [show (a == b) = false by simp [e]]; exact h)
theorem fits_8_in {w : World} {news : List (Addr × Obj)} {t u : Tok} {n : Int} (h : 0 ≤ n ∧ n < 128) : Can w 3 24 news 43 [.str (Str.ofString "Int8") t, .int n u] (RetB news true) :=
  fun mean mg mb dp un gd cn cs a ccd cl outer A₀ base h₀ L m s Q E B F X N T hk hd hu ret => fits_8 mean mg mb dp un gd cn cs a ccd cl outer A₀ base h₀ L m s Q E B F X N T hk hd hu (by rw [show (decide (-128 ≤ n) && decide (n ≤ 127)) = true by simp; omega]; exact ret)
theorem fits_8_out {w : World} {news : List (Addr × Obj)} {t u : Tok} {n : Int} (h : 128 ≤ n) : Can w 3 24 news 43 [.str (Str.ofString "Int8") t, .int n u] (RetB news false) :=
  fun mean mg mb dp un gd cn cs a ccd cl outer A₀ base h₀ L m s Q E B F X N T hk hd hu ret => fits_8 mean mg mb dp un gd cn cs a ccd cl outer A₀ base h₀ L m s Q E B F X N T hk hd hu (by rw [show (decide (-128 ≤ n) && decide (n ≤ 127)) = false by simp; omega]; exact ret)
theorem fits_64_out {w : World} {news : List (Addr × Obj)} {t u : Tok} {n : Int} (h : 9223372036854775808 ≤ n) : Can w 3 24 news 43 [.str (Str.ofString "Int64") t, .int n u] (RetB news false) :=
  fun mean mg mb dp un gd cn cs a ccd cl outer A₀ base h₀ L m s Q E B F X N T hk hd hu ret => fits_64 mean mg mb dp un gd cn cs a ccd cl outer A₀ base h₀ L m s Q E B F X N T hk hd hu (by rw [show (decide (-9223372036854775808 ≤ n) && decide (n ≤ 9223372036854775807)) = false by simp; omega]; exact ret)
end Mine
theorem Mine.words31 : True := by
  k_with "m subscriptTail Attribute" => (k_here; (with_reducible show wpAny _ _ (subscriptTail _ _ (Value.ref _) (Value.int 1 _)) _ _ _); k_dflt ((refine' Mine.itemV ?m72_1 ?m72_2 ?_; (case m72_1 => k_asm); (case m72_2 => k_mem)); k_whole))
  k_with "m subscriptTail Subscript" => (k_here; (with_reducible show wpAny _ _ (subscriptTail _ _ (Value.ref _) (Value.int 1 _)) _ _ _); k_dflt ((refine' Mine.itemV ?m73_1 ?m73_2 ?_; (case m73_1 => k_asm); (case m73_2 => k_mem)); k_whole))
  k_with "m compareOp Eq int int" => (k_here; k_dflt (refine' Mine.eq_int_no ?m74_1 ?_; (case m74_1 => with_reducible assumption)))
  k_with "m exec Raise some none" => (k_here; k_dflt (refine' Mine.raise_81 ?m75_1 ?_; (case m75_1 => first | exact rfl | assumption)))
  k_with "m RB" => (refine' Mine.RB.ok81 ?m76_1 ?m76_2 ?m76_3 ?_; (case m76_1 => k_asm); (case m76_2 => k_asm); (case m76_3 => k_asm))
  k_with "m call ref" => (k_here; (with_reducible show wpAny _ _ (call (Value.ref 111) _) _ _ _); k_dflt ((refine' Mine.Can.use ?u77k1 ?u77k2 ?u77k3 ?u77k4 ?u77k5 ?u77kK (Mine.thrown_text ?m77_1) ?u77kd ?u77ku ?_); (case u77k1 => k_asm); (case u77k2 => k_asm); (case u77k3 => k_asm); (case u77k4 => k_asm); (case u77k5 => k_asm); (case u77kK => first | exact rfl | assumption); (case m77_1 => first | exact Or.inl rfl | exact Or.inr rfl); (case u77kd => ktr_room); (case u77ku => ktr_units); walk_at "mine X"); all_goals ((try k_sweep); (try dsimp only); (try k_fold)))
  k_with "mine X" => (unfold Mine.RetX; intro e9 d9 v9 k9 t9 i9 j9 l9 a9 b9 c9 f9 w9 n9 m9 o9 x9 y9 z9 u9 q9 h9 tk9 ne9 F9 N9)
  k_with "m leaving ref" => (k_here; k_dflt first | ((refine' Mine.leave_raiseD ?m78_1 ?m78_2 ?m78_3 ?m78_4 ?_; (case m78_3 => k_asm); (case m78_1 => assumption); (case m78_2 => assumption); (case m78_4 => assumption)); k_whole; intro h8 R8 U8; (try dsimp only at R8 U8 ⊢)) | ((refine' Mine.leave_onD ?m79_1 ?m79_2 ?m79_3 ?m79_4 ?_; (case m79_1 => assumption); (case m79_2 => assumption); (case m79_3 => assumption); (case m79_4 => assumption)); k_whole; intro h8 R8 U8; (try dsimp only at R8 U8 ⊢)))
  k_with "m noteFrame ref" => (k_here; k_dflt ((refine' Mine.caught_D ?m80_1 ?m80_2 ?m80_3 ?m80_4 ?m80_5 ?m80_6 ?m80_7 ?m80_8 ?_; (case m80_1 => assumption); (case m80_2 => assumption); (case m80_3 => assumption); (case m80_4 => assumption); (case m80_5 => assumption); (case m80_6 => assumption); (case m80_7 => k_is); (case m80_8 => exact Mine.cls81)); k_whole); intro h8 g8 tk8 oe8 vs8 c8 d8 f8 T8 F8 N8 B8 X8 Y8; (try k_sweep))
  k_with "m getAttr ref" => (k_here; k_dflt ((refine' Mine.fault_attr ?m81_1 ?m81_2 ?m81_3 ?m81_4 ?m81_5 ?m81_6 ?_; (case m81_1 => k_asm); (case m81_2 => k_asm); (case m81_3 => k_asm); (case m81_4 => assumption); (case m81_5 => assumption); (case m81_6 => assumption)); k_whole); intro h7 tk7 F7 N7; (try k_sweep))
  k_with "m call ref" => (k_here; (with_reducible show wpAny _ _ (call (Value.ref 126) _) _ _ _); k_dflt ((refine' Mine.Can.use ?u82k1 ?u82k2 ?u82k3 ?u82k4 ?u82k5 ?u82kK (Mine.count_of ?m82_1 ?m82_2 ?m82_3 ?m82_4) ?u82kd ?u82ku ?_); (case u82k1 => k_asm); (case u82k2 => k_asm); (case u82k3 => k_asm); (case u82k4 => k_asm); (case u82k5 => k_asm); (case u82kK => first | exact rfl | assumption); (case m82_1 => k_mem); (case m82_2 => walk_at "mine side"); (case m82_3 => walk_at "mine side"); (case m82_4 => walk_at "mine side"); (case u82kd => ktr_room); (case u82ku => ktr_units); walk_at "mine I"); all_goals ((try k_sweep); (try dsimp only); (try k_fold)))
  k_with "m call ref" => (k_here; (with_reducible show wpAny _ _ (call (Value.ref 43) _) _ _ _); k_dflt ((refine' Mine.Can.use ?u83k1 ?u83k2 ?u83k3 ?u83k4 ?u83k5 ?u83kK (Mine.fits_8_in ?m83_1) ?u83kd ?u83ku ?_); (case u83k1 => k_asm); (case u83k2 => k_asm); (case u83k3 => k_asm); (case u83k4 => k_asm); (case u83k5 => k_asm); (case u83kK => first | exact rfl | assumption); (case m83_1 => with_reducible assumption); (case u83kd => ktr_room); (case u83ku => ktr_units); walk_at "mine B"); all_goals ((try k_sweep); (try dsimp only); (try k_fold)))
  k_with "m call ref" => (k_here; (with_reducible show wpAny _ _ (call (Value.ref 43) _) _ _ _); k_dflt ((refine' Mine.Can.use ?u84k1 ?u84k2 ?u84k3 ?u84k4 ?u84k5 ?u84kK (Mine.fits_8_out ?m84_1) ?u84kd ?u84ku ?_); (case u84k1 => k_asm); (case u84k2 => k_asm); (case u84k3 => k_asm); (case u84k4 => k_asm); (case u84k5 => k_asm); (case u84kK => first | exact rfl | assumption); (case m84_1 => with_reducible assumption); (case u84kd => ktr_room); (case u84ku => ktr_units); walk_at "mine B"); all_goals ((try k_sweep); (try dsimp only); (try k_fold)))
  k_with "m call ref" => (k_here; (with_reducible show wpAny _ _ (call (Value.ref 43) _) _ _ _); k_dflt ((refine' Mine.Can.use ?u85k1 ?u85k2 ?u85k3 ?u85k4 ?u85k5 ?u85kK (Mine.fits_64_out ?m85_1) ?u85kd ?u85ku ?_); (case u85k1 => k_asm); (case u85k2 => k_asm); (case u85k3 => k_asm); (case u85k4 => k_asm); (case u85k5 => k_asm); (case u85kK => first | exact rfl | assumption); (case m85_1 => with_reducible assumption); (case u85kd => ktr_room); (case u85ku => ktr_units); walk_at "mine B"); all_goals ((try k_sweep); (try dsimp only); (try k_fold)))
  trivial
namespace Mine
/-- a text comes back -/
def RetS (news : List (Addr × Obj)) (x : Str) (h₀ : Heap) (L : Addr) (m : Str → Option Value) (s : Shared) (Q : Value → Shared → Prop) : Prop :=
  ∀ (t : Tok) (h' : Heap) (tk' : Nat), Fr h₀ L h' m → News h₀ L h' news → Q (.str x t) { s with heap := h', toks := tk' }
theorem RetS.ok {news led : List (Addr × Obj)} {x : Str} {h₀ h' : Heap} {L : Addr} {m : Str → Option Value} {s : Shared} {Q : Value → Shared → Prop} {t : Tok} {tk' : Nat}
    (R : RetS news x h₀ L m s Q) (F : Fr h₀ L h' m) (N : News h₀ L h' led) (hs : ∀ p ∈ news, p ∈ led) : Q (.str x t) { s with heap := h', toks := tk' } := R t h' tk' F fun p hp => N p (hs p hp)
end Mine
theorem Mine.words32 : True := by
  k_with "mine startS" => (unfold Mine.CanL; intro mean mg mb cn cs a ccd h₀ L m s Q E F X N T hck R; (have B := below_caller h₀); (refine wpAny_call ?_); k_dflt ((refine' code_defS0 ?m86_1 ?m86_2 ?m86_3 ?m86_4 ?m86_5 ?m86_6 ?m86_7 ?m86_8 ?m86_9 ?m86_10 ?m86_11 ?_ ?m86_13 ?m86_14 ?m86_15 ?m86_16 ?m86_17; (case m86_1 => k_asm); (case m86_2 => k_asm); (case m86_3 => k_asm); (case m86_4 => k_asm); (case m86_5 => k_asm); (case m86_6 => exact rfl); (case m86_7 => k_is); (case m86_8 => k_is); (case m86_9 => k_room); (case m86_10 => exact BindsTo.of_eq rfl); (case m86_11 => exact locs rfl); (case m86_13 => assumption); (case m86_14 => exact rfl); (case m86_15 => exact rfl); (case m86_16 => exact rfl); (case m86_17 => decide)); k_whole; intro g' L' h' FG' F' N' B' X' T' D'; (try dsimp only); (try k_lift B'); (try k_fold)))
  k_with "mine endS" => (refine' Mine.RetS.ok ?m87_1 ?m87_2 ?m87_3 ?m87_4; (case m87_1 => assumption); (case m87_2 => assumption); (case m87_3 => assumption); (case m87_4 => (intro p hp; repeat (first | exact hp | (refine List.Mem.tail _ ?_)))))
  trivial
namespace Mine
set_option maxHeartbeats 8000000 in
theorem heard_arg {w : World} {news : List (Addr × Obj)} {f l : Int} {t0 t1 t2 t3 : Tok} : CanL w news 271 [.int f t0, .int 0 t1, .int l t2, .str (Str.ofString "Int64") t3] (RetS news (Str.ofString "ArgumentError")) := by
  walk_at "mine startS"
  k_steps
  all_goals walk_at "mine endS"
set_option maxHeartbeats 8000000 in
theorem heard_len {w : World} {news : List (Addr × Obj)} {f st l : Int} {t0 t1 t2 t3 : Tok} (hst : st ≠ 0) (hs1 : -1000 < st) (hs2 : st < 1000) (hc : 0 ≤ cnt f st l ∧ cnt f st l < 128) : CanL w news 271 [.int f t0, .int st t1, .int l t2, .str (Str.ofString "Int8") t3] (RetI news (cnt f st l)) := by
  walk_at "mine startS"
  k_steps
  all_goals walk_at "mine endI"
  all_goals rfl
set_option maxHeartbeats 8000000 in
theorem heard_over8 {w : World} {news : List (Addr × Obj)} {f st l : Int} {t0 t1 t2 t3 : Tok} (hst : st ≠ 0) (hs1 : -1000 < st) (hs2 : st < 1000) (hc : 128 ≤ cnt f st l) : CanL w news 271 [.int f t0, .int st t1, .int l t2, .str (Str.ofString "Int8") t3] (RetS news (Str.ofString "OverflowError")) := by
  walk_at "mine startS"
  k_steps
  all_goals walk_at "mine endS"
set_option maxHeartbeats 8000000 in
theorem heard_over64 {w : World} {news : List (Addr × Obj)} {f st l : Int} {t0 t1 t2 t3 : Tok} (hst : st ≠ 0) (hs1 : -1000 < st) (hs2 : st < 1000) (hc : 9223372036854775808 ≤ cnt f st l) : CanL w news 271 [.int f t0, .int st t1, .int l t2, .str (Str.ofString "Int64") t3] (RetS news (Str.ofString "OverflowError")) := by
  walk_at "mine startS"
  k_steps
  all_goals walk_at "mine endS"
end Mine
namespace Mine
/-- many or no room -/
def RetH (news : List (Addr × Obj)) (k : Int) (h₀ : Heap) (L : Addr) (m : Str → Option Value) (s : Shared) (Q : Value → Shared → Prop) : Prop :=
  (k < 128 → ∀ (t : Tok) (h' : Heap) (tk' : Nat), Fr h₀ L h' m → News h₀ L h' news → Q (.int k t) { s with heap := h', toks := tk' }) ∧
  (128 ≤ k → ∀ (t : Tok) (h' : Heap) (tk' : Nat), Fr h₀ L h' m → News h₀ L h' news → Q (.str (Str.ofString "OverflowError") t) { s with heap := h', toks := tk' })
theorem heard_many {w : World} {news : List (Addr × Obj)} {k : Int} {t0 t1 t2 t3 : Tok} (h1 : 120 ≤ k) (h2 : k < 136) : CanL w news 271 [.int 1 t0, .int 1 t1, .int k t2, .str (Str.ofString "Int8") t3] (RetH news k) := by
  intro mean mg mb cn cs a ccd h₀ L m s Q E F X N T hk R
  have e := cnt_many (k := k) (by omega)
  by_cases h : k < 128
  · exact heard_len (by decide) (by decide) (by decide) (by omega) mean mg mb cn cs a ccd h₀ L m s Q E F X N T hk (by rw [e]; exact R.1 h)
  · exact heard_over8 (by decide) (by decide) (by decide) (by omega) mean mg mb cn cs a ccd h₀ L m s Q E F X N T hk (R.2 (by omega))
theorem same_selfC {w : World} {D : Addr} {f st l : Int} {t1 t2 t3 : Tok} {n : Nat} {news : List (Addr × Obj)} (hm : (D, T3 f st l t1 t2 t3 n) ∈ news) (hst : st ≠ 0) (hs1 : -1000 < st) (hs2 : st < 1000) :
    Can w 2 16 news 236 [.ref D, .ref D] (RetB news true) :=
  fun mean mg mb dp un gd cn cs a ccd cl outer A₀ base h₀ L m s Q E B F X N T hk hd hu ret => is_same_range hm hst hs1 hs2 hm hst hs1 hs2 mean mg mb dp un gd cn cs a ccd cl outer A₀ base h₀ L m s Q E B F X N T hk hd hu (by rw [same_self]; exact ret)
theorem ne_bool_eq {w : World} {A : Around} {E : Value → Shared → Prop} {s : Shared} {a b : Bool} {Q : Value → Shared → Prop} (e : a = b) (h : Q (.bool false) s) : wpAny (model prog w) A (compareOp .NotEq (.bool a) (.bool b)) Q E s :=
  PyProof.Rows.ne_bool (by rw [show (a != b) = false by simp [e]]; exact h)
theorem eq_int_yes {w : World} {A : Around} {E : Value → Shared → Prop} {s : Shared} {a b : Int} {t u : Tok} {Q : Value → Shared → Prop} (e : a = b) (h : Q (.bool true) s) : wpAny (model prog w) A (compareOp .Eq (.int a t) (.int b u)) Q E s :=
  eq_int (by rw [show (a == b) = true by simp [e]]; exact h)
theorem item_ref0 {w : World} {A : Around} {E : Value → Shared → Prop} {s : Shared} {h₀ : Heap} {L D : Addr} {news : List (Addr × Obj)} {x y : Value} {u : Tok} {n : Nat} {value slice : PySem.Expr} {Q : Value → Shared → Prop} (N : News h₀ L s.heap news) (hm : (D, PySem.W.listOf #[x, y] n) ∈ news) (h : Q x s)
    (hs : subscripted slice false (.ref D) (.int 0 u) = operate [.ref D, .int 0 u] (getItem (.ref D) (.int 0 u)) := by with_unfolding_all rfl) : wpAny (model prog w) A (subscriptTail value slice (.ref D) (.int 0 u)) Q E s :=
  have l := News.isList (items := #[x, y]) N hm; tail_any l.typeIs slot_list_getitem.lookup (wpAny_getItem_list l (by decide) (by decide) rfl h) hs
theorem item_ref1 {w : World} {A : Around} {E : Value → Shared → Prop} {s : Shared} {h₀ : Heap} {L D : Addr} {news : List (Addr × Obj)} {x y : Value} {u : Tok} {n : Nat} {value slice : PySem.Expr} {Q : Value → Shared → Prop} (N : News h₀ L s.heap news) (hm : (D, PySem.W.listOf #[x, y] n) ∈ news) (h : Q y s)
    (hs : subscripted slice false (.ref D) (.int 1 u) = operate [.ref D, .int 1 u] (getItem (.ref D) (.int 1 u)) := by with_unfolding_all rfl) : wpAny (model prog w) A (subscriptTail value slice (.ref D) (.int 1 u)) Q E s :=
  have l := News.isList (items := #[x, y]) N hm; tail_any l.typeIs slot_list_getitem.lookup (wpAny_getItem_list l (by decide) (by decide) rfl h) hs
theorem CanL.use {w : World} {news : List (Addr × Obj)} {f : Addr} {vs : List Value} {Ret : Heap → Addr → (Str → Option Value) → Shared → (Value → Shared → Prop) → Prop}
    {mean : ExcName → Option Value} {mg mb : Str → Option Value} {cn : Str} {cs : Scope} {a : Addr} {ccd : Value} {h₀ : Heap} {L : Addr} {m : Str → Option Value} {s : Shared} {Q E : Value → Shared → Prop}
    (F : Fr h₀ L s.heap m) (X : (Mine.hd.heap_1_39 w.params).In h₀) (N : News h₀ L s.heap news) (T : Top Mine.hd.view_1_40 lo mean mg mb h₀) (hk : cs.kind = .function) (C : CanL w news f vs Ret) (ret : Ret h₀ L m s Q) :
    wpAny (model prog w) (callerA.deeper (envOf cn cs L a ccd)) (call (.ref f) vs) Q E s := C mean mg mb cn cs a ccd h₀ L m s Q E F X N T hk ret
end Mine
theorem Mine.words33 : True := by
  k_with "m call ref" => (k_here; (with_reducible show wpAny _ _ (call (Value.ref 236) _) _ _ _); k_dflt ((refine' Mine.Can.use ?u88k1 ?u88k2 ?u88k3 ?u88k4 ?u88k5 ?u88kK (Mine.is_same_range ?m88_1 ?m88_2 ?m88_3 ?m88_4 ?m88_5 ?m88_6 ?m88_7 ?m88_8) ?u88kd ?u88ku ?_); (case u88k1 => k_asm); (case u88k2 => k_asm); (case u88k3 => k_asm); (case u88k4 => k_asm); (case u88k5 => k_asm); (case u88kK => first | exact rfl | assumption); (case m88_1 => k_mem); (case m88_5 => k_mem); (case m88_2 => walk_at "mine side"); (case m88_3 => walk_at "mine side"); (case m88_4 => walk_at "mine side"); (case m88_6 => walk_at "mine side"); (case m88_7 => walk_at "mine side"); (case m88_8 => walk_at "mine side"); (case u88kd => ktr_room); (case u88ku => ktr_units); walk_at "mine B"); all_goals ((try k_sweep); (try dsimp only); (try k_fold)))
  k_with "m call ref" => (k_here; (with_reducible show wpAny _ _ (call (Value.ref 236) _) _ _ _); k_dflt ((refine' Mine.Can.use ?u89k1 ?u89k2 ?u89k3 ?u89k4 ?u89k5 ?u89kK (Mine.same_selfC ?m89_1 ?m89_2 ?m89_3 ?m89_4) ?u89kd ?u89ku ?_); (case u89k1 => k_asm); (case u89k2 => k_asm); (case u89k3 => k_asm); (case u89k4 => k_asm); (case u89k5 => k_asm); (case u89kK => first | exact rfl | assumption); (case m89_1 => k_mem); (case m89_2 => walk_at "mine side"); (case m89_3 => walk_at "mine side"); (case m89_4 => walk_at "mine side"); (case u89kd => ktr_room); (case u89ku => ktr_units); walk_at "mine B"); all_goals ((try k_sweep); (try dsimp only); (try k_fold)))
  k_with "m call ref" => (k_here; (with_reducible show wpAny _ _ (call (Value.ref 264) _) _ _ _); k_dflt ((refine' Mine.Can.use ?u90k1 ?u90k2 ?u90k3 ?u90k4 ?u90k5 ?u90kK (Mine.law_list ?m90_1 ?m90_2 ?m90_3 ?m90_4 ?m90_5) ?u90kd ?u90ku ?_); (case u90k1 => k_asm); (case u90k2 => k_asm); (case u90k3 => k_asm); (case u90k4 => k_asm); (case u90k5 => k_asm); (case u90kK => first | exact rfl | assumption); (case m90_1 => k_mem); (case m90_2 => walk_at "mine side"); (case m90_3 => walk_at "mine side"); (case m90_4 => walk_at "mine side"); (case m90_5 => walk_at "mine side"); (case u90kd => ktr_room); (case u90ku => ktr_units); walk_at "mine L2"); all_goals ((try k_sweep); (try dsimp only); (try k_fold)))
  k_with "m call ref" => (k_here; (with_reducible show wpAny _ _ (call (Value.ref 126) _) _ _ _); k_dflt ((refine' Mine.Can.use ?u91k1 ?u91k2 ?u91k3 ?u91k4 ?u91k5 ?u91kK (Mine.count_of ?m91_1 ?m91_2 ?m91_3 ?m91_4) ?u91kd ?u91ku ?_); (case u91k1 => k_asm); (case u91k2 => k_asm); (case u91k3 => k_asm); (case u91k4 => k_asm); (case u91k5 => k_asm); (case u91kK => first | exact rfl | assumption); (case m91_1 => k_mem); (case m91_2 => walk_at "mine side"); (case m91_3 => walk_at "mine side"); (case m91_4 => walk_at "mine side"); (case u91kd => ktr_room); (case u91ku => ktr_units); walk_at "mine I"); all_goals ((try k_sweep); (try dsimp only); (try k_fold)))
  k_with "m call ref" => (k_here; (with_reducible show wpAny _ _ (call (Value.ref 250) _) _ _ _); k_dflt ((refine' Mine.Can.use ?u92k1 ?u92k2 ?u92k3 ?u92k4 ?u92k5 ?u92kK (Mine.law_grind ?m92_1 ?m92_2 ?m92_3 ?m92_4 ?m92_5 ?m92_6) ?u92kd ?u92ku ?_); (case u92k1 => k_asm); (case u92k2 => k_asm); (case u92k3 => k_asm); (case u92k4 => exact Mine.Pick.news (by k_asm) (by walk_at "mine pick")); (case u92k5 => k_asm); (case u92kK => first | exact rfl | assumption); (case m92_1 => walk_at "mine off"); (case m92_2 => walk_at "mine side"); (case m92_3 => walk_at "mine side"); (case m92_4 => walk_at "mine side"); (case m92_5 => walk_at "mine side"); (case m92_6 => walk_at "mine side"); (case u92kd => ktr_room); (case u92ku => ktr_units); walk_at "mine G"); all_goals ((try k_sweep); (try dsimp only); (try k_fold)))
  k_with "m call ref" => (k_here; (with_reducible show wpAny _ _ (call (Value.ref 257) _) _ _ _); k_dflt ((refine' Mine.Can.use ?u93k1 ?u93k2 ?u93k3 ?u93k4 ?u93k5 ?u93kK (Mine.law_row ?m93_1 ?m93_2 ?m93_3 ?m93_4) ?u93kd ?u93ku ?_); (case u93k1 => k_asm); (case u93k2 => k_asm); (case u93k3 => k_asm); (case u93k4 => exact Mine.Pick.news (by k_asm) (by walk_at "mine pick")); (case u93k5 => k_asm); (case u93kK => first | exact rfl | assumption); (case m93_1 => walk_at "mine off"); (case m93_2 => walk_at "mine side"); (case m93_3 => walk_at "mine side"); (case m93_4 => walk_at "mine side"); (case u93kd => ktr_room); (case u93ku => ktr_units); walk_at "mine R"); all_goals ((try k_sweep); (try dsimp only); (try k_fold)))
  k_with "m call ref" => (k_here; (with_reducible show wpAny _ _ (call (Value.ref 276) _) _ _ _); k_dflt ((refine' Mine.Can.use ?u94k1 ?u94k2 ?u94k3 ?u94k4 ?u94k5 ?u94kK (Mine.law_plain ?m94_1 ?m94_2 ?m94_3 ?m94_4) ?u94kd ?u94ku ?_); (case u94k1 => k_asm); (case u94k2 => k_asm); (case u94k3 => k_asm); (case u94k4 => k_asm); (case u94k5 => k_asm); (case u94kK => first | exact rfl | assumption); (case m94_1 => k_mem); (case m94_2 => k_mem); (case m94_3 => with_reducible assumption); (case m94_4 => walk_at "mine side"); (case u94kd => ktr_room); (case u94ku => ktr_units); walk_at "mine B"); all_goals ((try k_sweep); (try dsimp only); (try k_fold)))
  k_with "m call ref" => (k_here; (with_reducible show wpAny _ _ (call (Value.ref 281) _) _ _ _); k_dflt ((refine' Mine.Can.use ?u95k1 ?u95k2 ?u95k3 ?u95k4 ?u95k5 ?u95kK (Mine.law_turned ?m95_1 ?m95_2 ?m95_3 ?m95_4 ?m95_5 ?m95_6 ?m95_7 ?m95_8) ?u95kd ?u95ku ?_); (case u95k1 => k_asm); (case u95k2 => k_asm); (case u95k3 => k_asm); (case u95k4 => exact Mine.Pick.news (by k_asm) (by walk_at "mine pick")); (case u95k5 => k_asm); (case u95kK => first | exact rfl | assumption); (case m95_5 => k_mem); (case m95_6 => k_mem); (case m95_1 => walk_at "mine off"); (case m95_2 => walk_at "mine side"); (case m95_3 => walk_at "mine side"); (case m95_4 => walk_at "mine side"); (case m95_7 => with_reducible assumption); (case m95_8 => walk_at "mine side"); (case u95kd => ktr_room); (case u95ku => ktr_units); walk_at "mine Tu"); all_goals ((try k_sweep); (try dsimp only); (try k_fold)))
  k_with "m call ref" => (k_here; (with_reducible show wpAny _ _ (call (Value.ref 286) _) _ _ _); k_dflt ((refine' Mine.Can.use ?u96k1 ?u96k2 ?u96k3 ?u96k4 ?u96k5 ?u96kK (Mine.law_met_right ?m96_1 ?m96_2 ?m96_3 ?m96_4) ?u96kd ?u96ku ?_); (case u96k1 => k_asm); (case u96k2 => k_asm); (case u96k3 => k_asm); (case u96k4 => k_asm); (case u96k5 => k_asm); (case u96kK => first | exact rfl | assumption); (case m96_1 => k_mem); (case m96_2 => k_mem); (case m96_3 => walk_at "mine side"); (case m96_4 => walk_at "mine side"); (case u96kd => ktr_room); (case u96ku => ktr_units); walk_at "mine B"); all_goals ((try k_sweep); (try dsimp only); (try k_fold)))
  k_with "m call ref" => (k_here; (with_reducible show wpAny _ _ (call (Value.ref 271) _) _ _ _); k_dflt ((refine' Mine.CanL.use ?u97k2 ?u97k3 ?u97k4 ?u97k5 ?u97kK (Mine.heard_over64 ?m97_1 ?m97_2 ?m97_3 ?m97_4) ?_); (case u97k2 => k_asm); (case u97k3 => k_asm); (case u97k4 => k_asm); (case u97k5 => k_asm); (case u97kK => first | exact rfl | assumption); (case m97_1 => walk_at "mine side"); (case m97_2 => walk_at "mine side"); (case m97_3 => walk_at "mine side"); (case m97_4 => walk_at "mine side"); walk_at "mine S"); all_goals ((try k_sweep); (try dsimp only); (try k_fold)))
  k_with "m call ref" => (k_here; (with_reducible show wpAny _ _ (call (Value.ref 271) _) _ _ _); k_dflt ((refine' Mine.CanL.use ?u98k2 ?u98k3 ?u98k4 ?u98k5 ?u98kK (Mine.heard_len ?m98_1 ?m98_2 ?m98_3 ?m98_4) ?_); (case u98k2 => k_asm); (case u98k3 => k_asm); (case u98k4 => k_asm); (case u98k5 => k_asm); (case u98kK => first | exact rfl | assumption); (case m98_1 => walk_at "mine side"); (case m98_2 => walk_at "mine side"); (case m98_3 => walk_at "mine side"); (case m98_4 => walk_at "mine side"); walk_at "mine I"); all_goals ((try k_sweep); (try dsimp only); (try k_fold)))
  k_with "m call ref" => (k_here; (with_reducible show wpAny _ _ (call (Value.ref 271) _) _ _ _); k_dflt ((refine' Mine.CanL.use ?u99k2 ?u99k3 ?u99k4 ?u99k5 ?u99kK (Mine.heard_many ?m99_1 ?m99_2) ?_); (case u99k2 => k_asm); (case u99k3 => k_asm); (case u99k4 => k_asm); (case u99k5 => k_asm); (case u99kK => first | exact rfl | assumption); (case m99_1 => walk_at "mine side"); (case m99_2 => walk_at "mine side"); walk_at "mine H"); all_goals ((try k_sweep); (try dsimp only); (try k_fold)))
  k_with "m call ref" => (k_here; (with_reducible show wpAny _ _ (call (Value.ref 271) _) _ _ _); k_dflt ((refine' Mine.CanL.use ?u100k2 ?u100k3 ?u100k4 ?u100k5 ?u100kK Mine.heard_arg ?_); (case u100k2 => k_asm); (case u100k3 => k_asm); (case u100k4 => k_asm); (case u100k5 => k_asm); (case u100kK => first | exact rfl | assumption); walk_at "mine S"); all_goals ((try k_sweep); (try dsimp only); (try k_fold)))
  k_with "m call ref" => (k_here; (with_reducible show wpAny _ _ (call (Value.ref 243) _) _ _ _); k_dflt ((refine' Mine.CanS.use ?u101k1 ?u101k2 ?u101k3 ?u101k4 ?u101k5 ?u101kK (Mine.law_mill ?m101_1 ?m101_2) ?u101kl ?u101kd ?u101ku ?_); (case u101k1 => k_asm); (case u101k2 => k_asm); (case u101k3 => k_asm); (case u101k4 => k_asm); (case u101k5 => k_asm); (case u101kK => first | exact rfl | assumption); (case m101_1 => with_reducible assumption); (case m101_2 => walk_at "mine side"); (case u101kl => assumption); (case u101kd => ktr_room); (case u101ku => ktr_units); walk_at "mine M"); all_goals ((try k_sweep); (try dsimp only); (try k_fold)))
  k_with "mine M" => (unfold Mine.RetM; intro a9 b9 D9 t9 u9 c9 h9 tk9 g1 g2 g3 F9 N9)
  k_with "mine S" => (unfold Mine.RetS; intro t9 h9 tk9 F9 N9)
  k_with "mine H" => (unfold Mine.RetH; (refine ⟨?_, ?_⟩); (intro e9 t9 h9 tk9 F9 N9); rotate_left; (intro e9 t9 h9 tk9 F9 N9); rotate_right)
  k_with "mine R" => (unfold Mine.RetR; intro f9 s9 l9 a9 b9 D9 t9 u9 v9 x9 y9 n9 c9 h9 tk9 g1 g2 g3 g4 F9 N9; obtain ⟨q1, q2, q3, q4, q5, q6, q7⟩ := Mine.RowOk.facts g1)
  k_with "mine Tu" => (unfold Mine.RetTu; intro a9 b9 t9 u9 c9 h9 tk9 g1 g2 g3 F9 N9)
  k_with "mine off" => first | exact List.forall_mem_nil _ | with_reducible assumption | (refine List.forall_mem_cons.mpr ⟨?_, ?_⟩; (focus (first | k_ne | exact Mine.ne_tup (by k_asm) (by k_mem) (by k_mem) | (dsimp only; exact Mine.ne_from (by with_reducible assumption) (by k_mem)) | (apply Ne.symm; assumption) | assumption)); walk_at "mine off")
  k_with "mine side" => first | assumption | decide | exact Mine.RowOk.ok6 (by with_reducible assumption) | exact Mine.ok6_third | exact Mine.ok6_a | exact Mine.ok6_b | omega
  k_with "m compareOp NotEq int int" => (k_here; k_dflt (refine' Mine.ne_int_eq ?m102_1 ?_; (case m102_1 => first | with_reducible assumption | omega)))
  k_with "m subscriptTail Name Constant ref int" => (k_here; (with_reducible show wpAny _ _ (subscriptTail _ _ (Value.ref _) (Value.int 0 _)) _ _ _); k_dflt ((refine' Mine.item_ref0 ?m103_1 ?m103_2 ?_; (case m103_1 => k_asm); (case m103_2 => k_mem)); k_whole))
  k_with "m subscriptTail Subscript" => (k_here; (with_reducible show wpAny _ _ (subscriptTail _ _ (Value.ref _) (Value.int 0 _)) _ _ _); k_dflt ((refine' Mine.item0 ?m104_1 ?m104_2 ?_; (case m104_1 => k_asm); (case m104_2 => with_reducible k_mem)); k_whole))
  k_with "m subscriptTail Name Constant ref int" => (k_here; (with_reducible show wpAny _ _ (subscriptTail _ _ (Value.ref _) (Value.int 1 _)) _ _ _); k_dflt ((refine' Mine.item_ref1 ?m105_1 ?m105_2 ?_; (case m105_1 => k_asm); (case m105_2 => k_mem)); k_whole))
  k_with "m subscriptTail Name Constant ref int" => (k_here; (with_reducible show wpAny _ _ (subscriptTail _ _ (Value.ref _) (Value.int 0 _)) _ _ _); k_dflt ((refine' Mine.item0 ?m106_1 ?m106_2 ?_; (case m106_1 => k_asm); (case m106_2 => with_reducible k_mem)); k_whole))
  k_with "m subscriptTail Name Constant ref int" => (k_here; (with_reducible show wpAny _ _ (subscriptTail _ _ (Value.ref _) (Value.int 1 _)) _ _ _); k_dflt ((refine' Mine.item1 ?m107_1 ?m107_2 ?_; (case m107_1 => k_asm); (case m107_2 => with_reducible k_mem)); k_whole))
  k_with "m subscriptTail Name Constant ref int" => (k_here; (with_reducible show wpAny _ _ (subscriptTail _ _ (Value.ref _) (Value.int 2 _)) _ _ _); k_dflt ((refine' Mine.item2 ?m108_1 ?m108_2 ?_; (case m108_1 => k_asm); (case m108_2 => with_reducible k_mem)); k_whole))
  k_with "m compareOp NotEq bool bool" => (k_here; k_dflt (refine' Mine.ne_bool_eq Mine.same_lst ?_))
  k_with "m compareOp Eq int int" => (k_here; k_dflt (refine' Mine.eq_int_yes Mine.cnt_half ?_))
  trivial
namespace Mine
set_option maxHeartbeats 8000000 in
theorem walk : ∃ d kwd, defOf Mine.hd.view_1_40 (Str.ofString "law") = some (d, kwd) ∧ WalkO Mine.hd.view_1_40 [Str.ofString "WIDTHS", Str.ofString "RowsError"] (XL Mine.hd.view_1_40 []) (fun w h => (Mine.hd.heap_1_39 w.params).In h) PySem.Challenge.rw_pc0197_01.row.toRowW d kwd (fun f vs => call f vs) := by
  refine ⟨_, _, rfl, ?_⟩
  k_fill
  intro w s₀ s₁ mg mb G Y fa o pm cd doc dV kV ho hd hcd hD hmg hg args vals as hpre hlay hrd hwl hlo
  have KX := Y
  k_behind G ho hd hcd hD hmg hpre hlay hrd hwl hlo cd
  all_goals (try k_fold)
  k_steps
end Mine
namespace Mine
theorem walk_to {q : Program} {loose : List Str} {XP : (Str → Option Value) → Heap → Prop} {YP : World → Heap → Prop} {r : RowW} {run : Value → List Value → Sem Value} {name : Str} {d d' : DefRec} {kwd kwd' : List (Str × PySem.Expr)}
    (h : defOf q name = some (d, kwd)) (x : WalkO q loose XP YP r d kwd run) (h' : defOf q name = some (d', kwd')) : WalkO q loose XP YP r d' kwd' run := by
  rw [h] at h'; cases h'; exact x
end Mine
set_option Elab.async true
namespace Mine
theorem all.tw10034031380863371641 : True := trivial
theorem all.tw10175558820241607032 : True := trivial
theorem all.tw10277526245819850656 : True := trivial
theorem all.tw10316705163991428254 : True := trivial
theorem all.tw10323370424266482742 : True := trivial
theorem all.tw10389294372677164839 : True := trivial
theorem all.tw10393596885623623503 : True := trivial
theorem all.tw10658958392246782621 : True := trivial
theorem all.tw10681620039792923934 : True := trivial
theorem all.tw10705108097460422218 : True := trivial
theorem all.tw1075291646940621582 : True := trivial
theorem all.tw10793401674749092046 : True := trivial
theorem all.tw1081408078033650336 : True := trivial
theorem all.tw10942295900298899174 : True := trivial
theorem all.tw11038128598146805730 : True := trivial
theorem all.tw11051709101105081487 : True := trivial
theorem all.tw11084693905056812178 : True := trivial
theorem all.tw11093295523969242068 : True := trivial
theorem all.tw11116879363250112325 : True := trivial
theorem all.tw11273133048781285286 : True := trivial
theorem all.tw11446199593928302625 : True := trivial
theorem all.tw11448872678469705673 : True := trivial
theorem all.tw11488495728068971930 : True := trivial
theorem all.tw11573567738276184859 : True := trivial
theorem all.tw11639333894188339638 : True := trivial
theorem all.tw11736780227944870738 : True := trivial
theorem all.tw11784725038316003381 : True := trivial
theorem all.tw11961059351148515626 : True := trivial
theorem all.tw11987078492138364423 : True := trivial
theorem all.tw12254430714555821875 : True := trivial
theorem all.tw12304872625307995750 : True := trivial
theorem all.tw12320145003982579257 : True := trivial
theorem all.tw1238725946784135233 : True := trivial
theorem all.tw12447178028490564450 : True := trivial
theorem all.tw12540455083557110006 : True := trivial
theorem all.tw12563031120210811263 : True := trivial
theorem all.tw12784588452913835247 : True := trivial
theorem all.tw12803817524326497440 : True := trivial
theorem all.tw1291087626157917732 : True := trivial
theorem all.tw13042374122123996364 : True := trivial
theorem all.tw13057232943065969744 : True := trivial
theorem all.tw13100642850353945058 : True := trivial
theorem all.tw13132907815185506690 : True := trivial
theorem all.tw13185015893256467352 : True := trivial
theorem all.tw1323426155142419162 : True := trivial
theorem all.tw13270532327374429287 : True := trivial
theorem all.tw13283931332471535325 : True := trivial
theorem all.tw13320810954380615167 : True := trivial
theorem all.tw13358604424828501309 : True := trivial
theorem all.tw13370487131934946175 : True := trivial
theorem all.tw13423135486485445016 : True := trivial
theorem all.tw13463606980367379903 : True := trivial
theorem all.tw1352723322627576488 : True := trivial
theorem all.tw13663018214320142090 : True := trivial
theorem all.tw13928513891281363954 : True := trivial
theorem all.tw14099800850047386279 : True := trivial
theorem all.tw14124840197023413450 : True := trivial
theorem all.tw14204109254541194217 : True := trivial
theorem all.tw14310873030558110092 : True := trivial
theorem all.tw14331890051309236264 : True := trivial
theorem all.tw14444207656584330654 : True := trivial
theorem all.tw14539000326390715668 : True := trivial
theorem all.tw14647661154017913664 : True := trivial
theorem all.tw14648097213134440425 : True := trivial
theorem all.tw14701963045326077753 : True := trivial
theorem all.tw14721843458392949018 : True := trivial
theorem all.tw14822214895437561417 : True := trivial
theorem all.tw14848961488311411958 : True := trivial
theorem all.tw14849280956162755979 : True := trivial
theorem all.tw14883968960377749705 : True := trivial
theorem all.tw14970210157437980911 : True := trivial
theorem all.tw14984247238865676675 : True := trivial
theorem all.tw15059917014629022394 : True := trivial
theorem all.tw15076152544538823220 : True := trivial
theorem all.tw15081044799308232511 : True := trivial
theorem all.tw15105651507014581045 : True := trivial
theorem all.tw15151187641303801864 : True := trivial
theorem all.tw15176617289070330970 : True := trivial
theorem all.tw15197667806911357658 : True := trivial
theorem all.tw15198316981687975854 : True := trivial
theorem all.tw15248031165874397040 : True := trivial
theorem all.tw15305453227285626446 : True := trivial
theorem all.tw15451204947285891726 : True := trivial
theorem all.tw15541118713287057729 : True := trivial
theorem all.tw15618092478124507917 : True := trivial
theorem all.tw15670805634923389295 : True := trivial
theorem all.tw15671812041987572844 : True := trivial
theorem all.tw15766547542915688834 : True := trivial
theorem all.tw15849158762323818722 : True := trivial
theorem all.tw15888951733556516598 : True := trivial
theorem all.tw16444899576201249432 : True := trivial
theorem all.tw16457593375850944212 : True := trivial
theorem all.tw16573077582942348641 : True := trivial
theorem all.tw16665526110328478529 : True := trivial
theorem all.tw16694476904998839863 : True := trivial
theorem all.tw16727532447511142511 : True := trivial
theorem all.tw16739083755425606968 : True := trivial
theorem all.tw16739844878667351699 : True := trivial
theorem all.tw16747629065405408630 : True := trivial
theorem all.tw16779862611959906862 : True := trivial
theorem all.tw16838893715234930207 : True := trivial
theorem all.tw16987476370533704557 : True := trivial
theorem all.tw17053130121481772103 : True := trivial
theorem all.tw17103938086974590038 : True := trivial
theorem all.tw17106608494224303150 : True := trivial
theorem all.tw1717485560449817402 : True := trivial
theorem all.tw17287440210435355764 : True := trivial
theorem all.tw17314943208353570444 : True := trivial
theorem all.tw17360653242477243975 : True := trivial
theorem all.tw17394647144938102915 : True := trivial
theorem all.tw17523770736405063376 : True := trivial
theorem all.tw1768962640154500726 : True := trivial
theorem all.tw17717444079117462278 : True := trivial
theorem all.tw17740860788197283744 : True := trivial
theorem all.tw17800948086707717751 : True := trivial
theorem all.tw17846619120630023766 : True := trivial
theorem all.tw17899929404969355535 : True := trivial
theorem all.tw17933553581876595578 : True := trivial
theorem all.tw18068929663759586442 : True := trivial
theorem all.tw18095013157717089713 : True := trivial
theorem all.tw18120535436291149196 : True := trivial
theorem all.tw18124843273605240230 : True := trivial
theorem all.tw18291108133853008933 : True := trivial
theorem all.tw18369841484834026144 : True := trivial
theorem all.tw18440353960458814819 : True := trivial
theorem all.tw1973140245219671491 : True := trivial
theorem all.tw200202858802481044 : True := trivial
theorem all.tw200952908838891698 : True := trivial
theorem all.tw2013830700403712203 : True := trivial
theorem all.tw201708328148552895 : True := trivial
theorem all.tw225468126006155290 : True := trivial
theorem all.tw2286941943676669977 : True := trivial
theorem all.tw2406872565856053176 : True := trivial
theorem all.tw2412950195513398651 : True := trivial
theorem all.tw247909236438806434 : True := trivial
theorem all.tw2479237469882504799 : True := trivial
theorem all.tw2496985677507960046 : True := trivial
theorem all.tw2531900633515307401 : True := trivial
theorem all.tw2627396739876165418 : True := trivial
theorem all.tw2690882624139800689 : True := trivial
theorem all.tw2711446468545577505 : True := trivial
theorem all.tw2750322548573693319 : True := trivial
theorem all.tw282994513109133150 : True := trivial
theorem all.tw2842816785644039571 : True := trivial
theorem all.tw2863937026978368667 : True := trivial
theorem all.tw2891402810631288588 : True := trivial
theorem all.tw2972125363121769464 : True := trivial
theorem all.tw2997595627926355555 : True := trivial
theorem all.tw306535358961565008 : True := trivial
theorem all.tw3067323843314967869 : True := trivial
theorem all.tw3082439978237049498 : True := trivial
theorem all.tw3140866203998610647 : True := trivial
theorem all.tw3153289441736887298 : True := trivial
theorem all.tw3165661143165402847 : True := trivial
theorem all.tw3239841934065285509 : True := trivial
theorem all.tw3282140407130366615 : True := trivial
theorem all.tw3357559941945735724 : True := trivial
theorem all.tw3477183460249832127 : True := trivial
theorem all.tw3586251380002802234 : True := trivial
theorem all.tw3630066180865283129 : True := trivial
theorem all.tw3737605839529819480 : True := trivial
theorem all.tw3804168243799541492 : True := trivial
theorem all.tw3832104259330054055 : True := trivial
theorem all.tw3835962111665225711 : True := trivial
theorem all.tw3855190133869164905 : True := trivial
theorem all.tw3949192924188805160 : True := trivial
theorem all.tw397829171339713761 : True := trivial
theorem all.tw4244794441018138637 : True := trivial
theorem all.tw4258606087713283508 : True := trivial
theorem all.tw4515135292898193881 : True := trivial
theorem all.tw4561188658046838414 : True := trivial
theorem all.tw4613487602407358717 : True := trivial
theorem all.tw4634341240264483431 : True := trivial
theorem all.tw4645612490112672357 : True := trivial
theorem all.tw4720493938284804191 : True := trivial
theorem all.tw4722931859811370693 : True := trivial
theorem all.tw4742592449759447043 : True := trivial
theorem all.tw4786962568827011835 : True := trivial
theorem all.tw4814944892674192296 : True := trivial
theorem all.tw4818641064637329869 : True := trivial
theorem all.tw4831860214510110302 : True := trivial
theorem all.tw4835796080096327916 : True := trivial
theorem all.tw4847766330237268548 : True := trivial
theorem all.tw4899250830898163692 : True := trivial
theorem all.tw4907521953547317329 : True := trivial
theorem all.tw4942582282674782268 : True := trivial
theorem all.tw4965207536615798822 : True := trivial
theorem all.tw5002070824922625533 : True := trivial
theorem all.tw5103420120806187630 : True := trivial
theorem all.tw5103548895888603802 : True := trivial
theorem all.tw5187159431361770467 : True := trivial
theorem all.tw5213130599944360801 : True := trivial
theorem all.tw5245593775927794946 : True := trivial
theorem all.tw5247617807198155932 : True := trivial
theorem all.tw525001674005675781 : True := trivial
theorem all.tw5362506446432344171 : True := trivial
theorem all.tw5377772837010204750 : True := trivial
theorem all.tw5439016543574858206 : True := trivial
theorem all.tw5440085390276978291 : True := trivial
theorem all.tw5452208220385370613 : True := trivial
theorem all.tw549974085012918235 : True := trivial
theorem all.tw5543487718492105064 : True := trivial
theorem all.tw5555718599999811639 : True := trivial
theorem all.tw5615151462926910227 : True := trivial
theorem all.tw5615934883764171431 : True := trivial
theorem all.tw5689438673786977140 : True := trivial
theorem all.tw5718967094426423161 : True := trivial
theorem all.tw5747321363474778693 : True := trivial
theorem all.tw5750698986362780913 : True := trivial
theorem all.tw5815207240830897808 : True := trivial
theorem all.tw5854907428364158380 : True := trivial
theorem all.tw5927061715728957476 : True := trivial
theorem all.tw6178583632892115015 : True := trivial
theorem all.tw6189357195160471388 : True := trivial
theorem all.tw6393532188824929214 : True := trivial
theorem all.tw6405578165278201989 : True := trivial
theorem all.tw6575127235232548739 : True := trivial
theorem all.tw6648324312943424196 : True := trivial
theorem all.tw6656463916972431421 : True := trivial
theorem all.tw6674347012523051200 : True := trivial
theorem all.tw6836359950869179439 : True := trivial
theorem all.tw6888782338466086140 : True := trivial
theorem all.tw6900727353157573822 : True := trivial
theorem all.tw6946980451890315270 : True := trivial
theorem all.tw7062720368445256129 : True := trivial
theorem all.tw7091565871241343341 : True := trivial
theorem all.tw7193976414177721783 : True := trivial
theorem all.tw7205895575636617080 : True := trivial
theorem all.tw7234240908195146063 : True := trivial
theorem all.tw7317653850160689691 : True := trivial
theorem all.tw7347661181068853997 : True := trivial
theorem all.tw7654578318931278690 : True := trivial
theorem all.tw7686242042924871683 : True := trivial
theorem all.tw7785168158365692624 : True := trivial
theorem all.tw7824222052329908659 : True := trivial
theorem all.tw7899379758991183832 : True := trivial
theorem all.tw7916160540357663616 : True := trivial
theorem all.tw7957553974722075628 : True := trivial
theorem all.tw8013882960148741844 : True := trivial
theorem all.tw8026366407565007962 : True := trivial
theorem all.tw8108845850537571710 : True := trivial
theorem all.tw8111057081096800836 : True := trivial
theorem all.tw8203446524507428889 : True := trivial
theorem all.tw8316665608867782698 : True := trivial
theorem all.tw8322597137079436277 : True := trivial
theorem all.tw8486705261324164726 : True := trivial
theorem all.tw8670540905479144303 : True := trivial
theorem all.tw8711421783369662179 : True := trivial
theorem all.tw8789357946953759264 : True := trivial
theorem all.tw8909644736058714228 : True := trivial
theorem all.tw8968355716326206664 : True := trivial
theorem all.tw898707613593260451 : True := trivial
theorem all.tw9022205114861038860 : True := trivial
theorem all.tw9111709882147129655 : True := trivial
theorem all.tw9163178095015654352 : True := trivial
theorem all.tw9285670843845949155 : True := trivial
theorem all.tw9305783451064888827 : True := trivial
theorem all.tw9385597778382524922 : True := trivial
theorem all.tw9397017562490477109 : True := trivial
theorem all.tw9448091282758670523 : True := trivial
theorem all.tw9514876090768664877 : True := trivial
theorem all.tw9569524912501458470 : True := trivial
theorem all.tw9600454056292803967 : True := trivial
theorem all.tw9609096358927944886 : True := trivial
theorem all.tw9642480246203547912 : True := trivial
theorem all.tw9700507354520375304 : True := trivial
theorem all.tw9743695723290020096 : True := trivial
theorem all.tw9764797518255496921 : True := trivial
theorem all.tw9833964599435250050 : True := trivial
theorem all.tw9900696922168193843 : True := trivial
theorem all.tw9976896545867408452 : True := trivial
set_option maxHeartbeats 8000000 in
theorem all : PySem.Challenge.rw_pc0197_01.Holds := by
  clear all
  w_on
  o_law
  x_head
  (case hw => w_witness2)
  obtain ⟨d, kwd, h, x⟩ := Mine.walk
  exact Mine.walk_to h x rfl
end Mine
set_option Elab.async false
theorem PySem.Challenge.cw_pc0197_01_holds : PySem.Challenge.rw_pc0197_01.Holds := by
  exact Mine.all
#print axioms PySem.Challenge.cw_pc0197_01_holds
