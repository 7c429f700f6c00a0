import PyProof.Rows.All
import Wide.All
import OpenK.AllK
import Wide.FinOn
import PySem.Challenge.RW_sf0048_01
set_option Elab.async false
set_option maxRecDepth 100000
set_option maxHeartbeats 0
set_option linter.all false
set_option compiler.extract_closed false
namespace Mine
section
open PySem PySem.W PyProof.Rows
-- all objects that the look of x_head writes out: only the constant is wanted
section
local macro_rules | `(tactic| o_head $_) => `(tactic| assumption)
theorem kp (hK : PySem.Challenge.rw_sf0048_01.row.Holds) : PySem.Challenge.rw_sf0048_01.row.Holds := by x_head
end
-- the part of the text that the head keeps: only the constant is wanted
section
local macro_rules | `(tactic| refine $_) => `(tactic| assumption)
theorem kv (hK : PySem.Challenge.rw_sf0048_01.row.Holds) : PySem.Challenge.rw_sf0048_01.row.Holds := by o_head (Hook.none)
end
-- the addresses that the law reaches
noncomputable def need : List Nat := [0, 1, 2, 3, 4, 5, 6, 7, 8, 9, 10, 11, 12, 13, 14, 15, 16, 17, 18, 19, 20, 21, 22, 29, 30, 31, 32, 33, 34, 35, 36, 37, 38, 39, 40, 43, 51, 52, 55, 63, 64, 67, 74, 75, 76, 77, 78, 79, 80, 81, 82, 83, 86, 87, 88, 89, 90, 91, 92, 93, 94, 95, 96, 97, 98, 99, 100, 101, 102, 103, 104, 105, 106, 114, 115, 116, 117, 118, 119, 120, 121, 122, 124, 125, 126, 127, 128, 129, 130, 131, 132, 148, 149, 150, 151, 152, 153, 154, 162, 163, 164, 165, 166, 172, 173, 174, 175, 176, 399, 400, 574, 575, 576, 577, 578, 579, 580, 581, 589, 618, 619, 620, 621, 622, 623, 624, 661, 662, 681, 682, 683, 684, 685, 686, 687, 688, 689, 690, 691, 692, 693, 694, 695, 696, 697, 698, 699, 700, 701, 702, 703, 704, 705, 706, 707, 708, 709, 710, 711, 712, 713, 714, 715, 716, 717, 718, 719, 720, 721, 722, 723, 724, 725, 726, 727, 728, 729, 730, 731, 732, 733, 734, 735, 736, 737, 738, 739, 740, 748, 749, 750, 751, 752, 753, 754, 755, 756, 757, 758, 759, 760, 761, 762, 763, 764, 765, 766, 767, 768, 769, 770, 771, 772, 773, 774, 793, 794, 795, 796, 797, 798, 799, 800, 801, 802, 803, 804, 805, 806, 807, 808, 809, 810, 811, 812, 813, 814, 815, 816, 817, 818, 869, 870, 875, 876, 877, 878, 879, 880, 881, 882, 883, 884, 885, 886, 887, 888, 889, 890, 891, 892, 893, 894, 895, 896, 897, 898, 899, 900, 901, 902, 903, 904, 905, 906, 907, 908, 909, 910, 912, 913, 914, 915, 916]
noncomputable def isNeed (n : Nat) : Bool := need.any (Nat.beq n)
inductive Sel : Frag → Frag → Prop where
  | mk (l r : Frag) : Sel l r
theorem selKeep {p : Addr × Obj} {l r : Frag} (_ : isNeed p.1 = true) (_ : Sel l r) : Sel (p :: l) (p :: r) := .mk _ _
theorem selDrop {p : Addr × Obj} {l r : Frag} (_ : Sel l r) : Sel l (p :: r) := .mk _ _
theorem selNil : Sel [] [] := .mk _ _
noncomputable def KK : Params → Frag := fun P => by
  apply (?f : (l : Frag) → Sel l (kp.heap_1 P) → Frag)
  case f => exact fun l _ => l
  delta kp.heap_1
  repeat (first | (apply selKeep; (focus (rfl))) | apply selDrop)
  exact selNil
end
end Mine
namespace Mine
section
open PySem PySem.Spec PySem.Calls PySem.W PyProof.Rows
/-- the same with law's own table of codes (911): what the head speaks of -/
noncomputable def needH : List Nat := [0, 1, 2, 3, 4, 5, 6, 7, 8, 9, 10, 11, 12, 13, 14, 15, 16, 17, 18, 19, 20, 21, 22, 29, 30, 31, 32, 33, 34, 35, 36, 37, 38, 39, 40, 43, 51, 52, 55, 63, 64, 67, 74, 75, 76, 77, 78, 79, 80, 81, 82, 83, 86, 87, 88, 89, 90, 91, 92, 93, 94, 95, 96, 97, 98, 99, 100, 101, 102, 103, 104, 105, 106, 114, 115, 116, 117, 118, 119, 120, 121, 122, 124, 125, 126, 127, 128, 129, 130, 131, 132, 148, 149, 150, 151, 152, 153, 154, 162, 163, 164, 165, 166, 172, 173, 174, 175, 176, 399, 400, 574, 575, 576, 577, 578, 579, 580, 581, 589, 618, 619, 620, 621, 622, 623, 624, 661, 662, 681, 682, 683, 684, 685, 686, 687, 688, 689, 690, 691, 692, 693, 694, 695, 696, 697, 698, 699, 700, 701, 702, 703, 704, 705, 706, 707, 708, 709, 710, 711, 712, 713, 714, 715, 716, 717, 718, 719, 720, 721, 722, 723, 724, 725, 726, 727, 728, 729, 730, 731, 732, 733, 734, 735, 736, 737, 738, 739, 740, 748, 749, 750, 751, 752, 753, 754, 755, 756, 757, 758, 759, 760, 761, 762, 763, 764, 765, 766, 767, 768, 769, 770, 771, 772, 773, 774, 793, 794, 795, 796, 797, 798, 799, 800, 801, 802, 803, 804, 805, 806, 807, 808, 809, 810, 811, 812, 813, 814, 815, 816, 817, 818, 869, 870, 875, 876, 877, 878, 879, 880, 881, 882, 883, 884, 885, 886, 887, 888, 889, 890, 891, 892, 893, 894, 895, 896, 897, 898, 899, 900, 901, 902, 903, 904, 905, 906, 907, 908, 909, 910, 911, 912, 913, 914, 915, 916]
noncomputable def isNeedH (n : Nat) : Bool := needH.any (Nat.beq n)
theorem selKeepH {p : Addr × Obj} {l r : Frag} (_ : isNeedH p.1 = true) (_ : Sel l r) : Sel (p :: l) (p :: r) := .mk _ _
noncomputable def KH : Params → Frag := fun P => by
  apply (?f : (l : Frag) → Sel l (kp.heap_1 P) → Frag)
  case f => exact fun l _ => l
  delta kp.heap_1
  repeat (first | (apply selKeepH; (focus (rfl))) | apply selDrop)
  exact selNil
noncomputable def offTab (p : Addr × Obj) : Bool := !(Nat.beq p.1 911)
theorem KK_eq (P : Params) : KK P = List.filter offTab (KH P) := by kernel_rfl
theorem lookup_filter {a : Addr} {o : Obj} : ∀ {l : Frag}, (List.filter offTab l).lookup a = some o → a ≠ 911 ∧ l.lookup a = some o
  | [], e => by cases e
  | (b, x) :: r, e => by
    cases hb : offTab (b, x) with
    | true =>
      rw [List.filter_cons_of_pos hb, List.lookup_cons] at e
      rw [List.lookup_cons]
      cases hab : a == b with
      | true =>
        rw [hab] at e
        refine ⟨fun z => ?_, e⟩
        have : b = 911 := (eq_of_beq hab).symm.trans z
        subst this
        exact absurd hb Bool.false_ne_true
      | false =>
        rw [hab] at e
        exact lookup_filter e
    | false =>
      rw [List.filter_cons_of_neg (by rw [hb]; exact Bool.false_ne_true)] at e
      obtain ⟨h1, h2⟩ := lookup_filter e
      refine ⟨h1, ?_⟩
      rw [List.lookup_cons]
      cases hab : a == b with
      | true =>
        have h3 : a = b := eq_of_beq hab
        subst h3
        have : Nat.beq a 911 = true := by
          cases q : Nat.beq a 911 with
          | true => rfl
          | false => exact absurd hb (by unfold offTab; rw [q]; decide)
        exact absurd (Nat.eq_of_beq_eq_true this) h1
      | false => exact h2
theorem kk_in {w : World} {h₁ : Heap} (X : (KH w.params).In h₁) : (KK w.params).In (ghostOf h₁ [(915, 911)]) := fun a o e => by
  rw [KK_eq] at e
  obtain ⟨h1, h2⟩ := lookup_filter e
  exact ghost_ne (X a o h2) (fun q => h1 (List.mem_singleton.mp q))
end
end Mine
namespace Mine
section
open PySem PySem.Spec PySem.Calls PySem.W PyProof.Rows
/-- the law's def as the view holds it -/
noncomputable def lawD : DefRec := match defOf kv.view_1 (Str.ofString "law") with
  | some (d, _) => d
  | none => ⟨Str.ofString "law", default, [], default, ⟨0, 0, 0, 0⟩⟩
/-- what the walk must show -/
noncomputable def WalkC : Prop := WalkO kv.view_1 [Str.ofString "RowsError", Str.ofString "named", Str.ofString "tuple_of", Str.ofString "Side", Str.ofString "is_subtype", Str.ofString "PLAIN_KINDS", Str.ofString "Decl"] (XL kv.view_1 []) (kHook KH needH (fun _ => by kernel_rfl)).says PySem.Challenge.rw_sf0048_01.row.toRowW lawD [] (fun f vs => call f vs)
-- the goal that the head leaves is closed where it arises (the head clears the context of what it leaves)
local macro_rules | `(tactic| refine $f:ident (q := $q) $as*) => `(tactic| (refine' $f (q := $q) $as* <;> first | (with_reducible show WalkO _ _ _ _ _ _ _ _; exact cast (by kernel_rfl) ‹WalkC›) | skip))
theorem m1.tw14043955475212318790 : True := trivial
theorem m1.tw5135275324214544563 : True := trivial
theorem m1.tw10006512306127993402 : True := trivial
theorem m1.tw10054714954387674259 : True := trivial
theorem m1.tw10153003487018351808 : True := trivial
theorem m1.tw1015615737421215723 : True := trivial
theorem m1.tw10168439488617618808 : True := trivial
theorem m1.tw10176067192761089107 : True := trivial
theorem m1.tw10178196290872190308 : True := trivial
theorem m1.tw10178325332491669551 : True := trivial
theorem m1.tw1018877545877885934 : True := trivial
theorem m1.tw10239957672352415080 : True := trivial
theorem m1.tw10264315499875564672 : True := trivial
theorem m1.tw10328286972349938181 : True := trivial
theorem m1.tw10338563460896477364 : True := trivial
theorem m1.tw10339592721821239706 : True := trivial
theorem m1.tw10351202835201538476 : True := trivial
theorem m1.tw10360916471201141699 : True := trivial
theorem m1.tw10373050220184953620 : True := trivial
theorem m1.tw10405645411455024043 : True := trivial
theorem m1.tw1041956016529974799 : True := trivial
theorem m1.tw10428080207682927450 : True := trivial
theorem m1.tw1047889950519360658 : True := trivial
theorem m1.tw10481960452112352913 : True := trivial
theorem m1.tw10487857664832761488 : True := trivial
theorem m1.tw10508063368562465942 : True := trivial
theorem m1.tw10509148763238567150 : True := trivial
theorem m1.tw10514991980695978042 : True := trivial
theorem m1.tw10538441260052908238 : True := trivial
theorem m1.tw10572272071014644058 : True := trivial
theorem m1.tw10580573493765275866 : True := trivial
theorem m1.tw10603691073873203871 : True := trivial
theorem m1.tw1061304117209139054 : True := trivial
theorem m1.tw10616296197964541102 : True := trivial
theorem m1.tw10654570286503918960 : True := trivial
theorem m1.tw10708887836434345818 : True := trivial
theorem m1.tw10721745320820618012 : True := trivial
theorem m1.tw10745111654544228427 : True := trivial
theorem m1.tw10750587590245971842 : True := trivial
theorem m1.tw10763843050330233945 : True := trivial
theorem m1.tw10779529151733665455 : True := trivial
theorem m1.tw10793731120003005256 : True := trivial
theorem m1.tw10813376361604679257 : True := trivial
theorem m1.tw10832937383323519354 : True := trivial
theorem m1.tw10855660093794488353 : True := trivial
theorem m1.tw10866111371871026878 : True := trivial
theorem m1.tw10876849838873537880 : True := trivial
theorem m1.tw10891136404749479944 : True := trivial
theorem m1.tw10908492922872654087 : True := trivial
theorem m1.tw10910845686248520675 : True := trivial
theorem m1.tw10938884229734921183 : True := trivial
theorem m1.tw10942244911038159516 : True := trivial
theorem m1.tw10946336367476810823 : True := trivial
theorem m1.tw10946718640910633996 : True := trivial
theorem m1.tw10977679428135931162 : True := trivial
theorem m1.tw10978997663533047504 : True := trivial
theorem m1.tw10985035900276967978 : True := trivial
theorem m1.tw11012192653519383857 : True := trivial
theorem m1.tw11016185087871502242 : True := trivial
theorem m1.tw11030205847250887404 : True := trivial
theorem m1.tw11039069873714491293 : True := trivial
theorem m1.tw11039567241316736518 : True := trivial
theorem m1.tw1104474115607801116 : True := trivial
theorem m1.tw11059928097975600616 : True := trivial
theorem m1.tw11079822722863568834 : True := trivial
theorem m1.tw11082841340780088627 : True := trivial
theorem m1.tw11089263097835743629 : True := trivial
theorem m1.tw11092998085203283648 : True := trivial
theorem m1.tw11123508983037353133 : True := trivial
theorem m1.tw11125584731801799038 : True := trivial
theorem m1.tw11137464036788622389 : True := trivial
theorem m1.tw11143763970728015693 : True := trivial
theorem m1.tw11151341746277600243 : True := trivial
theorem m1.tw11159900060946943247 : True := trivial
theorem m1.tw11199404513384345502 : True := trivial
theorem m1.tw11216547699157115340 : True := trivial
theorem m1.tw11258765132268712862 : True := trivial
theorem m1.tw11263551671413503351 : True := trivial
theorem m1.tw11329447062566962373 : True := trivial
theorem m1.tw11335880914055239192 : True := trivial
theorem m1.tw11417413739108510229 : True := trivial
theorem m1.tw11423163117153931521 : True := trivial
theorem m1.tw11425942191563390673 : True := trivial
theorem m1.tw11427935301560434411 : True := trivial
theorem m1.tw11429692387507504404 : True := trivial
theorem m1.tw11437830597034554279 : True := trivial
theorem m1.tw11438796018664329707 : True := trivial
theorem m1.tw11483885685267147622 : True := trivial
theorem m1.tw11484735241758223025 : True := trivial
theorem m1.tw11491207470743412704 : True := trivial
theorem m1.tw11514580215001592055 : True := trivial
theorem m1.tw11570286960647565517 : True := trivial
theorem m1.tw11592127777008001605 : True := trivial
theorem m1.tw11595877899243301520 : True := trivial
theorem m1.tw11597081941172099909 : True := trivial
theorem m1.tw11614369839334358544 : True := trivial
theorem m1.tw11619362849484302075 : True := trivial
theorem m1.tw11633707717999073792 : True := trivial
theorem m1.tw11642585440953397574 : True := trivial
theorem m1.tw11661647335260408035 : True := trivial
theorem m1.tw11669082447532824256 : True := trivial
theorem m1.tw11696764018213766071 : True := trivial
theorem m1.tw11733536572944230271 : True := trivial
theorem m1.tw11733639234737143824 : True := trivial
theorem m1.tw11760672105474761885 : True := trivial
theorem m1.tw11763245318115166317 : True := trivial
theorem m1.tw11773806768509100312 : True := trivial
theorem m1.tw11778424013486408309 : True := trivial
theorem m1.tw11815241433241164985 : True := trivial
theorem m1.tw11843812008589584341 : True := trivial
theorem m1.tw11867667829789384622 : True := trivial
theorem m1.tw118683783281470714 : True := trivial
theorem m1.tw11874348136041194829 : True := trivial
theorem m1.tw11879225049117540172 : True := trivial
theorem m1.tw11890423542868154123 : True := trivial
theorem m1.tw11898744818555509849 : True := trivial
theorem m1.tw11912636167593534927 : True := trivial
theorem m1.tw1193489833306394856 : True := trivial
theorem m1.tw11955332345389603402 : True := trivial
theorem m1.tw11980800534909341391 : True := trivial
theorem m1.tw12004304717529865993 : True := trivial
theorem m1.tw12022188727730671291 : True := trivial
theorem m1.tw12029567543504207626 : True := trivial
theorem m1.tw12035936968349041590 : True := trivial
theorem m1.tw12036624804161256388 : True := trivial
theorem m1.tw12047898222930564684 : True := trivial
theorem m1.tw12051079492983765179 : True := trivial
theorem m1.tw12060473462607366416 : True := trivial
theorem m1.tw12063172413186377606 : True := trivial
theorem m1.tw12077132789608907726 : True := trivial
theorem m1.tw12080085137423170700 : True := trivial
theorem m1.tw12102332005945638225 : True := trivial
theorem m1.tw12115960445500488812 : True := trivial
theorem m1.tw12140054369321139477 : True := trivial
theorem m1.tw12227434055151308887 : True := trivial
theorem m1.tw12242150677960884964 : True := trivial
theorem m1.tw12247334294790124294 : True := trivial
theorem m1.tw12254073764705834610 : True := trivial
theorem m1.tw1225861337088141640 : True := trivial
theorem m1.tw12276118098340634184 : True := trivial
theorem m1.tw12310466258672958520 : True := trivial
theorem m1.tw12311407311460287298 : True := trivial
theorem m1.tw12322525567942058417 : True := trivial
theorem m1.tw12342872156876590860 : True := trivial
theorem m1.tw12353022673077525541 : True := trivial
theorem m1.tw124222886492738892 : True := trivial
theorem m1.tw1243717916980085632 : True := trivial
theorem m1.tw12459366197119802960 : True := trivial
theorem m1.tw12484672233840207006 : True := trivial
theorem m1.tw12500866651561412610 : True := trivial
theorem m1.tw12512565326994010123 : True := trivial
theorem m1.tw12551837895601039631 : True := trivial
theorem m1.tw12554367023408150378 : True := trivial
theorem m1.tw12569396253810952623 : True := trivial
theorem m1.tw12608690191912446881 : True := trivial
theorem m1.tw12609705493180578235 : True := trivial
theorem m1.tw12629890897192791532 : True := trivial
theorem m1.tw12631673770892582837 : True := trivial
theorem m1.tw12634736714824806568 : True := trivial
theorem m1.tw12641826079107279048 : True := trivial
theorem m1.tw12682846718573088903 : True := trivial
theorem m1.tw12684922720965625418 : True := trivial
theorem m1.tw1273944203729136466 : True := trivial
theorem m1.tw12766701480089442301 : True := trivial
theorem m1.tw1277690757631925632 : True := trivial
theorem m1.tw12809849817605819541 : True := trivial
theorem m1.tw1281520633577408204 : True := trivial
theorem m1.tw12844751220829008331 : True := trivial
theorem m1.tw12848550200561272598 : True := trivial
theorem m1.tw12855659643322990579 : True := trivial
theorem m1.tw12873208224967291664 : True := trivial
theorem m1.tw12883827447842482820 : True := trivial
theorem m1.tw1289181163663237008 : True := trivial
theorem m1.tw12904206980935895892 : True := trivial
theorem m1.tw12905648021117595541 : True := trivial
theorem m1.tw12916384955394578436 : True := trivial
theorem m1.tw12924779077531612947 : True := trivial
theorem m1.tw12927253618386400835 : True := trivial
theorem m1.tw12950070838695724554 : True := trivial
theorem m1.tw12966744559533169580 : True := trivial
theorem m1.tw12992253165002198541 : True := trivial
theorem m1.tw1303540162218770053 : True := trivial
theorem m1.tw13040887476905181583 : True := trivial
theorem m1.tw13048442000242188182 : True := trivial
theorem m1.tw13078650554969035117 : True := trivial
theorem m1.tw13096431046884857426 : True := trivial
theorem m1.tw13106864688003115110 : True := trivial
theorem m1.tw13163325957838901897 : True := trivial
theorem m1.tw13180830835552103088 : True := trivial
theorem m1.tw13197926451438504888 : True := trivial
theorem m1.tw13214130346912611571 : True := trivial
theorem m1.tw13218700371617233586 : True := trivial
theorem m1.tw13278835183968553502 : True := trivial
theorem m1.tw13294468690183171897 : True := trivial
theorem m1.tw13301777178611048921 : True := trivial
theorem m1.tw13306500768062736221 : True := trivial
theorem m1.tw1331212090996054931 : True := trivial
theorem m1.tw13312911091905082959 : True := trivial
theorem m1.tw13315036038537469170 : True := trivial
theorem m1.tw13329119387622724901 : True := trivial
theorem m1.tw13334584768973933906 : True := trivial
theorem m1.tw13363560433266409604 : True := trivial
theorem m1.tw13391230745987214741 : True := trivial
theorem m1.tw13409026553609032809 : True := trivial
theorem m1.tw13412211787727454302 : True := trivial
theorem m1.tw13450784496306787881 : True := trivial
theorem m1.tw13477740400204729229 : True := trivial
theorem m1.tw13491362224157471497 : True := trivial
theorem m1.tw13562115957567164506 : True := trivial
theorem m1.tw13602317046918709619 : True := trivial
theorem m1.tw13626267982682958113 : True := trivial
theorem m1.tw13638551381075776813 : True := trivial
theorem m1.tw1364552799341478528 : True := trivial
theorem m1.tw13667843468469892960 : True := trivial
theorem m1.tw13668308647356594087 : True := trivial
theorem m1.tw13674267969690500262 : True := trivial
theorem m1.tw13680130802266209793 : True := trivial
theorem m1.tw13685795230858722298 : True := trivial
theorem m1.tw13711341357468613765 : True := trivial
theorem m1.tw13752408974732100481 : True := trivial
theorem m1.tw13759828452911716573 : True := trivial
theorem m1.tw13762551348780694167 : True := trivial
theorem m1.tw13821113992357837475 : True := trivial
theorem m1.tw13826019448639030945 : True := trivial
theorem m1.tw13828798307576239065 : True := trivial
theorem m1.tw13847415958184171396 : True := trivial
theorem m1.tw13854067225811877922 : True := trivial
theorem m1.tw13874740363993611144 : True := trivial
theorem m1.tw13921249447793150915 : True := trivial
theorem m1.tw13936351951808098331 : True := trivial
theorem m1.tw13947466940481824986 : True := trivial
theorem m1.tw13965721677135788048 : True := trivial
theorem m1.tw13967243105632662962 : True := trivial
theorem m1.tw14000923618022964438 : True := trivial
theorem m1.tw14011863052462345330 : True := trivial
theorem m1.tw14043225698209685588 : True := trivial
theorem m1.tw14057919473767094907 : True := trivial
theorem m1.tw14066718290847303586 : True := trivial
theorem m1.tw14090426833463582957 : True := trivial
theorem m1.tw14091018676211637120 : True := trivial
theorem m1.tw14158847051431301374 : True := trivial
theorem m1.tw14176446795148285205 : True := trivial
theorem m1.tw14184806196228828336 : True := trivial
theorem m1.tw14250685748085628115 : True := trivial
theorem m1.tw14257354474355584974 : True := trivial
theorem m1.tw142850185551294569 : True := trivial
theorem m1.tw14297812222794998405 : True := trivial
theorem m1.tw14317327278110873994 : True := trivial
theorem m1.tw14329171688406382793 : True := trivial
theorem m1.tw14342423442989012050 : True := trivial
theorem m1.tw1434463912893798223 : True := trivial
theorem m1.tw14373705616726002737 : True := trivial
theorem m1.tw14379609326566068812 : True := trivial
theorem m1.tw14392217545835503887 : True := trivial
theorem m1.tw14401801212195618867 : True := trivial
theorem m1.tw14434891471878466563 : True := trivial
theorem m1.tw1443637520394072381 : True := trivial
theorem m1.tw14446322503855344602 : True := trivial
theorem m1.tw14461355605096353994 : True := trivial
theorem m1.tw14463856738865725820 : True := trivial
theorem m1.tw14469133099789202468 : True := trivial
theorem m1.tw14493812559965732867 : True := trivial
theorem m1.tw14527191571551584342 : True := trivial
theorem m1.tw1453195777107465216 : True := trivial
theorem m1.tw14583010020023723064 : True := trivial
theorem m1.tw14584691720835333578 : True := trivial
theorem m1.tw1462674487530866685 : True := trivial
theorem m1.tw14632620468536769999 : True := trivial
theorem m1.tw14659003764140340279 : True := trivial
theorem m1.tw14669989168004826372 : True := trivial
theorem m1.tw14679895103145990002 : True := trivial
theorem m1.tw14715322441176688988 : True := trivial
theorem m1.tw14718213463976009377 : True := trivial
theorem m1.tw14724944056443870724 : True := trivial
theorem m1.tw14867937165772146515 : True := trivial
theorem m1.tw14928497835807120880 : True := trivial
theorem m1.tw14969647157321826874 : True := trivial
theorem m1.tw14978915935041921558 : True := trivial
theorem m1.tw14980215663191187199 : True := trivial
theorem m1.tw14991695246818305671 : True := trivial
theorem m1.tw1500279249501755147 : True := trivial
theorem m1.tw15014306581461085321 : True := trivial
theorem m1.tw15043495098985200404 : True := trivial
theorem m1.tw15070240058736300850 : True := trivial
theorem m1.tw15083680862029506530 : True := trivial
theorem m1.tw15091200214419904920 : True := trivial
theorem m1.tw15096430314320758991 : True := trivial
theorem m1.tw15134694076412039346 : True := trivial
theorem m1.tw15160364222928091013 : True := trivial
theorem m1.tw15163003099842146785 : True := trivial
theorem m1.tw1517114951628353406 : True := trivial
theorem m1.tw15180708501086224324 : True := trivial
theorem m1.tw15190250364701831245 : True := trivial
theorem m1.tw15197715005026907509 : True := trivial
theorem m1.tw15201959369865730960 : True := trivial
theorem m1.tw15228096832206846001 : True := trivial
theorem m1.tw15233512709991791718 : True := trivial
theorem m1.tw15249944059723264369 : True := trivial
theorem m1.tw15257345470814647834 : True := trivial
theorem m1.tw15271727062608713807 : True := trivial
theorem m1.tw15278219638596722068 : True := trivial
theorem m1.tw15285811126206347921 : True := trivial
theorem m1.tw15340664342656084 : True := trivial
theorem m1.tw15342487506473240775 : True := trivial
theorem m1.tw15391301078300142420 : True := trivial
theorem m1.tw15411598150024110355 : True := trivial
theorem m1.tw15473061662861914635 : True := trivial
theorem m1.tw15500735188743606725 : True := trivial
theorem m1.tw15502407145991150819 : True := trivial
theorem m1.tw15508907444752718332 : True := trivial
theorem m1.tw15615875759603556910 : True := trivial
theorem m1.tw15655817647232583894 : True := trivial
theorem m1.tw1567539360845699256 : True := trivial
theorem m1.tw15681930032243186832 : True := trivial
theorem m1.tw15688643611177819058 : True := trivial
theorem m1.tw1569409443937493538 : True := trivial
theorem m1.tw15702539360472722926 : True := trivial
theorem m1.tw15704436883073024649 : True := trivial
theorem m1.tw15714309068191842090 : True := trivial
theorem m1.tw1572774407198313290 : True := trivial
theorem m1.tw15729580589208199175 : True := trivial
theorem m1.tw15732109230336306823 : True := trivial
theorem m1.tw15752962551945018257 : True := trivial
theorem m1.tw15775158112451001618 : True := trivial
theorem m1.tw15783376938106881711 : True := trivial
theorem m1.tw1580937536751112468 : True := trivial
theorem m1.tw15874931563499307786 : True := trivial
theorem m1.tw15878338825781360588 : True := trivial
theorem m1.tw15889993607359990319 : True := trivial
theorem m1.tw15900096692196722463 : True := trivial
theorem m1.tw15905870951748186424 : True := trivial
theorem m1.tw15907083772108368246 : True := trivial
theorem m1.tw15920348864487850293 : True := trivial
theorem m1.tw15935792240752720261 : True := trivial
theorem m1.tw15942081294429641345 : True := trivial
theorem m1.tw15947221379806242328 : True := trivial
theorem m1.tw15953223902034363427 : True := trivial
theorem m1.tw1596737667180290898 : True := trivial
theorem m1.tw15974424295852659659 : True := trivial
theorem m1.tw15987904725261297861 : True := trivial
theorem m1.tw16000848970453374881 : True := trivial
theorem m1.tw16034842645735350444 : True := trivial
theorem m1.tw16035436229731877866 : True := trivial
theorem m1.tw16042486285858531759 : True := trivial
theorem m1.tw16043771569916032469 : True := trivial
theorem m1.tw16045618661806109643 : True := trivial
theorem m1.tw1606820535333254331 : True := trivial
theorem m1.tw16082599916684526468 : True := trivial
theorem m1.tw16139338495770930720 : True := trivial
theorem m1.tw16144944672854067181 : True := trivial
theorem m1.tw16172341481424965923 : True := trivial
theorem m1.tw16179901081566347132 : True := trivial
theorem m1.tw1618237505345086093 : True := trivial
theorem m1.tw16202958982469740519 : True := trivial
theorem m1.tw16208102973454262115 : True := trivial
theorem m1.tw16272372678487877925 : True := trivial
theorem m1.tw16277513012124352549 : True := trivial
theorem m1.tw16283631101233616372 : True := trivial
theorem m1.tw16295609453949606298 : True := trivial
theorem m1.tw16312590715705165275 : True := trivial
theorem m1.tw16319376085309769060 : True := trivial
theorem m1.tw16319934997437465578 : True := trivial
theorem m1.tw16371999403118496369 : True := trivial
theorem m1.tw16410656249460717244 : True := trivial
theorem m1.tw16423596251255556794 : True := trivial
theorem m1.tw16431524588745999357 : True := trivial
theorem m1.tw16431546385597211794 : True := trivial
theorem m1.tw16452748088142895818 : True := trivial
theorem m1.tw16459009285428629202 : True := trivial
theorem m1.tw16483741629104228286 : True := trivial
theorem m1.tw16489406461821317890 : True := trivial
theorem m1.tw16489863228077201963 : True := trivial
theorem m1.tw16503114877423932775 : True := trivial
theorem m1.tw1651723566522115280 : True := trivial
theorem m1.tw16520414045681657159 : True := trivial
theorem m1.tw16520827765147224010 : True := trivial
theorem m1.tw16521715325771293142 : True := trivial
theorem m1.tw16574924495900351092 : True := trivial
theorem m1.tw16582919061541603988 : True := trivial
theorem m1.tw16584524836910058702 : True := trivial
theorem m1.tw16596785453139453383 : True := trivial
theorem m1.tw16602713318714675883 : True := trivial
theorem m1.tw16633656615531658899 : True := trivial
theorem m1.tw16660934242878389626 : True := trivial
theorem m1.tw16676926225546275751 : True := trivial
theorem m1.tw16680767839607311178 : True := trivial
theorem m1.tw16695229227045254387 : True := trivial
theorem m1.tw1672038750362185176 : True := trivial
theorem m1.tw16732217688187607807 : True := trivial
theorem m1.tw16748810123340178439 : True := trivial
theorem m1.tw16755302451029541562 : True := trivial
theorem m1.tw16796965046897141276 : True := trivial
theorem m1.tw1683118913718961061 : True := trivial
theorem m1.tw1684334533662517957 : True := trivial
theorem m1.tw16860785497894144483 : True := trivial
theorem m1.tw16862004724187344837 : True := trivial
theorem m1.tw16868947855588631315 : True := trivial
theorem m1.tw16948873962102568500 : True := trivial
theorem m1.tw16989981564241832283 : True := trivial
theorem m1.tw17015183706617891910 : True := trivial
theorem m1.tw1704041208321060946 : True := trivial
theorem m1.tw17053165004455369529 : True := trivial
theorem m1.tw17058874712236934510 : True := trivial
theorem m1.tw17074618729282993409 : True := trivial
theorem m1.tw17080392339779600460 : True := trivial
theorem m1.tw1708410309825469969 : True := trivial
theorem m1.tw17123056768386439775 : True := trivial
theorem m1.tw17130103506792791266 : True := trivial
theorem m1.tw17169279014354080831 : True := trivial
theorem m1.tw171748374373791224 : True := trivial
theorem m1.tw1721155239360061177 : True := trivial
theorem m1.tw1728449507143224852 : True := trivial
theorem m1.tw1728618278064280188 : True := trivial
theorem m1.tw17290451100101142701 : True := trivial
theorem m1.tw17317337659023217093 : True := trivial
theorem m1.tw17330037416674526781 : True := trivial
theorem m1.tw17334497134918484943 : True := trivial
theorem m1.tw17341095915725962694 : True := trivial
theorem m1.tw17349872077761762719 : True := trivial
theorem m1.tw17383326278845849933 : True := trivial
theorem m1.tw17383745639596794261 : True := trivial
theorem m1.tw17414281266735317875 : True := trivial
theorem m1.tw17426406355327778213 : True := trivial
theorem m1.tw17466152728697724 : True := trivial
theorem m1.tw1747120034672981395 : True := trivial
theorem m1.tw17476251123370277931 : True := trivial
theorem m1.tw17492543831988760992 : True := trivial
theorem m1.tw17536907488994157418 : True := trivial
theorem m1.tw17572196134948576350 : True := trivial
theorem m1.tw17598927803143962276 : True := trivial
theorem m1.tw17603298635474676555 : True := trivial
theorem m1.tw17618172385635368876 : True := trivial
theorem m1.tw17624780196627941299 : True := trivial
theorem m1.tw17645911134756160486 : True := trivial
theorem m1.tw17654185027667010031 : True := trivial
theorem m1.tw17665262877416937696 : True := trivial
theorem m1.tw17701080785023994995 : True := trivial
theorem m1.tw17704986950892255939 : True := trivial
theorem m1.tw17715705112403945166 : True := trivial
theorem m1.tw17746947443370563269 : True := trivial
theorem m1.tw17771048761621921269 : True := trivial
theorem m1.tw17790523029310676759 : True := trivial
theorem m1.tw17815758851267522499 : True := trivial
theorem m1.tw17840480630244093130 : True := trivial
theorem m1.tw17869622724778913618 : True := trivial
theorem m1.tw17881644520580298216 : True := trivial
theorem m1.tw17901977635342532598 : True := trivial
theorem m1.tw17915803927590540607 : True := trivial
theorem m1.tw17926592289191596131 : True := trivial
theorem m1.tw17927161357872784379 : True := trivial
theorem m1.tw17992510744068358067 : True := trivial
theorem m1.tw18021610521425557636 : True := trivial
theorem m1.tw18040452981318407283 : True := trivial
theorem m1.tw18069057906669739292 : True := trivial
theorem m1.tw18071820088202748720 : True := trivial
theorem m1.tw18094919178992579974 : True := trivial
theorem m1.tw18102918269619407651 : True := trivial
theorem m1.tw18130669851796114517 : True := trivial
theorem m1.tw18156726413752964597 : True := trivial
theorem m1.tw18163323165135695784 : True := trivial
theorem m1.tw18170586464550176459 : True := trivial
theorem m1.tw18223068754254418638 : True := trivial
theorem m1.tw18229295460363502353 : True := trivial
theorem m1.tw1822988158907264838 : True := trivial
theorem m1.tw18241336289557697753 : True := trivial
theorem m1.tw18249893549036371866 : True := trivial
theorem m1.tw1833707886294110182 : True := trivial
theorem m1.tw18376790716803352708 : True := trivial
theorem m1.tw18383086664721488953 : True := trivial
theorem m1.tw18419575630705524751 : True := trivial
theorem m1.tw1845968325235068856 : True := trivial
theorem m1.tw1850573934351455166 : True := trivial
theorem m1.tw1861746716546830632 : True := trivial
theorem m1.tw1965859866474665127 : True := trivial
theorem m1.tw1966341212167958960 : True := trivial
theorem m1.tw1967820256018395521 : True := trivial
theorem m1.tw2017229325351291288 : True := trivial
theorem m1.tw2019706415534497479 : True := trivial
theorem m1.tw2022808077207427186 : True := trivial
theorem m1.tw2024117934381571093 : True := trivial
theorem m1.tw2036700152629680372 : True := trivial
theorem m1.tw2061100088398802151 : True := trivial
theorem m1.tw2075214822213268557 : True := trivial
theorem m1.tw2101265657549511993 : True := trivial
theorem m1.tw2106679317711272427 : True := trivial
theorem m1.tw2147967383920824271 : True := trivial
theorem m1.tw2158245338104284505 : True := trivial
theorem m1.tw2170036369872329798 : True := trivial
theorem m1.tw2170448912431494934 : True := trivial
theorem m1.tw2197852421864595721 : True := trivial
theorem m1.tw2210902096455711397 : True := trivial
theorem m1.tw2217979215618910147 : True := trivial
theorem m1.tw2220295752073658259 : True := trivial
theorem m1.tw2227265816171270698 : True := trivial
theorem m1.tw2249019001977729133 : True := trivial
theorem m1.tw2255128254586856170 : True := trivial
theorem m1.tw2256425313233668239 : True := trivial
theorem m1.tw226381100141832464 : True := trivial
theorem m1.tw2310329819447541261 : True := trivial
theorem m1.tw2320564487973277919 : True := trivial
theorem m1.tw2344617388106808878 : True := trivial
theorem m1.tw2357829209419068072 : True := trivial
theorem m1.tw2371652847641460297 : True := trivial
theorem m1.tw2402541799553446634 : True := trivial
theorem m1.tw2442256481866426966 : True := trivial
theorem m1.tw2446372716177848083 : True := trivial
theorem m1.tw2470066401860051835 : True := trivial
theorem m1.tw2540558794030544312 : True := trivial
theorem m1.tw254573401688862669 : True := trivial
theorem m1.tw2552643738452618992 : True := trivial
theorem m1.tw2553211713533533284 : True := trivial
theorem m1.tw2579231134251314572 : True := trivial
theorem m1.tw2622061468734331593 : True := trivial
theorem m1.tw2679820991088900310 : True := trivial
theorem m1.tw2680810765973357164 : True := trivial
theorem m1.tw2697405517935284269 : True := trivial
theorem m1.tw2713162585611636053 : True := trivial
theorem m1.tw2730347226119045019 : True := trivial
theorem m1.tw2730509804722474866 : True := trivial
theorem m1.tw2766558108739572566 : True := trivial
theorem m1.tw2778057869733993725 : True := trivial
theorem m1.tw2779833252466317751 : True := trivial
theorem m1.tw2826690081717576969 : True := trivial
theorem m1.tw2854622843231480736 : True := trivial
theorem m1.tw2856130317556731186 : True := trivial
theorem m1.tw2893714150478212690 : True := trivial
theorem m1.tw2933739388065979923 : True := trivial
theorem m1.tw2937988636957018809 : True := trivial
theorem m1.tw2938418037100191836 : True := trivial
theorem m1.tw2943405993479490896 : True := trivial
theorem m1.tw2972055710491842609 : True := trivial
theorem m1.tw2975958132427622807 : True := trivial
theorem m1.tw297696708984847356 : True := trivial
theorem m1.tw3113142328228267567 : True := trivial
theorem m1.tw3124441107676069918 : True := trivial
theorem m1.tw3142980279871780955 : True := trivial
theorem m1.tw3173923156406919869 : True := trivial
theorem m1.tw3181390032295205718 : True := trivial
theorem m1.tw3200771639859370655 : True := trivial
theorem m1.tw3212221185638692812 : True := trivial
theorem m1.tw3225805023785334802 : True := trivial
theorem m1.tw3226448776943604019 : True := trivial
theorem m1.tw3231342790146545160 : True := trivial
theorem m1.tw3280121522595247744 : True := trivial
theorem m1.tw3300028797776993403 : True := trivial
theorem m1.tw3334776799364584187 : True := trivial
theorem m1.tw3372025235969589441 : True := trivial
theorem m1.tw3377608135335819543 : True := trivial
theorem m1.tw3407925531501948676 : True := trivial
theorem m1.tw3420946247735304964 : True := trivial
theorem m1.tw3423455689223590737 : True := trivial
theorem m1.tw352426049360128438 : True := trivial
theorem m1.tw3537807879120370058 : True := trivial
theorem m1.tw3561539322584530490 : True := trivial
theorem m1.tw3568979587069162161 : True := trivial
theorem m1.tw357713001055996128 : True := trivial
theorem m1.tw3588995271719122868 : True := trivial
theorem m1.tw3592038769555475647 : True := trivial
theorem m1.tw359961561281194824 : True := trivial
theorem m1.tw3642165525044144254 : True := trivial
theorem m1.tw3649015142546076561 : True := trivial
theorem m1.tw3664819508637901178 : True := trivial
theorem m1.tw3667638338025899913 : True := trivial
theorem m1.tw3675533952098364016 : True := trivial
theorem m1.tw36935221869853285 : True := trivial
theorem m1.tw3707567468865722755 : True := trivial
theorem m1.tw374314958646336207 : True := trivial
theorem m1.tw3780460004415922108 : True := trivial
theorem m1.tw3781167185071928468 : True := trivial
theorem m1.tw3799873193730376770 : True := trivial
theorem m1.tw3823038878110319434 : True := trivial
theorem m1.tw3973556030944492393 : True := trivial
theorem m1.tw3974039177708090653 : True := trivial
theorem m1.tw3975566701787605919 : True := trivial
theorem m1.tw3999778882582618323 : True := trivial
theorem m1.tw4010689012578766269 : True := trivial
theorem m1.tw4011550649992646778 : True := trivial
theorem m1.tw4020130589959562047 : True := trivial
theorem m1.tw4084495285564794578 : True := trivial
theorem m1.tw4095644097420686845 : True := trivial
theorem m1.tw4098834246280939222 : True := trivial
theorem m1.tw4125128125893145657 : True := trivial
theorem m1.tw4129368660655121772 : True := trivial
theorem m1.tw4135346276286400087 : True := trivial
theorem m1.tw417499487529854802 : True := trivial
theorem m1.tw4199796530269227118 : True := trivial
theorem m1.tw4228433251119024453 : True := trivial
theorem m1.tw4229461685063547033 : True := trivial
theorem m1.tw4245809210649645711 : True := trivial
theorem m1.tw4281913384245236280 : True := trivial
theorem m1.tw4318830361698181864 : True := trivial
theorem m1.tw4376179515385509751 : True := trivial
theorem m1.tw4405173890012299560 : True := trivial
theorem m1.tw4425075954795949633 : True := trivial
theorem m1.tw4449891368779306203 : True := trivial
theorem m1.tw4451070820218917073 : True := trivial
theorem m1.tw4454420285557807647 : True := trivial
theorem m1.tw4456493798219099783 : True := trivial
theorem m1.tw4481614350241785120 : True := trivial
theorem m1.tw4483962189106284486 : True := trivial
theorem m1.tw449584132296648341 : True := trivial
theorem m1.tw4521264756832795492 : True := trivial
theorem m1.tw4530909399121587429 : True := trivial
theorem m1.tw4538068155773661787 : True := trivial
theorem m1.tw4558771505315085506 : True := trivial
theorem m1.tw4612623311335162250 : True := trivial
theorem m1.tw4629180638400576668 : True := trivial
theorem m1.tw4668969403582406001 : True := trivial
theorem m1.tw4673489531275190364 : True := trivial
theorem m1.tw4678218542610949139 : True := trivial
theorem m1.tw4694431734681152306 : True := trivial
theorem m1.tw471635494798927480 : True := trivial
theorem m1.tw4728922710967957162 : True := trivial
theorem m1.tw4747807299102184329 : True := trivial
theorem m1.tw4749991740005543502 : True := trivial
theorem m1.tw4764182826043602667 : True := trivial
theorem m1.tw4767000982277982177 : True := trivial
theorem m1.tw4767768784765785957 : True := trivial
theorem m1.tw4776473570702161647 : True := trivial
theorem m1.tw4788786392144850970 : True := trivial
theorem m1.tw479956318734510914 : True := trivial
theorem m1.tw481437314190641369 : True := trivial
theorem m1.tw4821587203177729768 : True := trivial
theorem m1.tw4834391068572386780 : True := trivial
theorem m1.tw4846409146881287397 : True := trivial
theorem m1.tw4853773653151303237 : True := trivial
theorem m1.tw4858532741549418162 : True := trivial
theorem m1.tw4868489801158022787 : True := trivial
theorem m1.tw4881924773065700628 : True := trivial
theorem m1.tw4897191467319273300 : True := trivial
theorem m1.tw4908884063400164387 : True := trivial
theorem m1.tw493128142494056252 : True := trivial
theorem m1.tw4938499118622958738 : True := trivial
theorem m1.tw4944897077383950089 : True := trivial
theorem m1.tw4954899106030046708 : True := trivial
theorem m1.tw4956900210305745391 : True := trivial
theorem m1.tw4965883385052483358 : True := trivial
theorem m1.tw4969807996688661314 : True := trivial
theorem m1.tw5023354543001055925 : True := trivial
theorem m1.tw5024327188572895739 : True := trivial
theorem m1.tw5026888596717127815 : True := trivial
theorem m1.tw508079903673142780 : True := trivial
theorem m1.tw5108445241285155590 : True := trivial
theorem m1.tw5112733596196608831 : True := trivial
theorem m1.tw5135806842235007255 : True := trivial
theorem m1.tw5177444747498841284 : True := trivial
theorem m1.tw5185899601618625245 : True := trivial
theorem m1.tw5206464612619045114 : True := trivial
theorem m1.tw5248349853073061452 : True := trivial
theorem m1.tw5268606277985400783 : True := trivial
theorem m1.tw5304513217082072493 : True := trivial
theorem m1.tw5307006924277499502 : True := trivial
theorem m1.tw5325816066827205343 : True := trivial
theorem m1.tw5389586597782665661 : True := trivial
theorem m1.tw5396609046810842225 : True := trivial
theorem m1.tw5402505510741538923 : True := trivial
theorem m1.tw5413908546609062950 : True := trivial
theorem m1.tw5431434896209961896 : True := trivial
theorem m1.tw5452825465172704806 : True := trivial
theorem m1.tw5453248017423746520 : True := trivial
theorem m1.tw5454551508750952758 : True := trivial
theorem m1.tw5470818969101724346 : True := trivial
theorem m1.tw550828508775284525 : True := trivial
theorem m1.tw551803702264766899 : True := trivial
theorem m1.tw5530262383283003321 : True := trivial
theorem m1.tw5549321663436281164 : True := trivial
theorem m1.tw5572051091777713104 : True := trivial
theorem m1.tw5582126186251876187 : True := trivial
theorem m1.tw5587092394496106118 : True := trivial
theorem m1.tw5608099422354690917 : True := trivial
theorem m1.tw5661460757788224212 : True := trivial
theorem m1.tw5674234700734756738 : True := trivial
theorem m1.tw56814269885952438 : True := trivial
theorem m1.tw568202425701319249 : True := trivial
theorem m1.tw5693523590575616680 : True := trivial
theorem m1.tw5707515903405724160 : True := trivial
theorem m1.tw5718102205600224160 : True := trivial
theorem m1.tw5723642673888298434 : True := trivial
theorem m1.tw5734161819631547316 : True := trivial
theorem m1.tw5740302041798764208 : True := trivial
theorem m1.tw5747935931243467536 : True := trivial
theorem m1.tw5751045198896968504 : True := trivial
theorem m1.tw5753738304940037096 : True := trivial
theorem m1.tw5759506975708189860 : True := trivial
theorem m1.tw5778883423561073988 : True := trivial
theorem m1.tw5793053548170063108 : True := trivial
theorem m1.tw5837127159823038120 : True := trivial
theorem m1.tw5879922294916997674 : True := trivial
theorem m1.tw5915799067447397515 : True := trivial
theorem m1.tw5918662094138416325 : True := trivial
theorem m1.tw5935519235073795200 : True := trivial
theorem m1.tw5966536958950626349 : True := trivial
theorem m1.tw6007925598084111309 : True := trivial
theorem m1.tw6019279092811797721 : True := trivial
theorem m1.tw6023298851536589653 : True := trivial
theorem m1.tw6044957788319498057 : True := trivial
theorem m1.tw6049073781756818811 : True := trivial
theorem m1.tw6080949295829575796 : True := trivial
theorem m1.tw608161009646563298 : True := trivial
theorem m1.tw6097215244035357664 : True := trivial
theorem m1.tw6110862300629234454 : True := trivial
theorem m1.tw6120701948109715253 : True := trivial
theorem m1.tw6130656464005872888 : True := trivial
theorem m1.tw6164029415085012316 : True := trivial
theorem m1.tw6169229008775049620 : True := trivial
theorem m1.tw6172842367873715645 : True := trivial
theorem m1.tw6192017941630895901 : True := trivial
theorem m1.tw6245337726586539031 : True := trivial
theorem m1.tw6292729372532156209 : True := trivial
theorem m1.tw6313227543930930374 : True := trivial
theorem m1.tw6326005083443504781 : True := trivial
theorem m1.tw6339175571326985058 : True := trivial
theorem m1.tw6392929420566632437 : True := trivial
theorem m1.tw6422424257924622088 : True := trivial
theorem m1.tw6444993594457273930 : True := trivial
theorem m1.tw6448106004722178581 : True := trivial
theorem m1.tw6478098989706734160 : True := trivial
theorem m1.tw654333905523072651 : True := trivial
theorem m1.tw6571548588086632049 : True := trivial
theorem m1.tw6582403953762150924 : True := trivial
theorem m1.tw6637824243921795877 : True := trivial
theorem m1.tw6653547332951363828 : True := trivial
theorem m1.tw6696807602943497662 : True := trivial
theorem m1.tw6710139646960458139 : True := trivial
theorem m1.tw6720655606342160265 : True := trivial
theorem m1.tw6727758174428680296 : True := trivial
theorem m1.tw6755820788934392733 : True := trivial
theorem m1.tw6793480085121248272 : True := trivial
theorem m1.tw6800149292605907357 : True := trivial
theorem m1.tw6882031048866703060 : True := trivial
theorem m1.tw6889634149773846863 : True := trivial
theorem m1.tw6901271396958280112 : True := trivial
theorem m1.tw6905364515484776681 : True := trivial
theorem m1.tw6939006703141307560 : True := trivial
theorem m1.tw6974189260023526727 : True := trivial
theorem m1.tw7012732110647891125 : True := trivial
theorem m1.tw7017191305746970379 : True := trivial
theorem m1.tw707880528935542505 : True := trivial
theorem m1.tw7117786331319715917 : True := trivial
theorem m1.tw7120073227345130613 : True := trivial
theorem m1.tw7161654017590080201 : True := trivial
theorem m1.tw716641704487088869 : True := trivial
theorem m1.tw7167828965696293603 : True := trivial
theorem m1.tw7170525896983506565 : True := trivial
theorem m1.tw7173254065353509097 : True := trivial
theorem m1.tw7193133797482640551 : True := trivial
theorem m1.tw7208932813754462687 : True := trivial
theorem m1.tw7220465938693289724 : True := trivial
theorem m1.tw7263033199958801340 : True := trivial
theorem m1.tw7267108802549163480 : True := trivial
theorem m1.tw7280486439102255386 : True := trivial
theorem m1.tw7283053733213727267 : True := trivial
theorem m1.tw7348156669078308545 : True := trivial
theorem m1.tw7364273847709067440 : True := trivial
theorem m1.tw7367626485315616157 : True := trivial
theorem m1.tw7388994696891690458 : True := trivial
theorem m1.tw7396404069213656684 : True := trivial
theorem m1.tw7426649166951926678 : True := trivial
theorem m1.tw7427997996300740276 : True := trivial
theorem m1.tw7429801304412307051 : True := trivial
theorem m1.tw7430760627655481976 : True := trivial
theorem m1.tw744813290497352673 : True := trivial
theorem m1.tw7468039045549849076 : True := trivial
theorem m1.tw7469227267657808991 : True := trivial
theorem m1.tw7470399956376088374 : True := trivial
theorem m1.tw7536372576819887932 : True := trivial
theorem m1.tw7549433920330039277 : True := trivial
theorem m1.tw7562005055725264994 : True := trivial
theorem m1.tw7563598911778269101 : True := trivial
theorem m1.tw7589902234887422589 : True := trivial
theorem m1.tw7616588479459774687 : True := trivial
theorem m1.tw7643979943062816701 : True := trivial
theorem m1.tw7682736526588727027 : True := trivial
theorem m1.tw7699450260630812286 : True := trivial
theorem m1.tw7714104295217989102 : True := trivial
theorem m1.tw7735174665482567553 : True := trivial
theorem m1.tw7739624740716792124 : True := trivial
theorem m1.tw7763980729473223173 : True := trivial
theorem m1.tw7768221594136525320 : True := trivial
theorem m1.tw7794443447706673736 : True := trivial
theorem m1.tw7837884045877197341 : True := trivial
theorem m1.tw7861826590282769623 : True := trivial
theorem m1.tw7870102601380896464 : True := trivial
theorem m1.tw7939375838681565633 : True := trivial
theorem m1.tw7950593488040955061 : True := trivial
theorem m1.tw7951711968973629450 : True := trivial
theorem m1.tw7971330050986213151 : True := trivial
theorem m1.tw7972935448977638530 : True := trivial
theorem m1.tw7977753272640749442 : True := trivial
theorem m1.tw8007734608851717554 : True := trivial
theorem m1.tw8048498507752135191 : True := trivial
theorem m1.tw8071021611698633989 : True := trivial
theorem m1.tw8087712928322755764 : True := trivial
theorem m1.tw8102060970818527750 : True := trivial
theorem m1.tw8102780605023467071 : True := trivial
theorem m1.tw812880135112819157 : True := trivial
theorem m1.tw813312957287165531 : True := trivial
theorem m1.tw8159236420629896308 : True := trivial
theorem m1.tw8165189906286989127 : True := trivial
theorem m1.tw8184800442538652015 : True := trivial
theorem m1.tw8211475935862198046 : True := trivial
theorem m1.tw822801265094413975 : True := trivial
theorem m1.tw8233838386723367903 : True := trivial
theorem m1.tw8236066105941402815 : True := trivial
theorem m1.tw8247213933241774679 : True := trivial
theorem m1.tw8265745110299960054 : True := trivial
theorem m1.tw8270578575011202885 : True := trivial
theorem m1.tw8304904755684797984 : True := trivial
theorem m1.tw8345715565253889459 : True := trivial
theorem m1.tw835599959061119052 : True := trivial
theorem m1.tw8359788275012473143 : True := trivial
theorem m1.tw8385450821970498917 : True := trivial
theorem m1.tw8392003386832349486 : True := trivial
theorem m1.tw8396739994588649102 : True := trivial
theorem m1.tw8443498897463794864 : True := trivial
theorem m1.tw8495624999469537874 : True := trivial
theorem m1.tw8529545645703764584 : True := trivial
theorem m1.tw8536372148526596124 : True := trivial
theorem m1.tw8551421401077771133 : True := trivial
theorem m1.tw8577454357370152675 : True := trivial
theorem m1.tw8578893021694196732 : True := trivial
theorem m1.tw859951103592199821 : True := trivial
theorem m1.tw8602584818829725976 : True := trivial
theorem m1.tw8629951280475088694 : True := trivial
theorem m1.tw8637235354195305163 : True := trivial
theorem m1.tw8645606000694511070 : True := trivial
theorem m1.tw8662068962388667533 : True := trivial
theorem m1.tw8666518581018112332 : True := trivial
theorem m1.tw8666931831747430032 : True := trivial
theorem m1.tw8678830273859421139 : True := trivial
theorem m1.tw868009221784406457 : True := trivial
theorem m1.tw8697893118465648879 : True := trivial
theorem m1.tw8715323506627527193 : True := trivial
theorem m1.tw8717311631876025681 : True := trivial
theorem m1.tw87369250300599377 : True := trivial
theorem m1.tw8762591497164731349 : True := trivial
theorem m1.tw8766498033310784309 : True := trivial
theorem m1.tw8776010077122050942 : True := trivial
theorem m1.tw8782474222322906852 : True := trivial
theorem m1.tw8782687209178266828 : True := trivial
theorem m1.tw8787802754008595887 : True := trivial
theorem m1.tw8788315350816773285 : True := trivial
theorem m1.tw8791686677897311769 : True := trivial
theorem m1.tw8793297624242860441 : True := trivial
theorem m1.tw8818175409063340301 : True := trivial
theorem m1.tw8819586321221715292 : True := trivial
theorem m1.tw8844991702546102121 : True := trivial
theorem m1.tw8861654464535307052 : True := trivial
theorem m1.tw8874751503449741730 : True := trivial
theorem m1.tw8877939324281156275 : True := trivial
theorem m1.tw8889256938597932591 : True := trivial
theorem m1.tw8920190703405711825 : True := trivial
theorem m1.tw8955736027671998648 : True := trivial
theorem m1.tw8959362041124156342 : True := trivial
theorem m1.tw8999378679114629686 : True := trivial
theorem m1.tw9012660123683471830 : True := trivial
theorem m1.tw9019024178013633538 : True := trivial
theorem m1.tw9027224458193516709 : True := trivial
theorem m1.tw9036825004441053064 : True := trivial
theorem m1.tw9056627633893385296 : True := trivial
theorem m1.tw9075200112498699260 : True := trivial
theorem m1.tw907732436019951536 : True := trivial
theorem m1.tw9091161162203578218 : True := trivial
theorem m1.tw9122833727361742556 : True := trivial
theorem m1.tw9169362607114071756 : True := trivial
theorem m1.tw9194722196114011306 : True := trivial
theorem m1.tw9212490098773534361 : True := trivial
theorem m1.tw9224711709042923029 : True := trivial
theorem m1.tw9232320296285209765 : True := trivial
theorem m1.tw9236210089619758926 : True := trivial
theorem m1.tw9282047848680469696 : True := trivial
theorem m1.tw9289270636444066887 : True := trivial
theorem m1.tw9327095659555638193 : True := trivial
theorem m1.tw9341682933069716559 : True := trivial
theorem m1.tw9342683452938152283 : True := trivial
theorem m1.tw9347770371984324723 : True := trivial
theorem m1.tw9353157657153113794 : True := trivial
theorem m1.tw9391010271152398233 : True := trivial
theorem m1.tw9416548004621300341 : True := trivial
theorem m1.tw9432943995972742799 : True := trivial
theorem m1.tw9467262390280829806 : True := trivial
theorem m1.tw9519062178770982112 : True := trivial
theorem m1.tw9526734060484758925 : True := trivial
theorem m1.tw9528956286336634328 : True := trivial
theorem m1.tw95464317497355165 : True := trivial
theorem m1.tw9546962379070242283 : True := trivial
theorem m1.tw9568024369028414310 : True := trivial
theorem m1.tw9595477339000701844 : True := trivial
theorem m1.tw9612359746273007639 : True := trivial
theorem m1.tw9623624551831954441 : True := trivial
theorem m1.tw9639683382985619858 : True := trivial
theorem m1.tw9649903151701008326 : True := trivial
theorem m1.tw9656058049622477837 : True := trivial
theorem m1.tw9740752532763424775 : True := trivial
theorem m1.tw9773284060311459724 : True := trivial
theorem m1.tw9778410079244030089 : True := trivial
theorem m1.tw97978942075298293 : True := trivial
theorem m1.tw981812149655550622 : True := trivial
theorem m1.tw9848388213255619170 : True := trivial
theorem m1.tw9850067184877165077 : True := trivial
theorem m1.tw98506594702229438 : True := trivial
theorem m1.tw985293945791842575 : True := trivial
theorem m1.tw9881165802769671993 : True := trivial
theorem m1.tw989525819548140790 : True := trivial
theorem m1.tw9909984197875139518 : True := trivial
theorem m1.tw996113372977999474 : True := trivial
theorem m1.tw9974071853471603715 : True := trivial
theorem m1.tw9977027791914423928 : True := trivial
set_option Elab.async true in
theorem m1 : WalkC → PySem.Challenge.rw_sf0048_01.Holds := by
  intro H
  w_on
  o_law
  o_head (kHook KH needH (fun _ => by kernel_rfl))
  (case hw => w_witness2)
end
end Mine
namespace Mine
section
open PySem PySem.Spec PySem.Calls PySem.W PyProof.Rows
noncomputable def Hold (P : Prop) : Prop := P
theorem hold {P : Prop} (h : Hold P) : P := h
theorem hold_wp {α : Type} {M : Model} {A : Around} {t : Sem α} {Q : α → Shared → Prop} {E : Value → Shared → Prop} {s : Shared} (h : Hold (wpAny M A t Q E s)) : wpAny M A t Q E s := h
/-- marks: where the walker is to stop -/
structure HKey (k : String) : Prop where mk ::
structure HC (n : Nat) : Prop where mk ::
structure HI (n : Int) : Prop where mk ::
theorem hold_key (k : String) {P : Prop} (_ : HKey k) (h : Hold P) : P := h
theorem hold_un {P : Prop} (h : P) : Hold P := h
theorem hold_at {M : Model} {A : Around} {n : Nat} {vs : List Value} {kw : List (Str × Value)} {Q E : Value → Shared → Prop} {s : Shared} (_ : HC n) (h : Hold (wpAny M A (call (.ref n) vs kw) Q E s)) : wpAny M A (call (.ref n) vs kw) Q E s := h
theorem hold_dig {M : Model} {A : Around} {n : Int} {v : Value} {t : Tok} {kw : List (Str × Value)} {Q E : Value → Shared → Prop} {s : Shared} (_ : HI n) (h : Hold (wpAny M A (call (.ref 888) [v, .int n t] kw) Q E s)) : wpAny M A (call (.ref 888) [v, .int n t] kw) Q E s := h
/-- bounds, by their parts -/
theorem lim0 {d n L : Nat} (h : d + n < L) : d < L := Nat.lt_of_le_of_lt (Nat.le_add_right d n) h
theorem lim1 {d n k L : Nat} (h : d + n < L) (hk : k ≤ n) : d + k < L := Nat.lt_of_le_of_lt (Nat.add_le_add_left hk d) h
theorem lim2 {d n a k L : Nat} (h : d + n < L) (hk : a + k ≤ n) : d + a + k < L := Nat.add_assoc d a k ▸ lim1 h hk
theorem lim3 {d n a b k L : Nat} (h : d + n < L) (hk : a + b + k ≤ n) : d + a + b + k < L := by rw [Nat.add_assoc d a b]; exact lim2 h hk
theorem lim4 {d n a b c k L : Nat} (h : d + n < L) (hk : a + b + c + k ≤ n) : d + a + b + c + k < L := by rw [Nat.add_assoc d a b]; exact lim3 h hk
theorem lim5 {d n a b c e k L : Nat} (h : d + n < L) (hk : a + b + c + e + k ≤ n) : d + a + b + c + e + k < L := by rw [Nat.add_assoc d a b]; exact lim4 h hk
-- rules of the library with their side conditions in the order in which the rows close them
section
variable {K : Frag} {prog : Program} {w : World} {A : Around} {E : Value → Shared → Prop} {s : Shared} {h₀ : Heap} {L a : Addr} {m : Str → Option Value} {news : List (Addr × Obj)} {l : List Value} {n : Nat} {dd : Option Addr} {sl : Array (Option Value)} {Q : Value → Shared → Prop}
theorem listK (F : Fr h₀ L s.heap m) (N : News h₀ L s.heap news) (X : K.In h₀) (hl : K.lookup a = some ⟨.type "tuple", dd, .seq l.toArray n, sl⟩)
    (h : ∀ D c h', Fr h₀ L h' m → News h₀ L h' ((D, listOf l.toArray c) :: news) → (∀ q ∈ news, q.1 < D) → Q (.ref D) { s with heap := h' }) (hsz : l.toArray.size ≤ sizeLine) :
    wpAny (model prog w) A (call (.type "list") [.ref a]) Q E s := list_copyKT F N (tupK (X.keeps F.keep) hl) h hsz
theorem tupleK (F : Fr h₀ L s.heap m) (X : K.In h₀) (hl : K.lookup a = some ⟨.type "tuple", dd, .seq l.toArray n, sl⟩) (h : Q (.ref a) s) : wpAny (model prog w) A (call (.type "tuple") [.ref a]) Q E s :=
  call_tuple_tup (tupK (X.keeps F.keep) hl) h
theorem nameF {M : Model} {cn : Str} {cs : Scope} {b c : Addr} {ccd : Value} {cl : List (Str × Addr)} {x : Str} {o : Obj} {v : Value} {pos : Pos} (hk : cs.kind = .function) (hx : (envX cn cs L b ccd cl).kindOf x = some .free) (N : News h₀ L s.heap news) (hc : cl.lookup x = some c) (hm : (c, o) ∈ news) (hd : o.data = .cell (some v)) (h : Q v s)
    (hb : (x == ("__debug__" : Str)) = false := by decide) (hn : (x == ("__classdict__" : Str)) = false := by decide) : wpAny M A (eval (.Name x pos) (envX cn cs L b ccd cl)) Q E s := nameX_F N hc hm hd h hk hx hb hn
end
theorem all_off {d : Addr} {l : List (Addr × Obj)} (h : ∀ p ∈ l, @LT.lt Nat _ p.1 d) : ∀ p ∈ l, p.1 ≠ d + 1 := fun p hp e => Nat.lt_irrefl d (Nat.lt_of_succ_lt (@Eq.subst Nat (fun x => x < d) p.1 (d + 1) e (h p hp)))
end
end Mine
namespace Mine
section
open PySem PySem.Spec PySem.Calls PySem.SeqAt PySem.W PyProof.Rows
/-- equal as the language sees it, at a heap, within a depth -/
inductive Alike (h : Heap) : Nat → Value → Value → Prop
  | self {n : Nat} (v : Value) : Alike h n v v
  | str {n : Nat} (x : Str) (t u : Tok) : Alike h n (.str x t) (.str x u)
  | bytes {n : Nat} (x : Array UInt8) (t u : Tok) : Alike h n (.bytes x t) (.bytes x u)
  | tup {n : Nat} {a b : Addr} {vs ws : Array Value} : h.IsTuple a vs → h.IsTuple b ws → vs.size = ws.size → (∀ j (h1 : j < vs.size) (h2 : j < ws.size), Alike h n vs[j] ws[j]) → Alike h (n + 1) (.ref a) (.ref b)
theorem eqAt_bytes {A : Around} {s : Shared} (x : Array UInt8) (t u : Tok) : EqAt A s (.bytes x t) (.bytes x u) true := fun prog w E Q h => by
  unfold eqBool
  refine wpAny_holding ?_
  refine wpAny_ite_split (fun _ => ?_) (fun _ => ?_)
  · exact wpAny_bind (wpAny_rule (wpAny_pure h))
  · refine wpAny_bind (show wpAny _ _ (compareOp .Eq _ _) _ _ _ from eq_bytes (wpAny_truthy_bool ?_))
    rw [beq_self_eq_true]
    exact h
theorem Alike.eq {s : Shared} {n : Nat} {v w : Value} (h : Alike s.heap n v w) : ∀ A : Around, A.units + n < cLine → EqAt A s v w true := by
  induction h with
  | self v => exact fun A _ => EqAt.same v
  | str x t u => exact fun A _ => by have := EqAt.str_str (A := A) (s := s) x t x u; rwa [beq_self_eq_true] at this
  | bytes x t u => exact fun A _ => eqAt_bytes x t u
  | @tup n a b vs ws h1 h2 hs _ ih =>
    intro A hu
    by_cases e : a = b
    · subst e; exact EqAt.same _
    · have := RcAt.tuples (A := A) (s := s) (e := fun _ => true) h1 h2 (by omega) fun j j1 j2 => ih j j1 j2 A.in1 (by rw [units_in1]; omega)
      rw [hs, beq_self_eq_true, Bool.and_true] at this
      refine EqAt.of_refs e ?_
      rwa [List.all_eq_true.mpr fun _ _ => rfl] at this
theorem Alike.ne {s : Shared} {A : Around} {n : Nat} {a b : Addr} {vs ws : Array Value} (h1 : s.heap.IsTuple a vs) (h2 : s.heap.IsTuple b ws) (hs : vs.size = ws.size) (h : ∀ j (j1 : j < vs.size) (j2 : j < ws.size), Alike s.heap n vs[j] ws[j]) (hu : A.units + n + 2 < cLine) : RcNeAt A s (.ref a) (.ref b) false := by
  have := RcNeAt.tuples (A := A) (s := s) (e := fun _ => true) h1 h2 (by omega) fun j j1 j2 => (h j j1 j2).eq A.in1 (by rw [units_in1]; omega)
  rw [hs, beq_self_eq_true, Bool.and_true] at this
  rwa [List.all_eq_true.mpr fun _ _ => rfl] at this
theorem ne_alike {prog : Program} {w : World} {E : Value → Shared → Prop} {Q : Value → Shared → Prop} {s : Shared} {A : Around} {n : Nat} {a b : Addr} {vs ws : Array Value} (h1 : s.heap.IsTuple a vs) (h2 : s.heap.IsTuple b ws) (hs : vs.size = ws.size) (h : ∀ j (j1 : j < vs.size) (j2 : j < ws.size), Alike s.heap n vs[j] ws[j]) (hu : A.units + n + 2 < cLine) (hQ : Q (.bool false) s) :
    wpAny (model prog w) A (compareOp .NotEq (.ref a) (.ref b)) Q E s := cmp_ofNotEq (Alike.ne h1 h2 hs h hu prog w E Q hQ)
/-- item by item, as lists -/
inductive AllAlike (h : Heap) (n : Nat) : List Value → List Value → Prop
  | nil : AllAlike h n [] []
  | cons {v w : Value} {vs ws : List Value} : Alike h n v w → AllAlike h n vs ws → AllAlike h n (v :: vs) (w :: ws)
theorem AllAlike.length {h : Heap} {n : Nat} {vs ws : List Value} (k : AllAlike h n vs ws) : vs.length = ws.length := by
  induction k with
  | nil => rfl
  | cons _ _ ih => simp [ih]
theorem AllAlike.at {h : Heap} {n : Nat} {vs ws : List Value} (k : AllAlike h n vs ws) : ∀ j (j1 : j < vs.length) (j2 : j < ws.length), Alike h n vs[j] ws[j] := by
  induction k with
  | nil => intro j j1; exact absurd j1 (Nat.not_lt_zero _)
  | cons a _ ih =>
    intro j j1 j2
    cases j with
    | zero => exact a
    | succ j => exact ih j (Nat.lt_of_succ_lt_succ j1) (Nat.lt_of_succ_lt_succ j2)
theorem AllAlike.same {h : Heap} {n : Nat} : ∀ vs : List Value, AllAlike h n vs vs
  | [] => .nil
  | v :: vs => .cons (.self v) (same vs)
theorem Alike.of {h : Heap} {n : Nat} {a b : Addr} {vs ws : List Value} (h1 : h.IsTuple a vs.toArray) (h2 : h.IsTuple b ws.toArray) (k : AllAlike h n vs ws) : Alike h (n + 1) (.ref a) (.ref b) :=
  .tup h1 h2 (by simpa using k.length) fun j j1 j2 => by simpa using k.at j (by simpa using j1) (by simpa using j2)
theorem ne_allAlike {prog : Program} {w : World} {E : Value → Shared → Prop} {Q : Value → Shared → Prop} {s : Shared} {A : Around} {n : Nat} {a b : Addr} {vs ws : List Value} (h1 : s.heap.IsTuple a vs.toArray) (h2 : s.heap.IsTuple b ws.toArray) (h : AllAlike s.heap n vs ws) (hu : A.units + n + 2 < cLine) (hQ : Q (.bool false) s) :
    wpAny (model prog w) A (compareOp .NotEq (.ref a) (.ref b)) Q E s :=
  ne_alike h1 h2 (by simpa using h.length) (fun j j1 j2 => by simpa using h.at j (by simpa using j1) (by simpa using j2)) hu hQ
end
end Mine
namespace Mine
section
open PySem PySem.W PyProof.Rows
noncomputable abbrev LL : List Str := (looseW kv.view_1
            [Str.ofString "RowsError", Str.ofString "named", Str.ofString "tuple_of", Str.ofString "Side",
              Str.ofString "is_subtype", Str.ofString "PLAIN_KINDS", Str.ofString "Decl"] ++
          List.map (fun x => x.name) (recsOf kv.view_1) ++
        List.map (fun x => x.fst) (litsOf kv.view_1) ++
      List.map (fun x => x.name)
        (clssOf kv.view_1
          (looseW kv.view_1
            [Str.ofString "RowsError", Str.ofString "named", Str.ofString "tuple_of", Str.ofString "Side",
              Str.ofString "is_subtype", Str.ofString "PLAIN_KINDS", Str.ofString "Decl"])))

/-- what the law builds: symbols, nothing, tuples of up to three parts, a struct of one -/
inductive Dm where
  | sym (x : Str)
  | nothing
  | tup0
  | tup1 (a : Dm)
  | tup2 (a b : Dm)
  | tup3 (a b c : Dm)
  | st (a : Dm)

noncomputable abbrev tupO (vs : List Value) (n : Nat) : Obj := { cls := .type "tuple", data := .seq vs.toArray n }

/-- the ledger bears the datum at the value -/
inductive DIn (news : List (Addr × Obj)) : Value → Dm → Prop where
  | sym {a : Addr} {x : Str} {t t' : Tok} {n : Nat} : (a, tupO [.str (Str.ofString "sym") t, .str x t'] n) ∈ news → DIn news (.ref a) (.sym x)
  | nothing {a : Addr} {t : Tok} {n : Nat} : (a, tupO [.str (Str.ofString "nothing") t] n) ∈ news → DIn news (.ref a) .nothing
  | tup0 {a b : Addr} {t : Tok} {n k : Nat} : (a, tupO [.str (Str.ofString "tuple") t, .ref b] n) ∈ news → (b, tupO [] k) ∈ news → DIn news (.ref a) .tup0
  | tup1 {a b : Addr} {t : Tok} {n k : Nat} {u : Value} {d : Dm} : (a, tupO [.str (Str.ofString "tuple") t, .ref b] n) ∈ news → (b, tupO [u] k) ∈ news → DIn news u d → DIn news (.ref a) (.tup1 d)
  | tup2 {a b : Addr} {t : Tok} {n k : Nat} {u v : Value} {d e : Dm} : (a, tupO [.str (Str.ofString "tuple") t, .ref b] n) ∈ news → (b, tupO [u, v] k) ∈ news → DIn news u d → DIn news v e → DIn news (.ref a) (.tup2 d e)
  | tup3 {a b : Addr} {t : Tok} {n k : Nat} {u v x : Value} {d e f : Dm} : (a, tupO [.str (Str.ofString "tuple") t, .ref b] n) ∈ news → (b, tupO [u, v, x] k) ∈ news → DIn news u d → DIn news v e → DIn news x f → DIn news (.ref a) (.tup3 d e f)
  | st {a b c : Addr} {t tn ts : Tok} {n k j : Nat} {u : Value} {d : Dm} : (a, tupO [.str (Str.ofString "struct") t, .ref c, .ref b] n) ∈ news → (c, tupO [.str (Str.ofString "name") tn, .str (Str.ofString "S") ts, .ref 124] j) ∈ news → (b, tupO [u] k) ∈ news → DIn news u d → DIn news (.ref a) (.st d)

theorem DIn.mono {news news' : List (Addr × Obj)} {v : Value} {d : Dm} (h : DIn news v d) (hs : ∀ p ∈ news, p ∈ news') : DIn news' v d := by
  induction h with
  | sym h => exact .sym (hs _ h)
  | nothing h => exact .nothing (hs _ h)
  | tup0 h k => exact .tup0 (hs _ h) (hs _ k)
  | tup1 h k _ i => exact .tup1 (hs _ h) (hs _ k) i
  | tup2 h k _ _ i j => exact .tup2 (hs _ h) (hs _ k) i j
  | tup3 h k _ _ _ i j l => exact .tup3 (hs _ h) (hs _ k) i j l
  | st h k l _ i => exact .st (hs _ h) (hs _ k) (hs _ l) i
theorem DIn.handed {news : List (Addr × Obj)} {v : Value} {d : Dm} (h : DIn news v d) : ∃ a, v = .ref a := by
  cases h <;> exact ⟨_, rfl⟩

/-- a tuple counts one level more than the deepest of its parts, all else counts one -/
noncomputable def Dm.lv : Dm → Nat
  | .sym _ | .nothing | .tup0 | .st _ => 1
  | .tup1 a => a.lv + 1
  | .tup2 a b => max a.lv b.lv + 1
  | .tup3 a b c => max a.lv (max b.lv c.lv) + 1
/-- all parts, those within structs too -/
noncomputable def Dm.cnt : Dm → Nat
  | .sym _ | .nothing | .tup0 => 1
  | .st a => a.cnt + 1
  | .tup1 a => a.cnt + 1
  | .tup2 a b => a.cnt + b.cnt + 1
  | .tup3 a b c => a.cnt + b.cnt + c.cnt + 1
/-- what stands in the structs is not too deep -/
noncomputable def Dm.inn : Dm → Prop
  | .sym _ | .nothing | .tup0 => True
  | .st a => a.inn ∧ a.lv ≤ 60
  | .tup1 a => a.inn
  | .tup2 a b => a.inn ∧ b.inn
  | .tup3 a b c => a.inn ∧ b.inn ∧ c.inn
/-- what checked_parts finds no fault with, at a depth -/
noncomputable def Dm.good : Dm → Nat → Prop
  | .sym _, k | .nothing, k | .tup0, k => k ≤ 60
  | .st a, k => k ≤ 60 ∧ a.good 1
  | .tup1 a, k => k ≤ 60 ∧ a.good (k + 1)
  | .tup2 a b, k => k ≤ 60 ∧ a.good (k + 1) ∧ b.good (k + 1)
  | .tup3 a b c, k => k ≤ 60 ∧ a.good (k + 1) ∧ b.good (k + 1) ∧ c.good (k + 1)
theorem Dm.lv_pos : ∀ d : Dm, 1 ≤ d.lv
  | .sym _ | .nothing | .tup0 | .st _ | .tup1 _ | .tup2 _ _ | .tup3 _ _ _ => by simp [Dm.lv]
theorem Dm.cnt_pos : ∀ d : Dm, 1 ≤ d.cnt
  | .sym _ | .nothing | .tup0 | .st _ | .tup1 _ | .tup2 _ _ | .tup3 _ _ _ => by simp [Dm.cnt]
theorem Dm.good_iff : ∀ (d : Dm) (k : Nat), d.good k ↔ d.inn ∧ k + d.lv ≤ 61
  | .sym _, k | .nothing, k | .tup0, k => by simp only [Dm.good, Dm.inn, Dm.lv, true_and]; omega
  | .st a, k => by
    have h := a.good_iff 1
    simp only [Dm.good, Dm.inn, Dm.lv, h]
    exact ⟨fun ⟨_, i, _⟩ => ⟨⟨i, by omega⟩, by omega⟩, fun ⟨⟨i, _⟩, _⟩ => ⟨by omega, i, by omega⟩⟩
  | .tup1 a, k => by
    have h := a.good_iff (k + 1); have := a.lv_pos
    simp only [Dm.good, Dm.inn, Dm.lv, h]
    exact ⟨fun ⟨_, i, _⟩ => ⟨i, by omega⟩, fun ⟨i, _⟩ => ⟨by omega, i, by omega⟩⟩
  | .tup2 a b, k => by
    have h := a.good_iff (k + 1); have h' := b.good_iff (k + 1); have := a.lv_pos; have := b.lv_pos
    simp only [Dm.good, Dm.inn, Dm.lv, h, h']
    exact ⟨fun ⟨_, ⟨i, _⟩, j, _⟩ => ⟨⟨i, j⟩, by omega⟩, fun ⟨⟨i, j⟩, _⟩ => ⟨by omega, ⟨i, by omega⟩, j, by omega⟩⟩
  | .tup3 a b c, k => by
    have h := a.good_iff (k + 1); have h' := b.good_iff (k + 1); have h2 := c.good_iff (k + 1); have := a.lv_pos; have := b.lv_pos; have := c.lv_pos
    simp only [Dm.good, Dm.inn, Dm.lv, h, h', h2]
    exact ⟨fun ⟨_, ⟨i, _⟩, ⟨j, _⟩, l, _⟩ => ⟨⟨i, j, l⟩, by omega⟩, fun ⟨⟨i, j, l⟩, _⟩ => ⟨by omega, ⟨i, by omega⟩, ⟨j, by omega⟩, l, by omega⟩⟩
end
end Mine
namespace Mine
section
open PySem PySem.Spec PySem.Calls PySem.W PyProof.Rows
theorem sub_cons {q : Addr × Obj} {l l' : List (Addr × Obj)} (h : ∀ p ∈ l, p ∈ l') : ∀ p ∈ l, p ∈ q :: l' := fun p hp => .tail _ (h p hp)
theorem sub_self {l : List (Addr × Obj)} : ∀ p ∈ l, p ∈ l := fun _ h => h
theorem news_two {h₀ h : Heap} {L : Addr} {q : Addr × Obj} {l l' : List (Addr × Obj)} (N : News h₀ L h l') (hq : q ∈ l') (hs : ∀ p ∈ l, p ∈ l') : News h₀ L h (q :: l) := fun p hp => by
  rcases List.mem_cons.mp hp with rfl | hp
  · exact N _ hq
  · exact N _ (hs _ hp)
section
variable {prog : Program} {w : World} {A : Around} {E : Value → Shared → Prop} {s : Shared} {h₀ : Heap} {L : Addr} {m : Str → Option Value} {env : Env}

/-- a comprehension's source is a tuple of the ledger -/
noncomputable def TupSrc (prog : Program) (w : World) (A : Around) (h₀ : Heap) (L : Addr) (m : Str → Option Value) (env : Env) (elt : PySem.Expr) (x : Str) (scope : Scope) (cl : List (Str × Addr)) (Fin : Shared → List Value → List (Addr × Obj) → Prop) (xv : Value) (s₁ : Shared) : Prop :=
  ∃ ax its k news, xv = .ref ax ∧ A.handled = none ∧ Fr h₀ L s₁.heap m ∧ News h₀ L s₁.heap news ∧ (ax, tupO its k) ∈ news ∧ its.length ≤ sizeLine ∧
    ∀ s₂ : Shared, (∃ h, s₂ = { s₁ with heap := h }) → LCg.CompRest prog w A h₀ L m env elt x scope cl s₂ (fun nw => (ax, tupO its k) ∈ nw) (fun i v => its.toArray[i]? = some v) (Fin s₂) its.length 0 [] news

theorem TupSrc.intro {elt : PySem.Expr} {x : Str} {scope : Scope} {cl : List (Str × Addr)} {Fin : Shared → List Value → List (Addr × Obj) → Prop} {ax : Addr} {its : List Value} {k : Nat} {news : List (Addr × Obj)} {s₁ : Shared}
    (hh : A.handled = none) (F : Fr h₀ L s₁.heap m) (N : News h₀ L s₁.heap news) (hm : (ax, tupO its k) ∈ news) (hsz : its.length ≤ sizeLine)
    (h : ∀ g, LCg.CompRest prog w A h₀ L m env elt x scope cl { s₁ with heap := g } (fun nw => (ax, tupO its k) ∈ nw) (fun i v => its.toArray[i]? = some v) (Fin { s₁ with heap := g }) its.length 0 [] news) :
    TupSrc prog w A h₀ L m env elt x scope cl Fin (.ref ax) s₁ := ⟨ax, its, k, news, rfl, hh, F, N, hm, hsz, fun _ ⟨g, e⟩ => e ▸ h g⟩

theorem tup_isTuple {h : Heap} {a : Addr} {its : List Value} {k : Nat} {news : List (Addr × Obj)} (N : News h₀ L h news) (hm : (a, tupO its k) ∈ news) : h.IsTuple a its.toArray := ⟨_, (N _ hm).1, rfl, k, rfl⟩

theorem comp_tup {elt iter : PySem.Expr} {x : Str} {px : Pos} {scope : Scope} {cl : List (Str × Addr)} {pos : Pos} {Q : Value → Shared → Prop}
    (_F₀ : Fr h₀ L s.heap m) (hclos : closureFor scope env = pure cl) (hcell : ∀ y ∈ scope.names, y.2 ≠ .cell) (hkind : scope.kind = .function)
    (hnames : ∀ y ∈ scope.names, y.2 = .local → scope.names.lookup y.1 = some .local) (hx : scope.names.lookup x = some .local)
    (h : wpAny (model prog w) A (eval iter env) (TupSrc prog w A h₀ L m env elt x scope cl (fun s₂ => LCg.FinE h₀ L m s₂ Q)) E s)
    (hs : ∀ x, foldedSetIterable iter env x = pure x := by intro _; rfl) :
    wpAny (model prog w) A (eval (.ListComp elt [⟨.Name x px, iter, [], 0⟩] scope pos) env) Q E s := by
  rw [eval_ListComp]
  refine wpAny_comprehension_free (use := none) rfl hs hclos hkind hnames (wpAny_mono h (fun xv s₁ h₁ => ?_) fun _ _ e => e)
  obtain ⟨ax, its, k, news, rfl, hh, F, N, S, hsz, R⟩ := h₁
  have ht := tup_isTuple N S
  have hlt : ax < s₁.heap.objs.size := Heap.lt_size (N _ S).1
  refine wpAny_pyIter_tuple ht ?_
  have W := Walks.tuple (prog := prog) (w := w) hh s₁.heap.objs.size ax (Nat.ne_of_lt hlt) its.toArray
  have hw : its.toArray.size = its.length := by simp
  rw [hw] at W
  have up : ∀ b o, s₁.heap.get? b = some o → (s₁.heap.push { cls := .type "tuple_iterator", data := .fields #[.ref ax, .int 0 0] }).get? b = some o := fun b o e => Heap.get?_push_of_some _ e
  refine LCg.block_U W hsz (fun i h st => by obtain ⟨o, e, _⟩ := st.1; exact ⟨o, e⟩) (fun i h h' o nw st e e' kk N' S' => ⟨by obtain ⟨o', q, r⟩ := st.1; rw [e] at q; cases q; exact ⟨o, e', r⟩, tup_isTuple N' S'⟩) hcell hkind hx
    ⟨⟨_, Heap.get?_push_size _ rfl, rfl, rfl⟩, ht.push _⟩ (fun b hb => ?_)
    (F.keeps up) (N.grown up) (Nat.ne_of_lt F.ns.lt) (next_is_new F) (fun p hp => Nat.ne_of_lt (Heap.lt_size (N p hp).1)) S (R _ ⟨_, rfl⟩) ?_
  · show b < (s₁.heap.push _).objs.size
    rw [Heap.size_push]
    rcases List.mem_cons.mp hb with rfl | hb
    · exact Nat.lt_succ_self _
    · rw [List.mem_singleton.mp hb]; exact Nat.lt_succ_of_lt hlt
  · intro D C h tk m' ys news' F' N' o1 hn hC₀ hD₀ hCL hDL hCD offC fin
    refine ⟨m', hn, fun h'' hs'' => fin D h'' tk (F'.change hs'' hCL hC₀) (fun p hp => ?_) o1⟩
    refine ⟨hs''.extBut _ _ ?_ (N' p hp).1, (N' p hp).2⟩
    rcases List.mem_cons.mp hp with rfl | hp
    · exact Ne.symm hCD
    · exact offC p hp
end
end
end Mine
namespace Mine
section
open PySem PySem.Spec PySem.Calls PySem.W PyProof.Rows

/-- each object's own dict stays where it was -/
noncomputable def DictKept (h h' : Heap) : Prop := ∀ b o, h.get? b = some o → ∃ o', h'.get? b = some o' ∧ o'.dict = o.dict
theorem DictKept.refl (h : Heap) : DictKept h h := fun _ o e => ⟨o, e, rfl⟩
theorem DictKept.trans {h h₁ h₂ : Heap} (x : DictKept h h₁) (y : DictKept h₁ h₂) : DictKept h h₂ := fun b o e => by
  obtain ⟨o', e', d'⟩ := x b o e
  obtain ⟨o'', e'', d''⟩ := y b o' e'
  exact ⟨o'', e'', d''.trans d'⟩
theorem DictKept.push (h : Heap) (q : Obj) : DictKept h (h.push q) := fun _ o e => ⟨o, Heap.get?_push_of_some _ e, rfl⟩
theorem DictKept.update (h : Heap) (a : Addr) (f : Obj → Obj) (hd : ∀ o, (f o).dict = o.dict) (hf : ∀ o, o.isFreed = false → (f o).isFreed = false) : DictKept h (h.update a f) := fun b o e => by
  by_cases q : a = b
  · subst q
    exact ⟨f o, Heap.get?_update_self f e (hf o (Heap.get?_some_iff.mp e).2), hd o⟩
  · exact ⟨o, (Heap.get?_update_other h f q).trans e, rfl⟩

/-- a tree that calls nothing and lays no dict anew -/
inductive Mild {α : Type} : Sem α → Prop where
  | pure (a : α) : Mild (.pure a)
  | raise (e : Value) : Mild (.raise e)
  | unsupported (x : String) : Mild (.unsupported x)
  | rule {t : String} {k : Unit → Sem α} : Mild (k ()) → Mild (.rule t k)
  | load {a : Addr} {q : Option Value} {k : Obj → Sem α} : (∀ o, Mild (k o)) → Mild (.load a q k)
  | update {a : Addr} {q : Option Value} {f : Obj → Obj} {k : Unit → Sem α} : (∀ o, (f o).dict = o.dict) → (∀ o, o.isFreed = false → (f o).isFreed = false) → Mild (k ()) → Mild (.update a q f k)
  | alloc {o : Obj} {k : Addr → Sem α} : (∀ a, Mild (k a)) → Mild (.alloc o k)
  | ask {k : Setting → Sem α} : (∀ g, Mild (k g)) → Mild (.ask k)
  | fresh {k : Tok → Sem α} : (∀ t, Mild (k t)) → Mild (.fresh k)
  | stack {k : List (Code × Pos) → Sem α} : (∀ l, Mild (k l)) → Mild (.stack k)

theorem Mild.wp {α : Type} {M : Model} {Γ : PySem.Ctx} {t : Sem α} (m : Mild t) : ∀ {Q : α → Pos → Shared → Prop} {E : Value → Pos → Shared → Prop} {p : Pos} {s : Shared}, Sem.wp M Γ t Q E p s →
    Sem.wp M Γ t (fun a p' s' => Q a p' s' ∧ DictKept s.heap s'.heap) (fun e p' s' => E e p' s' ∧ DictKept s.heap s'.heap) p s := by
  induction m with
  | pure a => intro Q E p s h; rw [Sem.wp] at h ⊢; exact ⟨h, .refl _⟩
  | raise e => intro Q E p s h; rw [Sem.wp] at h ⊢; exact ⟨h, .refl _⟩
  | unsupported x => intro Q E p s h; rw [Sem.wp] at h; exact h.elim
  | rule _ ih => intro Q E p s h; rw [Sem.wp] at h ⊢; exact ih h
  | load _ ih => intro Q E p s h; rw [Sem.wp] at h ⊢; obtain ⟨o, e, h⟩ := h; exact ⟨o, e, ih o h⟩
  | update hd hf _ ih =>
    intro Q E p s h
    rw [Sem.wp] at h ⊢
    refine ⟨h.1, Sem.wp_mono _ _ _ ?_ ?_ _ _ (ih h.2)⟩
    · exact fun a p' s' x => ⟨x.1, (DictKept.update _ _ _ hd hf).trans x.2⟩
    · exact fun a p' s' x => ⟨x.1, (DictKept.update _ _ _ hd hf).trans x.2⟩
  | alloc _ ih =>
    intro Q E p s h
    rw [Sem.wp] at h ⊢
    refine Sem.wp_mono _ _ _ ?_ ?_ _ _ (ih _ h)
    · exact fun a p' s' x => ⟨x.1, (DictKept.push _ _).trans x.2⟩
    · exact fun a p' s' x => ⟨x.1, (DictKept.push _ _).trans x.2⟩
  | ask _ ih => intro Q E p s h; rw [Sem.wp] at h ⊢; exact ih _ h
  | fresh _ ih => intro Q E p s h; rw [Sem.wp] at h ⊢; exact ih _ h
  | stack _ ih => intro Q E p s h; rw [Sem.wp] at h ⊢; exact ih _ h

theorem Mild.any {α : Type} {M : Model} {A : Around} {t : Sem α} {Q : α → Shared → Prop} {E : Value → Shared → Prop} {s : Shared} (m : Mild t) (h : wpAny M A t Q E s) :
    wpAny M A t (fun a s' => Q a s' ∧ DictKept s.heap s'.heap) (fun e s' => E e s' ∧ DictKept s.heap s'.heap) s := fun Γ p hΓ => m.wp (h Γ p hΓ)

theorem Mild.bind {α β : Type} {t : Sem α} {f : α → Sem β} (m : Mild t) (hf : ∀ a, Mild (f a)) : Mild (t >>= f) := by
  show Mild (t.bind f)
  induction m with
  | pure a => exact hf a
  | raise e => exact .raise e
  | unsupported x => exact .unsupported x
  | rule _ ih => exact .rule ih
  | load _ ih => exact .load ih
  | update hd hg _ ih => exact .update hd hg ih
  | alloc _ ih => exact .alloc ih
  | ask _ ih => exact .ask ih
  | fresh _ ih => exact .fresh ih
  | stack _ ih => exact .stack ih
theorem Mild.ret {α : Type} (a : α) : Mild (Pure.pure a : Sem α) := .pure a
theorem mild_load (a : Addr) : Mild (PySem.load a) := .load fun _ => .pure _
theorem mild_alloc (o : Obj) : Mild (PySem.alloc o) := .alloc fun _ => .pure _
theorem mild_stack : Mild PySem.stack := .stack fun _ => .pure _
theorem mild_uns {α : Type} (x : String) : Mild (PySem.unsupported x : Sem α) := .unsupported x

theorem mild_fieldsOf (v : Value) : Mild (fieldsOf v) := by
  unfold fieldsOf
  cases v
  case ref a =>
    refine (mild_load a).bind fun o => ?_
    split
    · exact .ret _
    · exact mild_uns _
  all_goals exact mild_uns _
theorem mild_field (v : Value) (i : Nat) : Mild (field v i) := by
  unfold field
  refine (mild_fieldsOf v).bind fun vs => ?_
  split
  · exact .ret _
  · exact mild_uns _
theorem isFreed_mapFields (f : Array Value → Array Value) (o : Obj) (h : o.isFreed = false) : (Obj.mapFields f o).isFreed = false := by
  obtain ⟨c, d, dt, sl⟩ := o
  cases dt <;> first | exact h | rfl
theorem dict_mapFields (f : Array Value → Array Value) (o : Obj) : (Obj.mapFields f o).dict = o.dict := by
  obtain ⟨c, d, dt, sl⟩ := o
  cases dt <;> rfl
theorem mild_setField (v : Value) (i : Nat) (x : Value) : Mild (setField v i x) := by
  unfold setField
  cases v
  case ref a =>
    show Mild (updateField a i x)
    unfold updateField
    refine (mild_load a).bind fun o => ?_
    split
    · split
      · exact .update (dict_mapFields _) (isFreed_mapFields _) (.pure _)
      · exact mild_uns _
    · exact mild_uns _
  all_goals exact mild_uns _
theorem mild_under : Mild underTheClaimsCaller := mild_stack.bind fun _ => .ret _
theorem mild_behind (env : Env) (outer : List Env) : Mild (behindIsImport env outer) := by
  unfold behindIsImport
  split
  · exact .ret _
  · split
    · exact .ret _
    · exact (mild_field _ _).bind fun _ => .ret _
theorem mild_kept (env : Env) (i : Bool) (outer : List Env) : Mild (keptBack env i outer) := by
  cases outer with
  | nil =>
    show Mild (if (env.scope.isGenerator || env.scope.isCoroutine) = true then pure Value.none else do return if ← underTheClaimsCaller then Value.notImplemented else Value.none)
    split
    · exact .ret _
    · exact mild_under.bind fun _ => .ret _
  | cons c r => exact .ret _
theorem mild_ready : ∀ l : List Env, Mild (readyFrames l)
  | [] => .ret _
  | env :: outer => by
    unfold readyFrames
    cases env.frame with
    | none => exact mild_uns _
    | some f =>
      refine (mild_load f).bind fun o => ?_
      split
      · exact .ret _
      · refine (mild_behind env outer).bind fun i => (mild_kept env i outer).bind fun b => ?_
        refine Mild.bind (t := PySem.update f _) (.update (fun o => rfl) (fun o h => ?_) (.pure _)) fun _ => mild_ready outer
        obtain ⟨c, d, dt, sl⟩ := o
        cases dt <;> first | exact h | rfl
theorem mild_frameEnvs : Mild frameEnvs := mild_stack.bind fun _ => .ret _
theorem mild_frameObject (l : List Env) : Mild (frameObject l) := by
  cases l with
  | nil => exact .ret _
  | cons e r => exact (mild_ready (e :: r)).bind fun _ => .ret _
theorem mild_frameOf (env : Env) : Mild (PySem.frameOf env) := by
  unfold PySem.frameOf
  refine mild_frameEnvs.bind fun l => (mild_frameObject _).bind fun r => ?_
  split
  · exact .ret _
  · exact mild_uns _
theorem mild_entry (f : Addr) (b : Bool) : Mild (entryPlaceOf f b) := by
  unfold entryPlaceOf
  refine mild_stack.bind fun l => ?_
  split
  · exact .ret _
  · exact .ret _
theorem mild_asIs (c : String) (d : Data) : Mild (newObjAsIs (.type c) d) := (mild_alloc _).bind fun _ => .ret _
theorem mild_newFields (ty : String) (vs : List Value) : Mild (newFields ty vs) := by
  unfold newFields newObj
  dsimp only
  split
  · exact (mild_uns _).bind fun _ => mild_asIs _ _
  · exact mild_asIs _ _
theorem mild_newEntry (a b c d e : Value) (pl : List Value) : Mild (EntryCells.newEntry a b c d e pl) := mild_newFields _ _
theorem mild_noteFrame (e : Value) (env : Env) : Mild (noteFrame e env) := by
  have last : ∀ head f, Mild (do setField e 1 (← EntryCells.newEntry head (← PySem.frameOf env) .none (rawInt f) .none (← entryPlaceOf f (head != .none)))) := fun head f =>
    (mild_frameOf env).bind fun _ => (mild_entry f _).bind fun _ => (mild_newEntry _ _ _ _ _ _).bind fun _ => mild_setField _ _ _
  unfold noteFrame
  cases env.frame with
  | none => exact mild_uns _
  | some f =>
    refine (mild_field e 1).bind fun head => ?_
    split
    · refine (mild_field head 3).bind fun x => ?_
      split
      · exact .ret _
      · exact (mild_setField _ _ _).bind fun _ => last head f
    · exact last head f
theorem mild_setFlight (e : Value) (f : Option Addr) : Mild (setFlight e f) := by
  unfold setFlight
  refine (mild_field e 1).bind fun tb => ?_
  split
  · exact mild_setField _ _ _
  · exact .ret _
theorem mild_leaving (env : Env) (e : Value) : Mild (leaving env e) := (mild_noteFrame e env).bind fun _ => mild_setFlight e none
end
end Mine
namespace Mine
section
open PySem PySem.Spec PySem.Calls PySem.W PyProof.Rows
/-- an exception object with a dict of its own, not yet raised -/
noncomputable abbrev excO (C dx t : Addr) : Obj := { cls := .ref C, dict := some dx, data := .fields #[.ref t, .none, .none, .none, .bool false, .none] }

section
variable {M : Model} {A : Around} {E : Value → Shared → Prop} {s : Shared} {env : Env}
variable {nm q : Str} {C N : Addr} {bs bm : List Value} {hdct : Bool} {sn : List Str} {sub : List Value} {ab : Bool} {col : Option Bool} {dd : Option Addr} {k0 k1 k2 k3 k5 : Option Value} {newId : String}

theorem raise_obj {x : PySem.Expr} {pos : Pos} {Q : Flow → Shared → Prop} (hbase : bm.contains (.type "BaseException") = true) (hh : A.handled = none)
    (h : wpAny M A (eval x env) (fun v s₁ => ∃ e dx t, v = .ref e ∧ s₁.heap.get? C = some (excClassObj nm q C N bs bm hdct sn sub ab col dd k0 k1 k2 k3 k5 newId) ∧
      s₁.heap.get? e = some (excO C dx t) ∧ E (.ref e) s₁) E s) :
    wpAny M A (exec (.Raise (some x) none pos) env) Q E s := by
  have hcB : (Value.ref C :: bm).contains (.type "BaseException") = true := by rw [List.contains_cons, hbase, Bool.or_true]
  rw [arm_exec_Raise]
  simp only [evalOpt, Option.map]
  refine wpAny_bind (wpAny_standAt ?_)
  unfold raiseStmt
  refine wpAny_bind (wpAny_bind (wpAny_mono h (fun v s₁ h₁ => ?_) fun _ _ x => x))
  obtain ⟨e, dx, t, rfl, hC, he, hE⟩ := h₁
  refine wpAny_bind (wpAny_standAt (wpAny_pure ?_))
  obtain ⟨hp, g, d, tk, os⟩ := s₁
  repeat (first | with_reducible refine wpAny_loadPart_at he ?_ | with_reducible refine wpAny_loadPart_at hC ?_ | (with_reducible refine wpAny_isSubtype_exc hC ?_; rw [hcB]) | wp_step)
  exact wpAny_raiseNew_none hh hE
end
end
end Mine
namespace Mine
section
open PySem PySem.Spec PySem.Calls PySem.W PyProof.Rows

/-- what waits in checked_parts: pairs of a value and its depth, the last one on top -/
inductive StackIn (led : List (Addr × Obj)) : List Value → List (Dm × Nat) → Prop where
  | nil : StackIn led [] []
  | snoc {vs : List Value} {ds : List (Dm × Nat)} {p : Addr} {u : Value} {d : Dm} {k : Nat} {t : Tok} {n : Nat} : StackIn led vs ds → (p, tupO [u, .int (k : Int) t] n) ∈ led → DIn led u d → StackIn led (vs ++ [.ref p]) ((d, k) :: ds)
theorem StackIn.mono {led led' : List (Addr × Obj)} {vs : List Value} {ds : List (Dm × Nat)} (h : StackIn led vs ds) (hs : ∀ p ∈ led, p ∈ led') : StackIn led' vs ds := by
  induction h with
  | nil => exact .nil
  | snoc _ hp hd ih => exact .snoc ih (hs _ hp) (hd.mono hs)
theorem StackIn.length {led : List (Addr × Obj)} {vs : List Value} {ds : List (Dm × Nat)} (h : StackIn led vs ds) : vs.length = ds.length := by
  induction h with
  | nil => rfl
  | snoc _ _ _ ih => simp [ih]
noncomputable def cntSt : List (Dm × Nat) → Nat
  | [] => 0
  | x :: r => x.1.cnt + cntSt r
theorem len_cntSt : ∀ ds : List (Dm × Nat), ds.length ≤ cntSt ds
  | [] => Nat.le_refl _
  | x :: r => by
    have := len_cntSt r; have := x.1.cnt_pos
    simp only [List.length_cons, cntSt]; omega
noncomputable def OkSt (ds : List (Dm × Nat)) : Prop := ∀ x ∈ ds, x.1.good x.2

noncomputable def cpM (many : Nat) (tm : Tok) (l : Addr) (v : Value) (u : Str → Option Value) : Str → Option Value :=
  fun y => if y = Str.ofString "many" then some (.int (many : Int) tm) else if y = Str.ofString "left" then some (.ref l) else if y = Str.ofString "value" then some v else u y
theorem cpM_of {many : Nat} {tm : Tok} {l : Addr} {v : Value} {m : Str → Option Value} (h1 : m (Str.ofString "many") = some (.int (many : Int) tm)) (h2 : m (Str.ofString "left") = some (.ref l)) (h3 : m (Str.ofString "value") = some v) : m = cpM many tm l v m := by
  funext y
  unfold cpM
  split
  · subst_vars; exact h1
  · split
    · subst_vars; exact h2
    · split
      · subst_vars; exact h3
      · rfl

/-- the loop's state, its measure n ahead -/
noncomputable def CpJ (news : List (Addr × Obj)) (l c : Addr) (v : Value) (d : Dm) (n : Nat) (m : Str → Option Value) (nx : List (Addr × Obj)) : Prop :=
  ∃ vs ds k tl o many tm u, nx = (l, listOf vs.toArray k) :: (c, o) :: (tl ++ news) ∧ m = cpM many tm l v u ∧ StackIn (tl ++ news) vs ds ∧ (∀ q ∈ tl ++ news, q.1 ≠ l) ∧ (∀ q ∈ tl ++ news, q.1 ≠ c) ∧ c ≠ l ∧ (∃ x, o.data = .cell x) ∧
    many + cntSt ds = d.cnt ∧ (d.good 1 ↔ OkSt ds) ∧ cntSt ds = n
theorem OkSt.cons {d : Dm} {k : Nat} {ds : List (Dm × Nat)} : OkSt ((d, k) :: ds) ↔ d.good k ∧ OkSt ds :=
  ⟨fun a => ⟨a _ (.head _), fun x hx => a x (.tail _ hx)⟩, fun ⟨a, b⟩ x hx => by rcases List.mem_cons.mp hx with rfl | hx; exact a; exact b x hx⟩
theorem OkSt.nil : OkSt [] := fun _ h => nomatch h

theorem cp_start {prog : Program} {w : World} {A : Around} {E : Value → Shared → Prop} {Q : Flow → Shared → Prop} {s : Shared} {env : Env} {h₀ : Heap} {L D l p c : Addr} {test : PySem.Expr} {body : List Stmt} {pos : Pos} {m : Str → Option Value} {news : List (Addr × Obj)} {oD o : Obj} {v : Value} {d : Dm} {tm tp : Tok} {np nl : Nat}
    (F : Fr h₀ L s.heap m) (N : News h₀ L s.heap ((D, oD) :: (l, listOf #[.ref p] nl) :: (p, tupO [v, .int 1 tp] np) :: (c, o) :: news)) (hD : DIn news v d)
    (h3 : p < l ∧ c < l ∧ AllLt l news) (h4 : c < p ∧ AllLt p news) (h5 : ∀ q ∈ news, q.1 < L) (hcL : c = L + 1) (ho : ∃ x, o.data = .cell x)
    (h1 : m (Str.ofString "many") = some (.int 0 tm)) (h2 : m (Str.ofString "left") = some (.ref l)) (hv : m (Str.ofString "value") = some v)
    (hE : PassesOwn (model prog w) A env E)
    (turn : ∀ n m₁ news₁ h₁ tk₁, Fr h₀ L h₁ m₁ → News h₀ L h₁ news₁ → CpJ news l c v d n m₁ news₁ →
      wpAny (model prog w) A (isTrue test env (eval test env)) (fun b s₂ =>
        if b = true then wpAny (model prog w) A (execs body env) (WhileStep2 h₀ L s (CpJ news l c v d) Q n) E s₂ else Q .next s₂) E { s with heap := h₁, toks := tk₁ }) :
    wpAny (model prog w) A (exec (.While test body [] pos) env) Q E s := by
  have lt3 : ∀ q ∈ news, q.1 < l := fun q hq => tb_ltOf h3.2.2 q hq
  refine While_inv2 (CpJ news l c v d) F (news := (l, listOf #[.ref p] nl) :: (c, o) :: ([(p, tupO [v, .int 1 tp] np)] ++ news)) (n₀ := d.cnt + 0) (fun q hq => N q ?_) ?_ turn hE
  · rcases List.mem_cons.mp hq with rfl | hq
    · exact .tail _ (.head _)
    · rcases List.mem_cons.mp hq with rfl | hq
      · exact .tail _ (.tail _ (.tail _ (.head _)))
      · rcases List.mem_cons.mp hq with rfl | hq
        · exact .tail _ (.tail _ (.head _))
        · exact .tail _ (.tail _ (.tail _ (.tail _ hq)))
  · refine ⟨[.ref p], [(d, 1)], nl, [(p, tupO [v, .int 1 tp] np)], o, 0, tm, m, rfl, cpM_of h1 h2 hv, .snoc (vs := []) .nil (.head _) (hD.mono fun _ h => .tail _ h), fun q hq => ?_, fun q hq => ?_, Nat.ne_of_lt h3.2.1, ho, Nat.zero_add _, by rw [OkSt.cons]; exact ⟨fun h => ⟨h, OkSt.nil⟩, fun h => h.1⟩, rfl⟩
    · rcases List.mem_cons.mp hq with rfl | hq
      · exact Nat.ne_of_lt h3.1
      · exact Nat.ne_of_lt (lt3 q hq)
    · rcases List.mem_cons.mp hq with rfl | hq
      · exact Nat.ne_of_gt h4.1
      · exact fun e => by have := h5 q hq; rw [e, hcL] at this; exact Nat.lt_irrefl _ (Nat.lt_of_succ_lt this)
end
end Mine
namespace Mine
section
open PySem PySem.Spec PySem.Calls PySem.W PyProof.Rows
theorem ext_ok {its its2 : Array Value} (h : its.size + its2.size ≤ 5000) : ¬(!its.isEmpty && Builtin.List.listTooLong (its.size + its2.size)) = true := by
  intro e
  rw [Bool.and_eq_true] at e
  have := e.2
  simp only [Builtin.List.listTooLong, decide_eq_true_eq, sizeLine_eq] at this
  omega
theorem le_line {n : Nat} (h : n ≤ 5000) : n ≤ sizeLine := by rw [sizeLine_eq]; omega
theorem compEnd_keep {h₀ : Heap} {L I C D q : Addr} {m : Str → Option Value} {s₁ : Shared} {oI oC oD oq : Obj} {S : List (Addr × Obj) → Prop} {rest : Value → List (Addr × Obj) → Prop} {y : Value} {h' : Heap} {tk : Nat} {nx : List (Addr × Obj)}
    (F : Fr h₀ L h' m) (N : News h₀ L h' ((q, oq) :: (I, oI) :: (C, oC) :: (D, oD) :: nx)) (hq : (@Ne Nat q I) ∧ (@Ne Nat q C) ∧ (@Ne Nat q D)) (off : LCg.Off3 I C D nx) (hS : S ((q, oq) :: nx)) (r : rest y ((q, oq) :: nx)) :
    LCg.CompEnd h₀ L m s₁ I oI C oC D oD S rest y { s₁ with heap := h', toks := tk } :=
  LCg.CompEnd.intro F N ((q, oq) :: nx) (fun p hp => by
    rcases List.mem_cons.mp hp with rfl | hp
    · exact .tail _ (.head _)
    · rcases List.mem_cons.mp hp with rfl | hp
      · exact .tail _ (.tail _ (.head _))
      · rcases List.mem_cons.mp hp with rfl | hp
        · exact .tail _ (.tail _ (.tail _ (.head _)))
        · rcases List.mem_cons.mp hp with rfl | hp
          · exact .head _
          · exact .tail _ (.tail _ (.tail _ (.tail _ hp)))) ⟨hq, off⟩ hS r

theorem StackIn.snoc2 {led : List (Addr × Obj)} {vs : List Value} {ds : List (Dm × Nat)} {p p' : Addr} {u u' : Value} {d d' : Dm} {k k' : Nat} {t t' : Tok} {n n' : Nat} (S : StackIn led vs ds) (h : (p, tupO [u, .int (k : Int) t] n) ∈ led) (h' : (p', tupO [u', .int (k' : Int) t'] n') ∈ led) (D : DIn led u d) (D' : DIn led u' d') :
    StackIn led (vs ++ [.ref p, .ref p']) ((d', k') :: (d, k) :: ds) := by
  have := (S.snoc h D).snoc h' D'
  rw [List.append_assoc] at this
  exact this
theorem StackIn.snoc3 {led : List (Addr × Obj)} {vs : List Value} {ds : List (Dm × Nat)} {p p' q : Addr} {u u' x : Value} {d d' e : Dm} {k k' j : Nat} {t t' r : Tok} {n n' i : Nat} (S : StackIn led vs ds) (h : (p, tupO [u, .int (k : Int) t] n) ∈ led) (h' : (p', tupO [u', .int (k' : Int) t'] n') ∈ led) (hq : (q, tupO [x, .int (j : Int) r] i) ∈ led) (D : DIn led u d) (D' : DIn led u' d') (E : DIn led x e) :
    StackIn led (vs ++ [.ref p, .ref p', .ref q]) ((e, j) :: (d', k') :: (d, k) :: ds) := by
  have := ((S.snoc h D).snoc h' D').snoc hq E
  rw [List.append_assoc, List.append_assoc] at this
  exact this

theorem cp_end {h₀ : Heap} {L l c : Addr} {s : Shared} {Q : Flow → Shared → Prop} {news nx : List (Addr × Obj)} {v : Value} {d : Dm} {n : Nat} {h' : Heap} {tk : Nat} {m' : Str → Option Value} {vs : List Value} {ds : List (Dm × Nat)} {k : Nat} {tl : List (Addr × Obj)} {o : Obj} {many : Nat} {tm : Tok} {x : Option Value}
    (F : Fr h₀ L h' m') (N : News h₀ L h' nx) (h1 : m' (Str.ofString "many") = some (.int ((many + 1 : Nat) : Int) tm)) (h2 : m' (Str.ofString "left") = some (.ref l)) (h3 : m' (Str.ofString "value") = some v)
    (hl : (l, listOf vs.toArray k) ∈ nx) (hc : (c, o) ∈ nx) (hcell : o.data = .cell x) (S : StackIn (tl ++ news) vs ds) (sub : ∀ q ∈ tl ++ news, q ∈ nx) (hnl : ∀ q ∈ tl ++ news, q.1 ≠ l) (hnc : ∀ q ∈ tl ++ news, q.1 ≠ c) (hcl : c ≠ l)
    (hsum : many + 1 + cntSt ds = d.cnt) (hok : d.good 1 ↔ OkSt ds) (hlt : cntSt ds < n) : WhileStep2 h₀ L s (CpJ news l c v d) Q n .next { s with heap := h', toks := tk } := by
  refine ⟨h', tk, m', (l, listOf vs.toArray k) :: (c, o) :: (tl ++ news), _, rfl, F, fun q hq => N q ?_, hlt, vs, ds, k, tl, o, many + 1, tm, m', rfl, cpM_of h1 h2 h3, S, hnl, hnc, hcl, ⟨x, hcell⟩, hsum, hok, rfl⟩
  rcases List.mem_cons.mp hq with rfl | hq
  · exact hl
  · rcases List.mem_cons.mp hq with rfl | hq
    · exact hc
    · exact sub _ hq
theorem ok0 {d e : Dm} {k : Nat} {ds : List (Dm × Nat)} (h : d.good 1 ↔ OkSt ((e, k) :: ds)) (he : e.good k) : d.good 1 ↔ OkSt ds := h.trans (OkSt.cons.trans ⟨fun x => x.2, fun x => ⟨he, x⟩⟩)
theorem ok1 {d a : Dm} {e : Dm} {k j : Nat} {ds : List (Dm × Nat)} (h : d.good 1 ↔ OkSt ((e, k) :: ds)) (he : e.good k ↔ a.good j) : d.good 1 ↔ OkSt ((a, j) :: ds) := by
  rw [OkSt.cons] at h ⊢
  rw [h, he]
theorem ok2 {d a b e : Dm} {k j : Nat} {ds : List (Dm × Nat)} (h : d.good 1 ↔ OkSt ((e, k) :: ds)) (he : e.good k ↔ a.good j ∧ b.good j) : d.good 1 ↔ OkSt ((b, j) :: (a, j) :: ds) := by
  rw [OkSt.cons] at h
  rw [OkSt.cons, OkSt.cons, h, he]
  exact ⟨fun ⟨⟨x, y⟩, z⟩ => ⟨y, x, z⟩, fun ⟨y, x, z⟩ => ⟨⟨x, y⟩, z⟩⟩
theorem ok3 {d a b c e : Dm} {k j : Nat} {ds : List (Dm × Nat)} (h : d.good 1 ↔ OkSt ((e, k) :: ds)) (he : e.good k ↔ a.good j ∧ b.good j ∧ c.good j) : d.good 1 ↔ OkSt ((c, j) :: (b, j) :: (a, j) :: ds) := by
  rw [OkSt.cons] at h
  rw [OkSt.cons, OkSt.cons, OkSt.cons, h, he]
  exact ⟨fun ⟨⟨x, y, w⟩, z⟩ => ⟨w, y, x, z⟩, fun ⟨w, y, x, z⟩ => ⟨⟨x, y, w⟩, z⟩⟩
end
end Mine
namespace Mine
section
open PySem PySem.Spec PySem.Calls PySem.W PySem.W.X PyProof.Rows
noncomputable abbrev AA : Around := { handled := none, depth := 900, frames := none, guards := none, units := 9000 }
noncomputable abbrev hS (w : World) (x : Str) : Int := PySem.W.XFast.xw12210062019545310541 (w.params.strHash x.cps)
/-- the dict of a Thrown that bears v -/
noncomputable abbrev thrD (a b c : Int) (t₁ t₂ t₃ t₄ : Tok) (v : Value) : Obj := { cls := .type "dict", data := .dict #[⟨a, .str (Str.ofString "message") t₁, .str (Str.ofString "a value is thrown") t₂⟩, ⟨b, .str (Str.ofString "spot") t₃, .none⟩, ⟨c, .str (Str.ofString "value") t₄, v⟩] 3 }
end
section
open PySem PySem.Spec PySem.Calls PySem.W PySem.W.X PyProof.Rows
noncomputable def ValQ (s : Shared) (v : Value) (Q : Value → Shared → Prop) : Prop := ∀ h' tk', (∀ b o, s.heap.get? b = some o → h'.get? b = some o) → Q v { s with heap := h', toks := tk' }
theorem val_close {s : Shared} {v : Value} {Q : Value → Shared → Prop} {h : Heap} {tk : Nat} {L : List (Addr × Obj)} (hQ : ValQ s v Q) (D : Mem s.heap h [] L) : Q v { s with heap := h, toks := tk } := hQ _ _ (fun b o e => D.keep b o e (Bool.or_true _))
theorem val_close0 {s : Shared} {v : Value} {Q : Value → Shared → Prop} {tk : Nat} (hQ : ValQ s v Q) : Q v { s with toks := tk } := hQ s.heap tk (fun b o e => e)
end
end Mine
namespace Mine
section
open PySem PySem.Spec PySem.Calls PySem.W PyProof.Rows
noncomputable abbrev msgT (t : Tok) : List Value := [.str (Str.ofString "a value is thrown") t]

/-- a Thrown in flight: what the library holds of it, and its own dict -/
noncomputable def Aloft (base G : Heap) (l : List Env) (e t dx : Addr) (tm : Tok) (news : List (Addr × Obj)) (h : Heap) : Prop :=
  RaisedS base G l e (.ref 83) t (msgT tm) news h ∧ ∃ oe, h.get? e = some oe ∧ oe.dict = some dx

theorem aloft_dict {h h' : Heap} {e dx : Addr} (k : DictKept h h') (x : ∃ oe, h.get? e = some oe ∧ oe.dict = some dx) : ∃ oe, h'.get? e = some oe ∧ oe.dict = some dx := by
  obtain ⟨oe, he, hd⟩ := x
  obtain ⟨o', he', hd'⟩ := k e oe he
  exact ⟨o', he', hd'.trans hd⟩

theorem mem_frames {env : Env} {outer : List Env} {L b : Addr} (hf : env.frame = some L) (hm : b ∈ (env :: outer).filterMap (·.frame)) : b = L ∨ b ∈ outer.filterMap (·.frame) := by
  obtain ⟨x, he, hx⟩ := List.mem_filterMap.mp hm
  rcases List.mem_cons.mp he with rfl | he
  · exact .inl (Option.some.inj (hf.symm.trans hx)).symm
  · exact .inr (List.mem_filterMap.mpr ⟨x, he, hx⟩)

section
variable {M : Model} {A : Around} {E : Value → Shared → Prop} {s' : Shared} {base g g₂ h : Heap} {outer : List Env} {L e t dx : Addr} {tm : Tok} {m : Str → Option Value} {env : Env} {Q : Unit → Shared → Prop} {news : List (Addr × Obj)}

theorem leave_first (K : Below A base outer g) (F : Fr g L s'.heap m) (N : News g L s'.heap news) (he : s'.heap.get? e = some (excO 83 dx t)) (hen : g.get? e = none) (ht : s'.heap.get? t = some (tupO (msgT tm) 0)) (htn : g.get? t = none)
    (hne : ∀ q ∈ news, q.1 ≠ e ∧ q.1 ≠ t) (hf : env.frame = some L) (hk : env.scope.kind = .function)
    (hQ : ∀ h', Aloft base g outer e t dx tm news h' → g.UpToSlots h' → Q () { s' with heap := h' }) :
    wpAny M (A.deeper env) (leaving env (.ref e)) Q E s' := by
  have K' := pushX K F hf hk
  have hin : ∀ x ∈ (env :: outer), ∀ b, x.frame = some b → b ∈ e :: t :: (env :: outer).filterMap (·.frame) := fun x he b hb => .tail _ (.tail _ (List.mem_filterMap.mpr ⟨x, he, hb⟩))
  have away : ∀ b o, g.get? b = some o → b ∉ outer.filterMap (·.frame) → b ∉ e :: t :: (env :: outer).filterMap (·.frame) := fun b o q nm hm => by
    rcases List.mem_cons.mp hm with rfl | hm
    · rw [hen] at q; cases q
    · rcases List.mem_cons.mp hm with rfl | hm
      · rw [htn] at q; cases q
      · rcases mem_frames hf hm with z | z
        · rw [z, kts_self F] at q; cases q
        · exact nm z
  have sg : ∀ b o, g.get? b = some o → b ∉ outer.filterMap (·.frame) → (hideAll s'.heap (e :: t :: (env :: outer).filterMap (·.frame))).get? b = some o := fun b o q nm => hideAll_get _ (F.keep b o q) (away b o q nm)
  have st : base.StaysIn (hideAll s'.heap (e :: t :: (env :: outer).filterMap (·.frame))) := fun b o q => sg b o (K.stays b o q) fun z => by
    rw [(K.frames.mem z).1] at q; cases q
  have hl : ∀ q ∈ news, (hideAll s'.heap (e :: t :: (env :: outer).filterMap (·.frame))).get? q.1 = some q.2 ∧ g.get? q.1 = none ∧ base.get? q.1 = none := fun q hq => by
    refine ⟨hideAll_get _ (N q hq).1 fun hm => ?_, (N q hq).2.2, fresh_of_stays K.stays (N q hq).2.2⟩
    rcases List.mem_cons.mp hm with z | hm
    · exact (hne q hq).1 z
    · rcases List.mem_cons.mp hm with z | hm
      · exact (hne q hq).2 z
      · rcases mem_frames hf hm with z | z
        · exact (N q hq).2.1 z
        · obtain ⟨o, ho, _⟩ := (K.frames.mem z).2
          rw [(N q hq).2.2] at ho; cases ho
  have ten : (hideAll s'.heap (e :: t :: (env :: outer).filterMap (·.frame))).get? e = none := hideAll_none _ (.head _)
  have ttn : (hideAll s'.heap (e :: t :: (env :: outer).filterMap (·.frame))).get? t = none := hideAll_none _ (.tail _ (.head _))
  refine wpAny_mono ((mild_leaving env (.ref e)).any (wpAny_leaving_firstW (a0 := .ref t) (base := hideAll s'.heap (e :: t :: (env :: outer).filterMap (·.frame))) (outer := outer) (L := L) (oe := excO 83 dx t) (Q := fun _ s'' => ∃ h', s'' = { s' with heap := h' } ∧ Heap.LeftW (hideAll s'.heap (e :: t :: (env :: outer).filterMap (·.frame))) (env :: outer) e (.ref 83) (.ref t) s'.heap h') (E := E) K'.stack (funFrames_hide K'.frames hin) hf he (fun b o q => of_hideAll _ q) ten rfl rfl rfl fun h' hL => ⟨h', rfl, hL⟩)) ?_ fun _ _ x => x.1
  rintro ⟨⟩ s'' ⟨⟨h', rfl, k1, ⟨_, _, k2⟩, k3, k4⟩, hdk⟩
  refine hQ h' ⟨⟨⟨_, st, sg, hl, ⟨k1, ten, k2, k3⟩, ttn⟩, Heap.TupAt.of_slots ⟨_, _, ht, rfl, rfl⟩ k4⟩, aloft_dict hdk ⟨_, he, rfl⟩⟩ ((Heap.UpToSlots.of_keeps F.keep).trans k4)

theorem leave_onD (K : Below A base outer g) (F : Fr g L g₂ m) (R : Aloft base g₂ (env :: outer) e t dx tm news s'.heap) (hsm : g₂.UpToSlots s'.heap) (hf : env.frame = some L)
    (hQ : ∀ h', Aloft base g outer e t dx tm news h' → g.UpToSlots h' → Q () { s' with heap := h' }) :
    wpAny M (A.deeper env) (leaving env (.ref e)) Q E s' := by
  obtain ⟨⟨⟨B, hB, hBG, hl, hfl, hnew⟩, htup⟩, hdict⟩ := R
  refine wpAny_mono ((mild_leaving env (.ref e)).any (wpAny_leaves_onW (E := E) (Q := fun _ s'' => ∃ h', s'' = { s' with heap := h' } ∧ Heap.FlyingW B outer e (.ref 83) (.ref t) h' ∧ s'.heap.UpToSlots h') (Around.frames_deeper K.stack) hf hfl fun h' x1 x2 => ⟨h', rfl, x1, x2⟩)) ?_ fun _ _ x => x.1
  rintro ⟨⟩ s'' ⟨⟨h', rfl, x1, x2⟩, hdk⟩
  exact hQ h' ⟨⟨⟨B, hB, fun b o q nm => hBG b o (F.keep b o q) (fun hm => by
      rcases mem_frames hf hm with z | z
      · rw [z, kts_self F] at q
        cases q
      · exact nm z), fun q hq => ⟨(hl q hq).1, kts_none F.keep (hl q hq).2.1, (hl q hq).2.2⟩, x1, hnew⟩, htup.of_slots x2⟩, aloft_dict hdk hdict⟩ ((Heap.UpToSlots.of_keeps F.keep).trans (hsm.trans x2))
end

theorem wpAny_conj_mild {α : Type} {M : Model} {A : Around} {t : Sem α} {Q Q' : α → Shared → Prop} {E : Value → Shared → Prop} {s : Shared} (m : Mild t) (h : wpAny M A t Q E s) (k : ∀ a s', Q a s' → DictKept s.heap s'.heap → Q' a s') : wpAny M A t Q' E s :=
  wpAny_mono (m.any h) (fun a s' x => k a s' x.1 x.2) fun _ _ x => x.1

section
variable {prog : Program} {w : World} {A₀ : Around} {E : Value → Shared → Prop} {s' : Shared} {base g g₀ G : Heap} {outer : List Env} {L a e t dx : Addr} {tm : Tok} {m : Str → Option Value} {name : Str} {scope : Scope} {cd : Value}
  {n : Str} {b₀ : Stmt} {suite : List Stmt} {pos np : Pos} {rest : List ExceptHandler} {Q : Flow → Shared → Prop} {news : List (Addr × Obj)} {KF : Frag}
  {p : Program} {loose : List Str} {mean : ExcName → Option Value} {mg mb : Str → Option Value} {x : Str}

/-- except Thrown as error: the exception lands, its dict at hand -/
theorem caughtD (R : Aloft base G (envOf name scope L a cd :: outer) e t dx tm news s'.heap) (F : Fr g L G m) (K : Below A₀ base outer g) (hsm : G.UpToSlots s'.heap) (XB : KF.In base) (TB : Top p loose mean mg mb base)
    (D : KtsDicts (outer.filterMap (·.frame)) g) (T0 : KtsTurn (outer.filterMap (·.frame)) g₀ g)
    (ex : nsIn KF mainGlobals x = some (some (.ref 83))) (q : ktsIn KF 83 "BaseException" = true)
    (k : ∀ h' g' tk oe ws, KtsTurn (outer.filterMap (·.frame)) g₀ g' → Fr g' L h' (fun y => if y = n then some (.ref e) else m y) → oe.cls = .ref 83 → oe.dict = some dx → oe.data = .fields ws → News g' L h' ((e, oe) :: news) → Below A₀ base outer g' → KF.In g' → Top p loose mean mg mb g' → KtsDicts (outer.filterMap (·.frame)) g' →
      wpAny (model prog w) ((A₀.deeper (envOf name scope L a cd)).mark (some (.ref e))) (execs (b₀ :: suite) (envOf name scope L a cd))
        (fun f s₄ => wpAny (model prog w) (A₀.deeper (envOf name scope L a cd)) (do bindName (envOf name scope L a cd) n .none; unbindBehindTheSuite (envOf name scope L a cd) n pos) (fun _ s₅ => Q f s₅) E s₄)
        (AsSuiteRaised (model prog w) ((A₀.deeper (envOf name scope L a cd)).mark (some (.ref e))) (envOf name scope L a cd) n pos (notedBy (model prog w) ((A₀.deeper (envOf name scope L a cd)).mark (some (.ref e))) (envOf name scope L a cd) (cameBackBy (model prog w) (A₀.deeper (envOf name scope L a cd)) (envOf name scope L a cd) E)))
        { s' with heap := h', toks := tk })
    (hk : scope.kind = .function := by rfl) (hlo : (envOf name scope L a cd).kindOf n = some .local := by rfl) (hx : (envOf name scope L a cd).kindOf x = some .globalImplicit := by rfl) (hd : (x == ("__debug__" : Str)) = false := by decide) :
    wpAny (model prog w) (A₀.deeper (envOf name scope L a cd)) (noteFrame (.ref e) (envOf name scope L a cd))
      (fun _ s₂ => wpAny (model prog w) (A₀.deeper (envOf name scope L a cd)) (setFlight (.ref e) none) (fun _ s₃ =>
        wpAny (model prog w) (A₀.deeper (envOf name scope L a cd)) (handleBy (.ref e) (envOf name scope L a cd) (.ExceptHandler (some (.Name x np)) (some n) (b₀ :: suite) pos :: rest)) Q E s₃) E s₂) E s' := by
  obtain ⟨⟨⟨B, hB, hBG, hl, hfl, hnew⟩, htup⟩, hdict⟩ := R
  have hL : B.get? L = none := by
    obtain ⟨_, ⟨L', _, hf, hn', _⟩, _⟩ := hfl.2.2.1
    obtain rfl : L = L' := Option.some.inj hf
    exact hn'
  refine wpAny_conj_mild (mild_noteFrame _ _) (wpAny_looks_onW (Q := fun _ s'' => ∃ h₄, s'' = { s' with heap := h₄ } ∧ Heap.HeldW B (envOf name scope L a cd :: outer) e (.ref 83) (.ref t) L h₄ ∧ s'.heap.UpToSlots h₄) (Around.frames_deeper K.stack) rfl hfl fun h₄ x y => ⟨h₄, rfl, x, y⟩) ?_
  rintro ⟨⟩ s₂ ⟨h₄, rfl, hheld₄, hsm₄⟩ hk₄
  refine wpAny_conj_mild (mild_setFlight _ _) (wpAny_landsW (Q := fun _ s'' => ∃ h₅, s'' = { s' with heap := h₅ } ∧ Heap.FlyingW B (envOf name scope L a cd :: outer) e (.ref 83) (.ref t) h₅ ∧ h₄.UpToSlots h₅) hheld₄ fun h₅ x y => ⟨h₅, rfl, x, y⟩) ?_
  rintro ⟨⟩ s₃ ⟨h₅, rfl, hheld, hsm₅'⟩ hk₅
  have hsm₅ := hsm₄.trans hsm₅'
  obtain ⟨g₅, T₅, F₅, K₅⟩ := kts_ground K F hBG hheld.1 (hsm.trans hsm₅)
  have X₅ : KF.In g₅ := XB.keeps K₅.stays
  have P₅ : TopRead p loose mg mb g₅ := topRead_of (TB.keeps K₅.stays)
  obtain ⟨ob, hob, hobc⟩ := hheld.there
  obtain ⟨nm, q', N, bs, bm, hdct, sn, sub, ab, col, dd, k0, k1, k2, k3, k5, newId, hC, hbase, hbT⟩ := kts_cls X₅ q
  have hC₅ := F₅.keep _ _ hC
  refine wpAny_handleBy_cons (codeAny_handlers_test (name_K F₅ X₅ P₅ ex ?_ hk hx hd)) (by intro q; cases q)
  refine wpAny_excMatches_sub_self hC₅ hob hobc hbase (codeAny_handlers_suite_as ?_)
  refine wpAny_conj_mild (mild_setFlight _ _) (lands_againW (Q := fun _ s'' => ∃ h₆, s'' = { s' with heap := h₆ } ∧ Heap.FlyingW B (envOf name scope L a cd :: outer) e (.ref 83) (.ref t) h₆ ∧ h₅.UpToSlots h₆) hheld fun h₆ x y => ⟨h₆, rfl, x, y⟩) ?_
  rintro ⟨⟩ s₄ ⟨h₆, rfl, hfl₆, hsm₆⟩ hk₆
  obtain ⟨g₆, T₆, F₆, K₆⟩ := kts_ground K F hBG hfl₆.1 ((hsm.trans hsm₅).trans hsm₆)
  obtain ⟨oe, ws, hoe, hoec, hoed, hoe0⟩ := hfl₆.first
  obtain ⟨oe', hoe', hdt⟩ := aloft_dict hk₆ (aloft_dict hk₅ (aloft_dict hk₄ hdict))
  rw [show h₆.get? e = some oe' from hoe'] at hoe
  have hoe := Option.some.inj hoe
  subst hoe
  have ne₆ : g₆.get? e = none := T₆.none_ _ (kts_fresh F hBG hfl₆.2.1 fun o ho m => by
    obtain ⟨_, o', ho', hd⟩ := K.frames.mem m
    rw [ho] at ho'
    cases ho'
    obtain ⟨sl, hs⟩ := ((hsm.trans hsm₅).trans hsm₆) _ _ (F.keep _ _ ho) hd
    rw [show h₆.get? e = some oe' from hoe'] at hs
    cases hs
    exact hd _ hoed)
  have N₆ := News.more F₆ News.nil hoe' (fun es n q => by rw [hoed] at q; cases q) ne₆
  have Nl : News g₆ L h₆ news := fun q hq => ⟨hfl₆.1 _ _ (hl q hq).1, (fun z => by have := (hl q hq).1; rw [z, hL] at this; cases this), T₆.none_ _ (kts_none F.keep (hl q hq).2.1)⟩
  have X₆ : KF.In g₆ := XB.keeps K₆.stays
  have P₆ : Top p loose mean mg mb g₆ := TB.keeps K₆.stays
  have D₆ : KtsDicts (outer.filterMap (·.frame)) g₆ := D.turn T₆
  refine stN F₆ (news := _ ++ news) (fun q hq => (List.mem_append.mp hq).elim (N₆ q) (Nl q)) (fun h₇ F₇ N₇ => ?_) hk hlo
  exact k h₇ g₆ _ _ _ (T0.trans T₆) F₇ hoec hdt hoed N₇ K₆ X₆ P₆ D₆
end
end
end Mine
namespace Mine
section
open PySem PySem.Spec PySem.Calls PySem.W PyProof.Rows
section
variable {prog : Program} {w : World} {A : Around} {E : Value → Shared → Prop} {s : Shared} {h₀ : Heap} {L : Addr} {m : Str → Option Value} {env : Env}
theorem fr_butw {h h' : Heap} {wr : List Addr} (F : Fr h₀ L h m) (hk : ∀ b o, b ∉ wr → h.get? b = some o → h'.get? b = some o) (hL : L ∉ wr) (hI : ∀ b ∈ wr, h₀.get? b = none) : Fr h₀ L h' m :=
  ⟨F.ns.at' fun o e => hk L o hL e, fun b o e => hk b o (fun hm => by rw [hI b hm] at e; cases e) (F.keep b o e), F.above⟩
theorem comp_loop0 {elt target iter : PySem.Expr} {ifs : List PySem.Expr} {scope : Scope} {pos : Pos} {it acc : Value} {R : Result → Shared → Prop}
    (turn : ∀ E, wpAny (model prog w) A (pyNext it) (fun r s₁ => r = none ∧ R (.ok .next) s₁) E s) :
    codeAny (model prog w) A (.compLoop (.ListComp elt [⟨target, iter, ifs, 0⟩] scope pos) 0 it acc env) R s := by
  refine codeAny_loop rfl (fun _ s' => s' = s) (fun n s' hI => ?_) 0 rfl
  subst hI
  show wpAny _ A ((compTurn (.ListComp elt [⟨target, iter, ifs, 0⟩] scope pos) 0 it acc env).onRaise (fun x => do noteFrame x env; theTreesLotGoes x)) _ _ s'
  refine wpAny_noted ?_
  rw [compTurn_list]
  refine wpAny_bind (wpAny_standAt (wpAny_bind (wpAny_mono (turn _) (fun r s₁ h₁ => ?_) fun _ _ h' => h')))
  obtain ⟨rfl, h₂⟩ := h₁
  exact wpAny_pure h₂
/-- a comprehension whose source is at its end at once -/
theorem block_0 {elt iter target : PySem.Expr} {ifs : List PySem.Expr} {scope : Scope} {cl : List (Str × Addr)} {pos : Pos} {s₂ : Shared} {I : Addr} {fp wr : List Addr} {P : Nat → Value → Prop} {St : Nat → Heap → Prop} {news : List (Addr × Obj)} {RR : Value → Addr → Result → Shared → Prop}
    (W : Walks prog w A I fp wr 0 P St) (hcell : ∀ y ∈ scope.names, y.2 ≠ .cell) (hkind : scope.kind = .function) (hst : St 0 s₂.heap) (hfp : ∀ b ∈ fp, b < s₂.heap.objs.size)
    (F : Fr h₀ L s₂.heap m) (N : News h₀ L s₂.heap news) (hIL : L ∉ wr) (hI₀ : ∀ b ∈ wr, h₀.get? b = none) (off : ∀ p ∈ news, p.1 ∉ wr)
    (hRR : ∀ D C h tk m', Fr h₀ L h m → News h₀ L h ((D, LCg.lst []) :: news) → h.Ns C m' → h₀.get? C = none → h₀.get? D = none → C ≠ L → D ≠ L → C ≠ D → (∀ p ∈ news, p.1 ≠ C) → (∀ p ∈ news, p.1 < D) → RR (.ref D) C (.ok .next) { s₂ with heap := h, toks := tk }) :
    wpAny (model prog w) A (newList []) (fun acc s₃ => wpAny (model prog w) A (newFunctionEnv scope env.globals cl [] env.qual none .none (some env)) (fun cenv s₄ =>
      codeAny (model prog w) A (.compStart (.ListComp elt [⟨target, iter, ifs, 0⟩] scope pos) 0 (.ref I) acc { cenv with scope := relabel scope env }) (RR acc cenv.locals) s₄) E s₃) E s₂ := by
  refine wpAny_newObj_type (wpAny_newFunctionEnv hcell (by intro y hy; simp at hy) (fun h₁ hns₁ hsb₁ => ?_) hkind)
  dsimp only at hns₁ hsb₁ ⊢
  generalize hH2 : s₂.heap.push { cls := .type "list", dict := none, data := .seq ([] : List Value).toArray } = H2 at hns₁ hsb₁ ⊢
  have hC : H2.objs.size = s₂.heap.objs.size + 1 := by rw [← hH2, Heap.size_push]
  have hDC : s₂.heap.objs.size ≠ H2.objs.size := by rw [hC]; exact Nat.ne_of_lt (Nat.lt_succ_self _)
  have below : ∀ b, b < s₂.heap.objs.size → b ≠ H2.objs.size ∧ b ≠ s₂.heap.objs.size := fun b hb => ⟨by rw [hC]; exact Nat.ne_of_lt (Nat.lt_succ_of_lt hb), Nat.ne_of_lt hb⟩
  have offw : ∀ b, s₂.heap.objs.size ≤ b → b ∉ wr := fun b hb hm => absurd (hfp b (W.sub b hm)) (Nat.not_lt.mpr hb)
  have hD9 : s₂.heap.objs.size ∉ wr := offw _ (Nat.le_refl _)
  have hC9 : H2.objs.size ∉ wr := offw _ (by rw [hC]; exact Nat.le_succ _)
  have old : ∀ b o, s₂.heap.get? b = some o → h₁.get? b = some o := fun b o e => hsb₁.extBut b o (below b (Heap.lt_size e)).1 (Heap.get?_push_of_some _ (hH2 ▸ Heap.get?_push_of_some _ e))
  have hacc : h₁.get? s₂.heap.objs.size = some (LCg.lst []) := hsb₁.extBut _ _ hDC (Heap.get?_push_of_some _ (hH2 ▸ Heap.get?_push_size _ rfl))
  have hst₁ : St 0 h₁ := W.frame _ _ _ hst fun b _ o e => old b o e
  have fresh₀ : ∀ a, s₂.heap.objs.size ≤ a → h₀.get? a = none := fun a ha => by
    cases e : h₀.get? a with
    | none => rfl
    | some o' => exact absurd (Heap.lt_size (F.keep a o' e)) (Nat.not_lt.mpr ha)
  have hD₀ : h₀.get? s₂.heap.objs.size = none := fresh₀ _ (Nat.le_refl _)
  have hC₀ : h₀.get? H2.objs.size = none := fresh₀ _ (by rw [hC]; exact Nat.le_succ _)
  have hLlt : L < s₂.heap.objs.size := F.ns.lt
  have hDL : s₂.heap.objs.size ≠ L := Ne.symm (below L hLlt).2
  have hCL : H2.objs.size ≠ L := Ne.symm (below L hLlt).1
  have lts : ∀ p ∈ news, p.1 < s₂.heap.objs.size := fun p hp => Heap.lt_size (N p hp).1
  have loop : codeAny (model prog w) A (.compLoop (.ListComp elt [⟨target, iter, ifs, 0⟩] scope pos) 0 (.ref I) (.ref s₂.heap.objs.size) (compEnvC scope cl H2.objs.size env))
        (RR (.ref s₂.heap.objs.size) H2.objs.size) { s₂ with heap := h₁, toks := s₂.toks + ([] : List (Str × Value)).length } := by
    refine comp_loop0 fun E9 => ?_
    refine W.done _ _ _ hst₁ fun h₂ tk₂ hk₂ => ⟨rfl, ?_⟩
    refine hRR _ _ h₂ tk₂ _ (fr_butw (F.keeps old) hk₂ hIL hI₀) (fun p hp => ?_) (hns₁.at' fun o e => hk₂ _ o hC9 e) hC₀ hD₀ hCL hDL (Ne.symm hDC) (fun p hp => (below _ (lts p hp)).1) lts
    rcases List.mem_cons.mp hp with rfl | hp
    · exact ⟨hk₂ _ _ hD9 hacc, hDL, hD₀⟩
    · exact ⟨hk₂ _ _ (off p hp) (old _ _ (N p hp).1), (N p hp).2⟩
  exact codeAny_compStart_list loop (W.self 0 _ _ _ hst₁ loop)

/-- the source of a comprehension is an empty list of the ledger -/
noncomputable def NilSrc (A : Around) (h₀ : Heap) (L : Addr) (m : Str → Option Value) (Q : Value → Shared → Prop) (xv : Value) (s₁ : Shared) : Prop :=
  ∃ ax k news, xv = .ref ax ∧ A.handled = none ∧ Fr h₀ L s₁.heap m ∧ News h₀ L s₁.heap news ∧ (ax, listOf #[] k) ∈ news ∧ ∀ D h tk, Fr h₀ L h m → News h₀ L h ((D, LCg.lst []) :: news) → (∀ p ∈ news, p.1 < D) → Q (.ref D) { s₁ with heap := h, toks := tk }
theorem NilSrc.intro {Q : Value → Shared → Prop} {s₁ : Shared} {ax : Addr} {k : Nat} {news : List (Addr × Obj)} (hh : A.handled = none) (F : Fr h₀ L s₁.heap m) (N : News h₀ L s₁.heap news) (hm : (ax, listOf #[] k) ∈ news) (h : ∀ D h tk, Fr h₀ L h m → News h₀ L h ((D, LCg.lst []) :: news) → (∀ p ∈ news, p.1 < D) → Q (.ref D) { s₁ with heap := h, toks := tk }) :
    NilSrc A h₀ L m Q (.ref ax) s₁ := ⟨ax, k, news, rfl, hh, F, N, hm, h⟩
theorem comp_nil {elt iter target : PySem.Expr} {ifs : List PySem.Expr} {scope : Scope} {cl : List (Str × Addr)} {pos : Pos} {Q : Value → Shared → Prop}
    (_F₀ : Fr h₀ L s.heap m) (hclos : closureFor scope env = pure cl) (hcell : ∀ y ∈ scope.names, y.2 ≠ .cell) (hkind : scope.kind = .function)
    (hnames : ∀ y ∈ scope.names, y.2 = .local → scope.names.lookup y.1 = some .local) (ht : ∀ it v, letOwnedTupleGo target it v = pure ())
    (h : wpAny (model prog w) A (eval iter env) (NilSrc A h₀ L m Q) E s)
    (hs : ∀ x, foldedSetIterable iter env x = pure x := by intro _; rfl) :
    wpAny (model prog w) A (eval (.ListComp elt [⟨target, iter, ifs, 0⟩] scope pos) env) Q E s := by
  rw [eval_ListComp]
  refine wpAny_comprehension_free (use := none) rfl hs hclos hkind hnames (wpAny_mono h (fun xv s₁ h₁ => ?_) fun _ _ e => e)
  obtain ⟨ax, k, news, rfl, hh, F, N, S, R⟩ := h₁
  have hl : s₁.heap.IsList ax #[] := ⟨_, (N _ S).1, rfl, k, rfl⟩
  have hlt : ax < s₁.heap.objs.size := Heap.lt_size (N _ S).1
  refine wpAny_pyIter_list hl ?_
  have up : ∀ b o, s₁.heap.get? b = some o → (s₁.heap.push { cls := .type "list_iterator", data := .fields #[.ref ax, .int 0 0] }).get? b = some o := fun b o e => Heap.get?_push_of_some _ e
  refine block_0 (Walks.list hh s₁.heap.objs.size ax (Nat.ne_of_lt hlt) #[]) hcell hkind ⟨⟨_, Heap.get?_push_size _ rfl, rfl, rfl⟩, hl.push _⟩ (fun b hb => ?_)
    (F.keeps up) (N.grown up) (fun z => absurd F.ns.lt (List.mem_singleton.mp z ▸ Nat.lt_irrefl _)) (fun b hb => List.mem_singleton.mp hb ▸ next_is_new F) (fun p hp z => absurd (Heap.lt_size (N p hp).1) (List.mem_singleton.mp z ▸ Nat.lt_irrefl _)) ?_
  · show b < (s₁.heap.push _).objs.size
    rw [Heap.size_push]
    rcases List.mem_cons.mp hb with rfl | hb
    · exact Nat.lt_succ_self _
    · rw [List.mem_singleton.mp hb]; exact Nat.lt_succ_of_lt hlt
  · intro D C h tk m' F' N' hn hC₀ hD₀ hCL hDL hCD offC lts
    refine ⟨m', hn, fun h'' hs'' => R D h'' tk (F'.change hs'' hCL hC₀) (fun p hp => ?_) lts⟩
    refine ⟨hs''.extBut _ _ ?_ (N' p hp).1, (N' p hp).2⟩
    rcases List.mem_cons.mp hp with rfl | hp
    · exact Ne.symm hCD
    · exact offC p hp
end
theorem reads_tup {h : Heap} {a : Addr} {items : Array Value} {xs : List PyData} {as : List Addr} (t : IsTup h a items) (r : ReadsAll h items.toList xs as) : Reads h (.ref a) (.tuple xs) as := by
  obtain ⟨o, ho, hc, n, hd⟩ := t
  exact .tuple ho hc hd r
theorem readsK {K : Frag} {h₀ h : Heap} {L a : Addr} {m : Str → Option Value} {l : List Value} {n : Nat} {dd : Option Addr} {sl : Array (Option Value)} {xs : List PyData} {as : List Addr} (F : Fr h₀ L h m) (X : K.In h₀) (hl : K.lookup a = some ⟨.type "tuple", dd, .seq l.toArray n, sl⟩) (r : ReadsAll h l xs as) : Reads h (.ref a) (.tuple xs) as := reads_tup (tupK (X.keeps F.keep) hl) r
end
end Mine
namespace Mine
section
open PySem PySem.Spec PySem.Calls PySem.W PyProof.Rows
section
variable {prog : Program} {w : World} {A : Around} {E : Value → Shared → Prop} {s : Shared} {h₀ : Heap} {L : Addr} {m : Str → Option Value} {env : Env}
theorem zip_end0 {z TI TO i1 l1 : Addr} {i2 : Value} {Q : Fin → Shared → Prop} (hh : A.handled = none) (n1 : i1 ≠ z) (n2 : l1 ≠ z)
    (hz : IsZip s.heap z TI TO .none) (hTI : IsPair s.heap TI (.ref i1) i2) (h1 : s.heap.IsListIter i1 l1 0) (hl1 : s.heap.IsList l1 #[])
    (hE : ∀ h' e, (∀ c o, c ≠ z → c ≠ i1 → s.heap.get? c = some o → h'.get? c = some o) → (∃ o, h'.get? e = some o ∧ o.cls = .type "StopIteration") → E (.ref e) { s with heap := h' }) :
    wpAny (model prog w) A (Builtin.«zip.__next__» ⟨[.ref z], []⟩) Q E s := by
  show wpAny _ _ (field (.ref z) 2 >>= _) _ _ _
  refine wpAny_bind (wpAny_field hz rfl (x := .bool false) rfl ?_)
  show wpAny _ _ (field (.ref z) 3 >>= _) _ _ _
  refine wpAny_bind (wpAny_field hz rfl (x := .ref TI) rfl ?_)
  refine wpAny_bind (wpAny_seqItems hTI rfl ?_)
  show wpAny _ _ (Builtin.SmallTypes.ownedTupleIsFree (.ref z) >>= _) _ _ _
  refine wpAny_bind ?_
  unfold Builtin.SmallTypes.ownedTupleIsFree
  refine wpAny_bind (wpAny_field hz rfl (x := .none) rfl (wpAny_pure ?_))
  simp only [if_true]
  refine wpAny_bind (wpAny_rule ?_)
  refine wpAny_bind (wpAny_field hz rfl (x := .ref TO) rfl ?_)
  refine wpAny_bind (wpAny_setField_rec hz (by simp) fun h₁ hz₁ hs₁ => ?_)
  replace hz₁ : IsZip h₁ z TI TO .ellipsis := hz₁
  refine wpAny_bind ?_
  simp only [List.zipIdx_cons, List.zipIdx_nil, List.forIn_cons, List.forIn_nil]
  refine wpAny_bind (wpAny_bind (wpAny_onRaise ?_))
  show wpAny _ _ (Builtin.SmallTypes.nextOf (.ref i1) >>= _) _ _ _
  refine wpAny_bind (wpAny_nextOf_list_end hh (h1.extBut hs₁.extBut n1) (hl1.extBut hs₁.extBut n2) (by simp) fun h₂ e hs₂ he => ?_)
  obtain ⟨oe, hoe, hce⟩ := he
  have hz₂ : IsZip h₂ z TI TO .ellipsis := hs₂ _ _ n1.symm hz₁
  have hez : e ≠ z := fun x => by subst x; rw [hz₂] at hoe; cases hoe; simp at hce
  refine wpAny_setField_rec hz₂ (by simp) fun h₃ _ hs₃ => hE h₃ e (fun c o c1 c3 x => hs₃.extBut _ _ c1 (hs₂ _ _ c3 (hs₁.extBut _ _ c1 x))) ⟨oe, hs₃.extBut _ _ hez hoe, hce⟩
/-- a zip whose first source is an empty list is at its end -/
theorem zip_end {z TI TO i1 l1 : Addr} {i2 : Value} {Q : Option Value → Shared → Prop} (hh : A.handled = none) (n1 : i1 ≠ z) (n2 : l1 ≠ z)
    (hz : IsZip s.heap z TI TO .none) (hTI : IsPair s.heap TI (.ref i1) i2) (h1 : s.heap.IsListIter i1 l1 0) (hl1 : s.heap.IsList l1 #[])
    (hQ : ∀ h', (∀ c o, c ≠ z → c ≠ i1 → s.heap.get? c = some o → h'.get? c = some o) → Q none { s with heap := h' }) : wpAny (model prog w) A (pyNext (.ref z)) Q E s := by
  have hT : s.TypeIs (.ref z) "zip" := ⟨_, hz, rfl⟩
  unfold pyNext
  refine wpAny_bind (wpAny_attempt (wpAny_callSpecial?_slot (name := Str.ofString "__next__") hT PySem.F.slot_zip_next
    (wpAny_call_entry PySem.F.slot_zip_next hT PySem.F.entry_zip_next (zip_end0 hh n1 n2 hz hTI h1 hl1 fun h' e hk he => ?_) (PySem.F.args_zip_next_1 _))))
  obtain ⟨o, ho, hc⟩ := he
  refine wpAny_bind (wpAny_isInstance (T := "StopIteration") (b := true) ⟨o, ho, hc⟩ isSubtype_stop ?_)
  exact wpAny_pure (hQ _ hk)
theorem Walks.zip0 {z TI TO i1 l1 : Addr} {i2 : Value} (hh : A.handled = none) (n1 : i1 ≠ z) (n2 : l1 ≠ z) :
    Walks prog w A z [z, i1, TI, l1] [z, i1] 0 (fun _ _ => False) (fun _ h => IsZip h z TI TO .none ∧ IsPair h TI (.ref i1) i2 ∧ h.IsListIter i1 l1 0 ∧ h.IsList l1 #[]) where
  sub := fun b hb => by simp at hb; rcases hb with rfl | rfl <;> simp
  frame := fun _ _ _ st hk => ⟨hk z (by simp) _ st.1, hk TI (by simp) _ st.2.1, st.2.2.1.at fun o e => hk i1 (by simp) o e, st.2.2.2.at fun o e => hk l1 (by simp) o e⟩
  item := fun i s Q E hi => absurd hi (Nat.not_lt_zero i)
  done := fun s Q E st hQ => zip_end hh n1 n2 st.1 st.2.1 st.2.2.1 st.2.2.2 fun h' hk => hQ h' s.toks fun b o hb e => hk b o (fun h => hb (by simp [h])) (fun h => hb (by simp [h])) e
  self := fun _ _ _ _ st hQ => wpAny_pyIter_zip st.1 hQ
/-- a zip of a list and a tuple -/
theorem meets_zipT (l1 l2 : Addr) (xs ys : Array Value) :
    Meets (Builtin.«zip.__new__» ⟨[.type "zip", .ref l1, .ref l2], []⟩) (fun _ R s => s.heap.IsList l1 xs ∧ s.heap.IsTuple l2 ys ∧
      ∀ h' z TI TO i1 i2, s.heap.objs.size = i1 → i1 < TI → TI < z → IsZip h' z TI TO .none → IsPair h' TI (.ref i1) i2 → h'.IsListIter i1 l1 0 → (∀ c o, s.heap.get? c = some o → h'.get? c = some o) → R (.ok (.ret (.ref z))) { s with heap := h' }) :=
  .of_wp fun prog w A R s h => by
    obtain ⟨hp, g, d, tk, os⟩ := s; obtain ⟨hl1, hl2, h⟩ := h
    have hsub := sub_zip
    have hL1 : Heap.IsList (Shared.heap ⟨hp, g, d, tk, os⟩) l1 xs := hl1
    have hL2 : Heap.IsTuple (Shared.heap ⟨hp.push { cls := .type "list_iterator", data := .fields #[.ref l1, .int 0 0] }, g, d, tk, os⟩) l2 ys := Heap.IsTuple.push hl2 _
    wp_walk using wpAny_pyIter_list hL1, wpAny_pyIter_tuple hL2
    refine ⟨_, rfl, h _ _ _ _ _ _ rfl ?_ ?_ (Heap.get?_push_size _ rfl) (Heap.get?_push_of_some _ (Heap.get?_push_of_some _ (Heap.get?_push_size _ rfl))) ⟨_, Heap.get?_push_of_some _ (Heap.get?_push_of_some _ (Heap.get?_push_of_some _ (Heap.get?_push_of_some _ (Heap.get?_push_size _ rfl)))), rfl, rfl⟩
      (fun c o x => Heap.get?_push_of_some _ (Heap.get?_push_of_some _ (Heap.get?_push_of_some _ (Heap.get?_push_of_some _ (Heap.get?_push_of_some _ x)))))⟩
    · simp only [Heap.size_push]; omega
    · simp only [Heap.size_push]; omega
theorem call_zipT {l1 l2 : Addr} {xs ys : Array Value} {Q : Value → Shared → Prop} (hl1 : s.heap.IsList l1 xs) (hl2 : s.heap.IsTuple l2 ys)
    (h : ∀ h' z TI TO i1 i2, s.heap.objs.size = i1 → i1 < TI → TI < z → IsZip h' z TI TO .none → IsPair h' TI (.ref i1) i2 → h'.IsListIter i1 l1 0 → (∀ c o, s.heap.get? c = some o → h'.get? c = some o) → Q (.ref z) { s with heap := h' }) :
    wpAny (model prog w) A (call (.type "zip") [.ref l1, .ref l2]) Q E s :=
  callType_new PySem.F.called_zip (by decide) (PySem.F.typeCall_zip_2 _ _) (PySem.F.newCall_zip_2 _ _) (fun obj => PySem.F.args_object_init_3 obj _ _) PySem.F.entry_zip_new
    (meets_zipT l1 l2 xs ys) ⟨hl1, hl2, fun h' z TI TO i1 i2 e1 e2 e3 hz hp hi k => ⟨⟨_, hz, rfl⟩, h h' z TI TO i1 i2 e1 e2 e3 hz hp hi k⟩⟩
/-- the source of a comprehension is such a zip -/
noncomputable def ZSrc (A : Around) (h₀ : Heap) (L : Addr) (m : Str → Option Value) (Q : Value → Shared → Prop) (xv : Value) (s₁ : Shared) : Prop :=
  ∃ z TI TO i1 l1 i2 news, xv = .ref z ∧ A.handled = none ∧ (@Ne Nat i1 z) ∧ (@Ne Nat l1 z) ∧ (IsZip s₁.heap z TI TO .none ∧ IsPair s₁.heap TI (.ref i1) i2 ∧ s₁.heap.IsListIter i1 l1 0 ∧ s₁.heap.IsList l1 #[]) ∧
    Fr h₀ L s₁.heap m ∧ News h₀ L s₁.heap news ∧ L ∉ [z, i1] ∧ (∀ b ∈ [z, i1], h₀.get? b = none) ∧ (∀ p ∈ news, p.1 ∉ [z, i1]) ∧
    ∀ D h tk, Fr h₀ L h m → News h₀ L h ((D, LCg.lst []) :: news) → (∀ p ∈ news, p.1 < D) → Q (.ref D) { s₁ with heap := h, toks := tk }
theorem zip_src {l1 l2 : Addr} {k : Nat} {ys : Array Value} {news : List (Addr × Obj)} {Q : Value → Shared → Prop} (hh : A.handled = none) (F : Fr h₀ L s.heap m) (N : News h₀ L s.heap news) (hm : (l1, listOf #[] k) ∈ news) (ht : s.heap.IsTuple l2 ys)
    (h : ∀ D h tk, Fr h₀ L h m → News h₀ L h ((D, LCg.lst []) :: news) → (∀ p ∈ news, p.1 < D) → Q (.ref D) { s with heap := h, toks := tk }) :
    wpAny (model prog w) A (call (.type "zip") [.ref l1, .ref l2]) (ZSrc A h₀ L m Q) E s := by
  have hl : s.heap.IsList l1 #[] := ⟨_, (N _ hm).1, rfl, k, rfl⟩
  refine call_zipT hl ht fun h' z TI TO i1 i2 e1 e2 e3 hz hp hi kp => ?_
  have hlt : l1 < s.heap.objs.size := Heap.lt_size (N _ hm).1
  have bi : s.heap.objs.size ≤ i1 := Nat.le_of_eq e1
  have bz : s.heap.objs.size ≤ z := Nat.le_trans bi (Nat.le_of_lt (Nat.lt_trans e2 e3))
  have off : ∀ b, b < s.heap.objs.size → b ∉ [z, i1] := fun b hb hm => by
    rcases List.mem_cons.mp hm with rfl | hm
    · exact absurd hb (Nat.not_lt.mpr bz)
    · rw [List.mem_singleton.mp hm] at hb; exact absurd hb (Nat.not_lt.mpr bi)
  refine ⟨z, TI, TO, i1, l1, i2, news, rfl, hh, Nat.ne_of_lt (Nat.lt_trans e2 e3), fun q => off l1 hlt (q ▸ .head _), ⟨hz, hp, hi, hl.at fun o e => kp _ o e⟩, F.keeps kp, N.grown kp, off L F.ns.lt, fun b hb => ?_, fun p hp => off _ (Heap.lt_size (N p hp).1), h⟩
  cases e : h₀.get? b with
  | none => rfl
  | some o => exact absurd hb (off b (Heap.lt_size (F.keep b o e)))
theorem comp_zip {elt iter target : PySem.Expr} {ifs : List PySem.Expr} {scope : Scope} {cl : List (Str × Addr)} {pos : Pos} {Q : Value → Shared → Prop}
    (_F₀ : Fr h₀ L s.heap m) (hclos : closureFor scope env = pure cl) (hcell : ∀ y ∈ scope.names, y.2 ≠ .cell) (hkind : scope.kind = .function)
    (hnames : ∀ y ∈ scope.names, y.2 = .local → scope.names.lookup y.1 = some .local)
    (h : wpAny (model prog w) A (eval iter env) (ZSrc A h₀ L m Q) E s)
    (hs : ∀ x, foldedSetIterable iter env x = pure x := by intro _; rfl) :
    wpAny (model prog w) A (eval (.ListComp elt [⟨target, iter, ifs, 0⟩] scope pos) env) Q E s := by
  rw [eval_ListComp]
  refine wpAny_comprehension_free (use := none) rfl hs hclos hkind hnames (wpAny_mono h (fun xv s₁ h₁ => ?_) fun _ _ e => e)
  obtain ⟨z, TI, TO, i1, l1, i2, news, rfl, hh, n1, n2, st, F, N, hL, hw, off, R⟩ := h₁
  refine wpAny_pyIter_zip st.1 ?_
  refine block_0 (Walks.zip0 (TI := TI) (TO := TO) (i2 := i2) hh n1 n2) hcell hkind st (fun b hb => ?_) F N hL hw off ?_
  · simp only [List.mem_cons, List.not_mem_nil, or_false] at hb
    obtain ⟨o1, x1, _⟩ := st.2.2.1
    obtain ⟨o2, x2, _⟩ := st.2.2.2
    rcases hb with rfl | rfl | rfl | rfl
    · exact Heap.lt_size st.1
    · exact Heap.lt_size x1
    · exact Heap.lt_size st.2.1
    · exact Heap.lt_size x2
  · intro D C h tk m' F' N' hn hC₀ hD₀ hCL hDL hCD offC lts
    refine ⟨m', hn, fun h'' hs'' => R D h'' tk (F'.change hs'' hCL hC₀) (fun p hp => ?_) lts⟩
    refine ⟨hs''.extBut _ _ ?_ (N' p hp).1, (N' p hp).2⟩
    rcases List.mem_cons.mp hp with rfl | hp
    · exact Ne.symm hCD
    · exact offC p hp
end
end
end Mine
namespace Mine
section
open PySem PySem.Spec PySem.Calls PySem.W PyProof.Rows
/-- every code that the table knows lies on the ledger, of one name -/
noncomputable def Codes (qual : Str) (led : List (Addr × Obj)) (ps : List Value) : Prop := ∀ pos cv, codeAmong pos ps = some cv → ∃ c' oc vs t, cv = .ref c' ∧ (c', oc) ∈ led ∧ oc.data = .fields vs ∧ vs[1]? = some (.str qual t)
theorem codeAmong_of_snoc {pos : Pos} {a b : Int} {c cv : Value} : ∀ (l : List Value), TriplesOk l → codeAmong pos (l ++ [rawInt a, rawInt b, c]) = some cv → codeAmong pos l = some cv ∨ cv = c := fun l h => by
  fun_induction TriplesOk l with
  | case1 =>
    intro e
    simp only [List.nil_append, codeAmong, rawInt] at e
    split at e
    · exact .inr (Option.some.inj e).symm
    · cases e
  | case2 a' t b' u x rest ih =>
    simp only [List.cons_append, codeAmong]
    split
    · exact fun e => .inl e
    · exact ih h
  | case3 l h1 h2 => exact h.elim
theorem codes_nil {qual : Str} {led : List (Addr × Obj)} : Codes qual led [] := fun pos cv e => by simp [codeAmong] at e
theorem Codes.mono {qual : Str} {led led' : List (Addr × Obj)} {ps : List Value} (h : Codes qual led ps) (hs : ∀ p ∈ led, p ∈ led') : Codes qual led' ps := fun pos cv e => by
  obtain ⟨c', oc, vs, t, h1, h2, h3, h4⟩ := h pos cv e
  exact ⟨c', oc, vs, t, h1, hs _ h2, h3, h4⟩
section
variable {M : Model} {A : Around} {E : Value → Shared → Prop} {s : Shared} {h₀ : Heap} {L a c P : Addr} {m mg mb : Str → Option Value} {cn : Str} {cs : Scope} {ccd : Value} {cl : List (Str × Addr)} {rest : List (Addr × Obj)}
  {p : Program} {loose : List Str} {mean : ExcName → Option Value} {name qual : Str} {params : Arguments} {body : PySem.Expr} {scope : Scope} {ps : Array Value} {pos : Pos} {firstLine : Nat} {clos : List (Str × Addr)}
/-- a lambda is made, be its code known or new -/
theorem lam_any {Q : Value → Shared → Prop} (F : Fr h₀ L s.heap m) (N : News h₀ L s.heap ((P, tabObj ps) :: rest)) (hP : ∀ q ∈ rest, q.1 ≠ P) (T : Top p loose mean mg mb h₀) (C : CodeHd h₀ c P) (hcd : ccd = .ref c) (ht : TriplesOk ps.toList) (hc : Codes qual rest ps.toList)
    (hcl : closureFor scope (envX cn cs L a ccd cl) = pure clos)
    (h : ∀ f c' oc vs t ctv ps' add h' tk, Fr h₀ L h' m → News h₀ L h' ((P, tabObj ps') :: (f, kla_obj name qual params body scope clos ((mg "__name__").getD .none) c' ctv) :: (add ++ rest)) → f ≠ P → (∀ q ∈ add, q.1 ≠ P) → (∀ q ∈ rest, q.1 < f) → TriplesOk ps'.toList → Codes qual (add ++ rest) ps'.toList → (c', oc) ∈ add ++ rest → oc.data = .fields vs → vs[1]? = some (.str qual t) → Q (.ref f) { s with heap := h', toks := tk }) :
    wpAny M A (makeFunction name qual params (.expr body) scope (envX cn cs L a ccd cl) [] [] [] pos firstLine) Q E s := by
  cases hf : codeAmong pos ps.toList with
  | none =>
    refine kla_nest F N T C hcd (UpdF.head hP) ht hf hcl fun f c' oc vs t ctv h' tk F' N' d1 d2 l1 l2 => ?_
    have lP : @LT.lt Nat _ P c' := l1 _ (.head _)
    refine h f c' oc vs t ctv (ps ++ #[rawInt pos.line, rawInt pos.col, .ref c']) [(c', oc)] h' tk F' (fun q hq => N' q ?_) (Nat.ne_of_gt (Nat.lt_trans lP l2)) (fun q hq => ?_) (fun q hq => Nat.lt_trans (l1 q (.tail _ hq)) l2) ?_ ?_ (.head _) d1 d2
    · rcases List.mem_cons.mp hq with rfl | hq
      · exact .tail _ (.tail _ (.head _))
      · rcases List.mem_cons.mp hq with rfl | hq
        · exact .head _
        · rcases List.mem_cons.mp hq with rfl | hq
          · exact .tail _ (.head _)
          · exact .tail _ (.tail _ (.tail _ hq))
    · rw [List.mem_singleton.mp hq]; exact Nat.ne_of_gt lP
    · rw [Array.toList_append]
      exact TriplesOk_snoc _ _ _ _ ht
    · intro pos' cv e
      rw [Array.toList_append] at e
      rcases codeAmong_of_snoc _ ht e with e | e
      · obtain ⟨c2, oc2, vs2, t2, h1, h2, h3, h4⟩ := hc pos' cv e
        exact ⟨c2, oc2, vs2, t2, h1, .tail _ h2, h3, h4⟩
      · exact ⟨c', oc, vs, t, e, .head _, d1, d2⟩
  | some cv =>
    obtain ⟨c', oc, vs, t, rfl, h2, h3, h4⟩ := hc pos cv hf
    refine kla_hit F N T C hcd (.head _) ht hf hcl fun f ctv h' tk F' N' l1 => ?_
    refine h f c' oc vs t ctv ps [] h' tk F' (fun q hq => N' q ?_) (Nat.ne_of_gt (l1 _ (.head _))) (fun q hq => nomatch hq) (fun q hq => l1 q (.tail _ hq)) ht hc h2 h3 h4
    rcases List.mem_cons.mp hq with rfl | hq
    · exact .tail _ (.head _)
    · rcases List.mem_cons.mp hq with rfl | hq
      · exact .head _
      · exact .tail _ (.tail _ hq)
end
end
end Mine
namespace Mine
section
open PySem PySem.Spec PySem.Calls PySem.W PyProof.Rows
theorem wpAny_AA {α : Type} {M : Model} {A : Around} {t : Sem α} {Q : α → Shared → Prop} {E : Value → Shared → Prop} {s : Shared} (hh : A.handled = none) (hde : A.depth ≤ 900) (hu : A.units ≤ 9000) (h : wpAny M AA t Q E s) : wpAny M A t Q E s :=
  fun Γ p hΓ => h Γ p ⟨hΓ.1.trans hh, Nat.le_trans hΓ.2.1 hde, (by intro _ e; cases e), (by intro _ e; cases e), Nat.le_trans hΓ.2.2.2.2 hu⟩
theorem le_dep {n : Nat} (h : n + 100 < recursionLimit) : n ≤ 900 := by unfold recursionLimit at h; omega
theorem le_uni {n : Nat} (h : n + 900 < cLine) : n ≤ 9000 := by unfold cLine at h; omega
theorem fresh_off {h₀ h : Heap} {L e : Addr} {m : Str → Option Value} (F : Fr h₀ L h m) (he : h.get? e = none) : e ≠ L ∧ h₀.get? e = none := by
  refine ⟨fun q => ?_, kts_none F.keep he⟩
  obtain ⟨o, _, _, ho, _⟩ := F.ns
  rw [q, ho] at he; cases he
end
end Mine
namespace Mine
section
open PySem PySem.Spec PySem.Calls PySem.W PySem.W.X PyProof.Rows
noncomputable def GiQ (s : Shared) (Q : Value → Shared → Prop) : Prop := ∀ tk', Q (.builtin "BaseException.__init__") { s with toks := tk' }
noncomputable def GiQ' (s : Shared) (Q : Value → Shared → Prop) : Prop := ∀ tk', Q (.builtin "Exception.__init__") { s with toks := tk' }
section
local macro_rules | `(tactic| x_close) => `(tactic| ((rename GiQ' _ _ => hQ9); exact hQ9 _))
theorem x_gi' {prog : Program} {w : World} {s : Shared} {t : Tok} {Q E : Value → Shared → Prop} :
    (KK w.params).In s.heap → GiQ' s Q → wpAny (model prog w) AA (call (.builtin "type.__getattribute__") [.type "Exception", .str (Str.ofString "__init__") t]) Q E s := by
  intro KX hQ
  x_run
end
end
end Mine
namespace Mine
section
open PySem PySem.Spec PySem.Calls PySem.W PyProof.Rows
theorem type_ga : typeLookup (.type "type") (Str.ofString "__getattribute__") = pure (some (.builtin "type.__getattribute__")) := by rw [typeLookup_type, builtinLookup_eq_fast]; kernel_rfl
theorem exc_get {prog : Program} {w : World} {A : Around} {E : Value → Shared → Prop} {s : Shared} {pl : Sem Bool} {Q : Value × List Value → Shared → Prop} (X : (KK w.params).In s.heap)
    (hh : A.handled = none) (hde : A.depth + 100 < recursionLimit) (hu : A.units + 900 < cLine)
    (h : ∀ tk, Q (.builtin "Exception.__init__", []) { s with toks := tk }) : wpAny (model prog w) A (getMethod (.type "Exception") (Str.ofString "__init__") pl) Q E s := by
  have f1 := type_ga
  have f2 := canon_tga
  have f0 : typeOf (.type "Exception") = pure (.type "type") := by kernel_rfl
  have f3 : (onTheHeap (.type "type") && Value.builtin "type.__getattribute__" == .builtin "object.__getattribute__") = false := by kernel_rfl
  have f4 : hookBefore (.type "type") = pure none := by kernel_rfl
  unfold getMethod specialOf
  refine wpAny_bind (wpAny_bind ?_)
  rw [f0]
  refine wpAny_pure ?_
  rw [f1]
  refine wpAny_pure ?_
  dsimp only
  rw [if_pos f2]
  refine wpAny_bind ?_
  unfold getAttr
  refine wpAny_bind (wpAny_mkText ?_)
  unfold getAttrBy
  refine wpAny_holding ?_
  rw [f0]
  refine wpAny_bind (wpAny_pure ?_)
  rw [f1]
  refine wpAny_bind (wpAny_pure ?_)
  dsimp only
  rw [f3]
  rw [if_neg Bool.false_ne_true]
  unfold getAttrByItsOwn
  rw [f4]
  refine wpAny_bind (wpAny_pure ?_)
  refine wpAny_bind (wpAny_attempt (wpAny_holding ?_))
  have f5 := KF.slot_tga.bind (.type "Exception")
  show wpAny (model prog w) A (do let (g, first) ← bindSpecial (.builtin "type.__getattribute__") (.type "Exception"); call g (first ++ [_])) _ _ _
  rw [f5]
  refine wpAny_AA hh (le_dep hde) (le_uni hu) (x_gi' X fun tk => ?_)
  show wpAny _ _ (handedOut (.builtin "Exception.__init__")) _ _ _
  rw [show handedOut (.builtin "Exception.__init__") = pure (.builtin "Exception.__init__") from by kernel_rfl]
  exact wpAny_pure (wpAny_pure (h tk))
end
end Mine
namespace Mine
section
open PySem PySem.Spec PySem.Calls PySem.W PyProof.Rows
theorem ei_plain : plainId "Exception.__init__" = true := by decide +kernel
theorem entry_ei : entryFor table "Exception.__init__" = some Builtin.«BaseException.__init__» := PySem.F.excCall_Exception.initEntry
theorem ei_kind : builtinKind "Exception.__init__" = some .slot := by decide +kernel
theorem ei_split : splitId "Exception.__init__" = some ("Exception", "__init__") := by decide +kernel
theorem ei_check {M : Model} {A : Around} {self tp : Value} {nm : String} {rest : List Value} {E : Value → Shared → Prop} {Q : Unit → Shared → Prop} {s : Shared} (ht : Looks M s.heap (typeOf self) tp) (hn : Looks M s.heap (typeNameWhole tp) nm) (hi : Looks M s.heap (isInstance self (.type "Exception")) true) (h : Q () s) :
    wpAny M A (checkBuiltinCall "Exception.__init__" ⟨self :: rest, []⟩) Q E s := by
  have F := PySem.F.excCall_Exception
  simp only [checkBuiltinCall, F.initKind, F.initSplit, F.initRow]
  refine wpAny_bind (hi.here ?_)
  rw [if_neg (by decide)]
  unfold Bind.checkArgs
  dsimp only [List.isEmpty_nil, List.map_nil, List.head?_cons]
  unfold Bind.printed Bind.receiverType
  simp only [show (Manifest.Receiver.self == Manifest.Receiver.none) = false from rfl, show (Manifest.Receiver.self == Manifest.Receiver.cls) = false from rfl, show ("*" != "*") = false from by decide, show ("Exception" != "*") = true from by decide, Bool.false_eq_true, if_false, if_true]
  refine wpAny_bind (wpAny_bind (ht.here (wpAny_bind (hn.here (wpAny_pure ?_)))))
  refine wpAny_bind (wpAny_pure ?_)
  refine wpAny_onRaise ?_
  exact wpAny_of_eq (check_star_args _ _ _ _ _ _) h
noncomputable abbrev excN (t0 : Value) (dd : Option Addr) : Obj := { cls := .ref 83, dict := dd, data := .fields #[t0, .none, .none, .none, .bool false, .none] }
theorem exc_init {prog : Program} {w : World} {A : Around} {E : Value → Shared → Prop} {s : Shared} {e a : Addr} {m : Value} {dd : Option Addr} {Q : Value → Shared → Prop} (X : (KK w.params).In s.heap)
    (he : s.heap.get? e = some (excN (.ref a) dd))
    (h : ∀ h' n, n = s.heap.objs.size → h'.get? e = some (excN (.ref n) dd) → h'.get? n = some (tupO [m] 0) → (∀ b o, b ≠ e → s.heap.get? b = some o → h'.get? b = some o) → Q .none { s with heap := h' }) :
    wpAny (model prog w) A (call (.builtin "Exception.__init__") [.ref e, m]) Q E s := by
  have t1 : Looks (model prog w) s.heap (isInstance (.ref e) (.type "Exception")) true := ((Looks.ld he).andThen .now).andThen (looks_mroIn X (by kernel_rfl))
  have t0 : Looks (model prog w) s.heap (typeOf (.ref e)) (.ref 83) := (Looks.ld he).andThen .now
  obtain ⟨cd, hcd⟩ : ∃ cd, clsIn (KK w.params) 83 = some cd := Option.isSome_iff_exists.mp (by kernel_rfl)
  have t2 : Looks (model prog w) s.heap (typeNameWhole (.ref 83)) cd.name.toString := (looks_clsIn X hcd).andThen .now
  refine wpAny_call (codeAny_call_builtin ei_plain entry_ei (ei_check t0 t2 t1 ?_))
  obtain ⟨hp, g, d, t, os⟩ := s
  unfold Builtin.«BaseException.__init__»
  repeat (any_goals (first | assumption | wp_step))
  dsimp only
  have hen : e ≠ hp.objs.size := Nat.ne_of_lt (Heap.lt_size he)
  have he' : (hp.push { cls := .type "tuple", data := .seq #[m] }).get? e = some (excN (.ref a) dd) := Heap.get?_push_of_some _ he
  refine h _ _ rfl (Heap.get?_update_self _ he' rfl) ((Heap.get?_update_other _ _ hen).trans (Heap.get?_push_size _ rfl)) fun b o hb hbo => (Heap.get?_update_other _ _ hb.symm).trans (Heap.get?_push_of_some _ hbo)
end
end Mine
namespace Mine
section
open PySem PySem.Spec PySem.Calls PySem.W PyProof.Rows Builtin Builtin.ObjectAttr
theorem exc_mro (P : Params) : (clsIn (KK P) 83).map (·.mro) = some [.ref 83, .ref 39, .type "Exception", .type "BaseException", .type "object"] := by kernel_rfl
theorem exc_osa {prog : Program} {w : World} {A : Around} {R : Result → Shared → Prop} {s : Shared} {e : Addr} {o : Obj} {name : Str} {tk : Tok} {v : Value} (X : (KK w.params).In s.heap)
    (he : s.heap.get? e = some o) (hc : o.cls = .ref 83) (hn : findIn (KK w.params) (.ref 83) name = some none)
    (h : wpAny (model prog w) A.in1 (storeInOwnDict (.ref e) (.ref 83) (.str name tk) name v false)
      (fun fin s' => match fin with | .done f => R (.ok f) s' | .again c' => c'.quiet = true ∧ codeAny (model prog w) A c' R s') (fun e s' => R (.error e) s') s) :
    codeAny (model prog w) A (.call (.builtin "object.__setattr__") ⟨[.ref e, .str name tk, v], []⟩) R s := by
  have SF := PySem.F.store_object
  have t0 : Looks (model prog w) s.heap (typeOf (.ref e)) (.ref 83) := hc ▸ (Looks.ld he).andThen .now
  obtain ⟨cd, hcd, hm⟩ := Option.map_eq_some_iff.mp (exc_mro w.params)
  have sub : Looks (model prog w) s.heap (isInstance (.ref e) (.type "object")) true := t0.andThen (looks_mroIn X (by kernel_rfl))
  refine codeAny_call_builtin SF.slot.plain SF.entry (@check_slot (model prog w) _ _ s "object.__setattr__" "object" "__setattr__" (.ref e) [.str name tk, v] [] _ SF.kind SF.split sub (SF.args (.ref e) (.str name tk) v) ?_)
  have hmr : Looks (model prog w) s.heap (mroOf (.ref 83)) [.ref 83, .ref 39, .type "Exception", .type "BaseException", .type "object"] := hm ▸ (looks_clsIn X hcd).andThen .now
  have L3 : Looks (model prog w) s.heap (storeTaker? none) none := .now
  rw [osa_eq, refuse_eq]
  refine wpAny_bind (wpAny_bind (t0.here (wpAny_bind (hmr.here ?_))))
  rw [refuseLoop_ref, refuseLoop_ref, PySem.F.store_Exception.passes]
  refine wpAny_pure (wpAny_bind (t0.here (wpAny_bind ((looks_findIn X hn).here (wpAny_bind (L3.here ?_))))))
  exact h
end
end Mine
namespace Mine
section
open PySem PySem.Spec PySem.Calls PySem.W PyProof.Rows Builtin Builtin.ObjectAttr
theorem store_in {prog : Program} {w : World} {A : Around} {E : Value → Shared → Prop} {Q : Fin → Shared → Prop} {s : Shared} {d : Addr} {od od' : Obj} {es : List DictEntry} {n : Nat} {name : Str} {tk : Tok} {v : Value} (D : s.heap.get? d = some od)
    (hl : (lookIn name od).isSome = true) (e : Obj.putName name (PyData.keyHash w.params name) (.str name s.toks) v od = od') (e' : od'.data = .dict es.toArray n) (hf : od'.isFreed = false) (hz : es.length ≤ 1000)
    (h : ∀ h', h'.get? d = some od' → (∀ b, b ≠ d → h'.get? b = s.heap.get? b) → Q (.done (.ret .none)) { s with heap := h', toks := s.toks + 1 }) :
    wpAny (model prog w) A (storeInDict d (.str name tk) name v) Q E s := by
  have D' : (s.heap.update d (Obj.putName name (PyData.keyHash w.params name) (.str name s.toks) v)).get? d = some od' := by
    rw [Heap.get?_update_self _ D (by rw [e]; exact hf), e]
  unfold storeInDict newKeyGuard
  refine wpAny_bind (wpAny_pure (wpAny_bind ?_))
  unfold nsSet
  refine wpAny_bind (wpAny_bind (wpAny_askSetting (wpAny_pure (wpAny_bind (wpAny_mkText (wpAny_bind (wpAny_loadPart D ?_)))))))
  unfold lookIn at hl
  split at hl
  · rename_i es₀ n₀ q
    rw [q]
    dsimp only
    have c : (!es₀.any (·.key.isStr name) && es₀.any (·.refKey)) = false := by
      rw [← Array.any_toList, ← Array.any_toList]
      split at hl
      · rename_i en he
        rw [List.any_eq_true.mpr ⟨en, List.mem_of_find?_eq_some he, List.find?_some he⟩]; rfl
      · split at hl
        · cases hl
        · rename_i z; rw [Bool.not_eq_true] at z; rw [z, Bool.and_false]
    rw [aRefKeyMayBeTheName_at, c]
    refine wpAny_updatePart D ?_
    refine wpAny_bind (wpAny_lookBehind D' (by rw [e']; exact pastItsLine_dict (by rw [List.size_toArray, sizeLine_eq]; omega)) ?_)
    exact wpAny_pure (h _ D' fun b hb => Heap.get?_update_other _ _ hb.symm)
  · cases hl
theorem exc_store0 {prog : Program} {w : World} {A : Around} {E : Value → Shared → Prop} {Q : Fin → Shared → Prop} {s : Shared} {e : Addr} {fs : Array Value} {name : Str} {tk : Tok} {v : Value} (X : (KK w.params).In s.heap)
    (he : s.heap.get? e = some { cls := .ref 83, dict := none, data := .fields fs })
    (h : ∀ h' d, d = s.heap.objs.size → h'.get? e = some { cls := .ref 83, dict := some d, data := .fields fs } → h'.get? d = some { cls := .type "dict", data := .dict #[⟨PyData.keyHash w.params name, .str name s.toks, v⟩] 1 } → (∀ b o, b ≠ e → s.heap.get? b = some o → h'.get? b = some o) → Q (.done (.ret .none)) { s with heap := h', toks := s.toks + 1 }) :
    wpAny (model prog w) A (storeInOwnDict (.ref e) (.ref 83) (.str name tk) name v false) Q E s := by
  obtain ⟨hp, g, d, t, os⟩ := s
  obtain ⟨cd, hcd, hd⟩ : ∃ cd, clsIn (KK w.params) 83 = some cd ∧ cd.hasDict = true := by
    have : (clsIn (KK w.params) 83).any (·.hasDict) = true := by kernel_rfl
    exact any_some this
  have L1 := looks_clsIn (M := model prog w) X hcd
  unfold storeInOwnDict
  refine wpAny_bind ?_
  refine wpAny_pure ?_
  show wpAny _ _ (ownDictForStores (.ref e) >>= _) _ _ _
  refine wpAny_bind ?_
  unfold ownDictForStores instanceDict
  repeat (first | assumption | lk | wp_step)
  have he' : (hp.push { cls := .type "dict", data := .dict #[] }).get? e = some { cls := .ref 83, dict := none, data := .fields fs } := Heap.get?_push_of_some _ he
  have hen : e ≠ hp.objs.size := Nat.ne_of_lt (Heap.lt_size he)
  refine wpAny_update' he' ?_
  refine wpAny_pure ?_
  have hgd : ((hp.push { cls := .type "dict", data := .dict #[] }).update e fun o => { cls := o.cls, dict := some hp.objs.size, data := o.data, slots := o.slots }).get? hp.objs.size = some { cls := .type "dict", data := .dict #[] } :=
    (Heap.get?_update_other _ _ hen).trans (Heap.get?_push_size _ rfl)
  refine store_in (es := [⟨PyData.keyHash w.params name, .str name t, v⟩]) (n := 1) hgd rfl rfl rfl rfl (by simp) fun h' h1 h2 => ?_
  refine h h' _ rfl ?_ h1 fun b o hb hbo => ?_
  · exact (h2 e hen).trans (Heap.get?_update_self _ he' rfl)
  · exact (h2 b (Nat.ne_of_lt (Heap.lt_size hbo))).trans ((Heap.get?_update_other _ _ hb.symm).trans (Heap.get?_push_of_some _ hbo))
theorem exc_store1 {prog : Program} {w : World} {A : Around} {E : Value → Shared → Prop} {Q : Fin → Shared → Prop} {s : Shared} {e dx : Addr} {fs : Array Value} {name : Str} {tk : Tok} {v : Value} {od od' : Obj} {es : List DictEntry} {n : Nat} (X : (KK w.params).In s.heap)
    (he : s.heap.get? e = some { cls := .ref 83, dict := some dx, data := .fields fs }) (D : s.heap.get? dx = some od)
    (hl : (lookIn name od).isSome = true) (e1 : Obj.putName name (PyData.keyHash w.params name) (.str name s.toks) v od = od') (e' : od'.data = .dict es.toArray n) (hf : od'.isFreed = false) (hz : es.length ≤ 1000)
    (h : ∀ h', h'.get? dx = some od' → (∀ b, b ≠ dx → h'.get? b = s.heap.get? b) → Q (.done (.ret .none)) { s with heap := h', toks := s.toks + 1 }) :
    wpAny (model prog w) A (storeInOwnDict (.ref e) (.ref 83) (.str name tk) name v false) Q E s := by
  obtain ⟨cd, hcd, hd⟩ : ∃ cd, clsIn (KK w.params) 83 = some cd ∧ cd.hasDict = true := by
    have : (clsIn (KK w.params) 83).any (·.hasDict) = true := by kernel_rfl
    exact any_some this
  have L1 := looks_clsIn (M := model prog w) X hcd
  unfold storeInOwnDict
  refine wpAny_bind ?_
  refine wpAny_pure ?_
  show wpAny _ _ (ownDictForStores (.ref e) >>= _) _ _ _
  refine wpAny_bind ?_
  unfold ownDictForStores instanceDict
  refine wpAny_bind (wpAny_loadPart he ?_)
  dsimp only
  refine wpAny_bind (L1.here ?_)
  rw [hd]
  refine wpAny_pure ?_
  exact store_in D hl e1 e' hf hz h
theorem exc_setOf {prog : Program} {w : World} {A : Around} {E : Value → Shared → Prop} {Q : Unit → Shared → Prop} {s : Shared} {e : Addr} {o : Obj} {name : Str} {v : Value} (X : (KK w.params).In s.heap)
    (he : s.heap.get? e = some o) (hc : o.cls = .ref 83) (hn : findIn (KK w.params) (.ref 83) name = some none)
    (h : ∀ A' (Q9 : Fin → Shared → Prop) E9, (∀ s', Q () s' → Q9 (.done (.ret .none)) s') → wpAny (model prog w) A' (storeInOwnDict (.ref e) (.ref 83) (.str name s.toks) name v false) Q9 E9 { s with toks := s.toks + 1 }) :
    wpAny (model prog w) A (setAttr (.ref e) name v) Q E s := by
  have SF := PySem.F.store_object
  have t0 : Looks (model prog w) s.heap (typeOf (.ref e)) (.ref 83) := hc ▸ (Looks.ld he).andThen .now
  have l1 : Looks (model prog w) s.heap (typeLookup (.ref 83) "__setattr__") (some (.builtin "object.__setattr__")) := looks_findIn X (by kernel_rfl)
  unfold setAttr
  refine wpAny_bind (wpAny_mkText ?_)
  refine wpAny_bind ?_
  unfold callSpecial? specialOf
  refine wpAny_bind (wpAny_bind (t0 _ _ _ _ (fun _ _ q => q) (l1 _ _ _ _ (fun _ _ q => q) ?_)))
  dsimp only
  refine wpAny_holding ?_
  rw [SF.slot.bind (.ref e)]
  refine wpAny_bind (wpAny_pure (wpAny_bind (wpAny_call (exc_osa (s := { s with toks := s.toks + 1 }) X he hc hn (h _ _ _ fun s' q => ?_)))))
  exact wpAny_pure (wpAny_pure q)
/-- a field is laid on a Thrown: the first, and a further one -/
theorem exc_set0 {prog : Program} {w : World} {A : Around} {E : Value → Shared → Prop} {Q : Unit → Shared → Prop} {s : Shared} {e : Addr} {fs : Array Value} {name : Str} {v : Value} (X : (KK w.params).In s.heap)
    (he : s.heap.get? e = some { cls := .ref 83, dict := none, data := .fields fs }) (hn : findIn (KK w.params) (.ref 83) name = some none)
    (h : ∀ h' d tk t, d = s.heap.objs.size → h'.get? e = some { cls := .ref 83, dict := some d, data := .fields fs } → h'.get? d = some { cls := .type "dict", data := .dict #[⟨PyData.keyHash w.params name, .str name t, v⟩] 1 } → (∀ b o, b ≠ e → s.heap.get? b = some o → h'.get? b = some o) → Q () { s with heap := h', toks := tk }) :
    wpAny (model prog w) A (setAttr (.ref e) name v) Q E s :=
  exc_setOf X he rfl hn fun _ _ _ hR => exc_store0 (s := { s with toks := s.toks + 1 }) X he fun h' d e1 e2 e3 e4 => hR _ (h h' d _ _ e1 e2 e3 e4)
theorem exc_set1 {prog : Program} {w : World} {A : Around} {E : Value → Shared → Prop} {Q : Unit → Shared → Prop} {s : Shared} {e dx : Addr} {fs : Array Value} {name : Str} {v : Value} {od : Obj} {od' : Tok → Obj} {es : Tok → List DictEntry} {n : Nat} (X : (KK w.params).In s.heap)
    (he : s.heap.get? e = some { cls := .ref 83, dict := some dx, data := .fields fs }) (D : s.heap.get? dx = some od) (hn : findIn (KK w.params) (.ref 83) name = some none)
    (hl : (lookIn name od).isSome = true) (e1 : ∀ t, Obj.putName name (PyData.keyHash w.params name) (.str name t) v od = od' t) (e' : ∀ t, (od' t).data = .dict (es t).toArray n) (hf : ∀ t, (od' t).isFreed = false) (hz : ∀ t, (es t).length ≤ 1000)
    (h : ∀ h' tk t, h'.get? dx = some (od' t) → (∀ b, b ≠ dx → h'.get? b = s.heap.get? b) → Q () { s with heap := h', toks := tk }) :
    wpAny (model prog w) A (setAttr (.ref e) name v) Q E s :=
  exc_setOf X he rfl hn fun _ _ _ hR => exc_store1 (s := { s with toks := s.toks + 1 }) X he D hl (e1 _) (e' _) (hf _) (hz _) fun h' d1 d2 => hR _ (h h' _ _ d1 d2)
end
end Mine
namespace Mine
section
open PySem PySem.Spec PySem.Calls PySem.W PyProof.Rows
section
variable {prog : Program} {w : World} {A : Around} {E : Value → Shared → Prop} {s : Shared} {h₀ : Heap} {L e : Addr} {m : Str → Option Value} {rest : List (Addr × Obj)}
theorem new_lt {q : Addr × Obj} (N : News h₀ L s.heap rest) (hq : q ∈ rest) : q.1 < s.heap.objs.size := Heap.lt_size (N q hq).1
theorem fresh_none (F : Fr h₀ L s.heap m) : s.heap.objs.size ≠ L ∧ h₀.get? s.heap.objs.size = none := by
  refine fresh_off F ?_
  cases e : s.heap.get? s.heap.objs.size with
  | none => rfl
  | some o => exact absurd (Heap.lt_size e) (Nat.lt_irrefl _)
/-- the ledger behind a change at e -/
theorem ledger_but {h' : Heap} {oe oe' : Obj} (F : Fr h₀ L s.heap m) (N : News h₀ L s.heap ((e, oe) :: rest)) (ho : ∀ q ∈ rest, (@Ne Nat q.1 e)) (he : h'.get? e = some oe') (kp : ∀ b o, b ≠ e → s.heap.get? b = some o → h'.get? b = some o) :
    Fr h₀ L h' m ∧ News h₀ L h' ((e, oe') :: rest) := by
  obtain ⟨h1, h2, h3⟩ := N _ (.head _)
  refine ⟨fr_butw F (wr := [e]) (fun b o hb hbo => kp b o (fun z => hb (z ▸ .head _)) hbo) (fun z => h2 (List.mem_singleton.mp z).symm) (fun b hb => List.mem_singleton.mp hb ▸ h3), fun q hq => ?_⟩
  rcases List.mem_cons.mp hq with rfl | hq
  · exact ⟨he, h2, h3⟩
  · exact ⟨kp _ _ (ho q hq) (N q (.tail _ hq)).1, (N q (.tail _ hq)).2⟩
theorem ledger_new {h' : Heap} {o : Obj} {led : List (Addr × Obj)} (F : Fr h₀ L s.heap m) (N : News h₀ L h' led) (hn : h'.get? s.heap.objs.size = some o) : News h₀ L h' ((s.heap.objs.size, o) :: led) := fun q hq => by
  rcases List.mem_cons.mp hq with rfl | hq
  · exact ⟨hn, fresh_none F⟩
  · exact N q hq
theorem kx_init {a : Addr} {v : Value} {dd : Option Addr} {Q : Value → Shared → Prop} (F : Fr h₀ L s.heap m) (X : (KK w.params).In h₀) (N : News h₀ L s.heap ((e, excN (.ref a) dd) :: rest)) (ho : ∀ q ∈ rest, (@Ne Nat q.1 e))
    (h : ∀ h' n, Fr h₀ L h' m → News h₀ L h' ((n, tupO [v] 0) :: (e, excN (.ref n) dd) :: rest) → (∀ q ∈ (e, excN (.ref a) dd) :: rest, q.1 < n) → Q .none { s with heap := h' }) :
    wpAny (model prog w) A (call (.builtin "Exception.__init__") [.ref e, v]) Q E s := by
  refine exc_init (X.keeps F.keep) (N _ (.head _)).1 fun h' n en he hn kp => ?_
  subst en
  obtain ⟨F', N'⟩ := ledger_but F N ho he kp
  exact h h' _ F' (ledger_new F N' hn) fun q hq => new_lt N hq
theorem kx_set0 {fs : Array Value} {name : Str} {v : Value} {Q : Unit → Shared → Prop} (F : Fr h₀ L s.heap m) (X : (KK w.params).In h₀) (N : News h₀ L s.heap ((e, { cls := .ref 83, dict := none, data := .fields fs }) :: rest)) (ho : ∀ q ∈ rest, (@Ne Nat q.1 e))
    (hn : findIn (KK w.params) (.ref 83) name = some none)
    (h : ∀ h' d tk t, Fr h₀ L h' m → News h₀ L h' ((d, { cls := .type "dict", data := .dict #[⟨PyData.keyHash w.params name, .str name t, v⟩] 1 }) :: (e, { cls := .ref 83, dict := some d, data := .fields fs }) :: rest) → (@LT.lt Nat _ e d) → (∀ q ∈ rest, q.1 < d) → Q () { s with heap := h', toks := tk }) :
    wpAny (model prog w) A (setAttr (.ref e) name v) Q E s := by
  refine exc_set0 (X.keeps F.keep) (N _ (.head _)).1 hn fun h' d tk t ed he hd kp => ?_
  subst ed
  obtain ⟨F', N'⟩ := ledger_but F N ho he kp
  exact h h' _ tk t F' (ledger_new F N' hd) (new_lt N (.head _)) fun q hq => new_lt N (.tail _ hq)
theorem kx_set1 {dx : Addr} {fs : Array Value} {name : Str} {v : Value} {Q : Unit → Shared → Prop} {od : Obj} {od' : Tok → Obj} {es : Tok → List DictEntry} {n : Nat} (F : Fr h₀ L s.heap m) (X : (KK w.params).In h₀)
    (N : News h₀ L s.heap ((dx, od) :: (e, { cls := .ref 83, dict := some dx, data := .fields fs }) :: rest)) (hed : (@Ne Nat e dx)) (ho : ∀ q ∈ rest, (@Ne Nat q.1 dx))
    (hn : findIn (KK w.params) (.ref 83) name = some none)
    (hl : (lookIn name od).isSome = true) (e1 : ∀ t, Obj.putName name (PyData.keyHash w.params name) (.str name t) v od = od' t) (e' : ∀ t, (od' t).data = .dict (es t).toArray n) (hf : ∀ t, (od' t).isFreed = false) (hz : ∀ t, (es t).length ≤ 1000)
    (h : ∀ h' tk t, Fr h₀ L h' m → News h₀ L h' ((dx, od' t) :: (e, { cls := .ref 83, dict := some dx, data := .fields fs }) :: rest) → Q () { s with heap := h', toks := tk }) :
    wpAny (model prog w) A (setAttr (.ref e) name v) Q E s := by
  refine exc_set1 (X.keeps F.keep) (N _ (.tail _ (.head _))).1 (N _ (.head _)).1 hn hl e1 e' hf hz fun h' tk t hd kp => ?_
  obtain ⟨F', N'⟩ := ledger_but F N (List.forall_mem_cons.mpr ⟨hed, ho⟩) hd fun b o hb hbo => (kp b hb).trans hbo
  exact h h' tk t F' N'
end
end
end Mine
namespace Mine
section
open PySem PySem.Spec PySem.Calls PySem.W PyProof.Rows Builtin Builtin.ObjectAttr
theorem exc_newK {prog : Program} {w : World} {A : Around} {R : Result → Shared → Prop} {h : Heap} {g : Array GenState} {d : Drawn} {t : Nat} {os : OsState} {v oc : Value} {od : Option Addr} {sl : Array (Option Value)} {cd : ClassData} (hdel : cd.hasDel = false) (hC : h.get? 83 = some ⟨oc, od, .cls cd, sl⟩) (X : (KK w.params).In h) (hc : clsIn (KK w.params) 83 = some cd)
    (made : Looks (model prog w) h (Bind.madeBy (.ref 83)) (some "Exception.__new__")) (base : Looks (model prog w) h (Bind.staticBase (.ref 83)) (.ref 83))
    (hq : R (.ok (.ret (.ref (h.objs.size + 1)))) ⟨(h.push { cls := .type "tuple", data := .seq #[v] }).push (excN (.ref h.objs.size) none), g, d, t, os⟩) :
    codeAny (model prog w) A (.call (.builtin "Exception.__new__") ⟨[.ref 83, v], []⟩) R ⟨h, g, d, t, os⟩ := by
  have F := PySem.F.excCall_Exception
  have L1 := looks_clsIn (M := model prog w) X hc
  have s1 : Looks (model prog w) h (isSubtype (.ref 83) (.type "Exception")) true := looks_mroIn X (by kernel_rfl)
  have typ : Looks (model prog w) h (isInstance (.ref 83) (.type "type")) true := looks_instIn X (by kernel_rfl)
  refine codeAny_call_builtin_code (Code.quiet_builtin _ F.quiet) ?_
  have k1 : builtinKind "Exception.__new__" = some .builtinFn := by kernel_rfl
  have k2 : splitId "Exception.__new__" = some ("Exception", "__new__") := by kernel_rfl
  have k3 : Manifest.signature? "Exception.__new__" = some ⟨.any, "Exception", "Exception", .cls, [⟨"args", .varPos, false⟩, ⟨"kwargs", .varKw, false⟩]⟩ := by kernel_rfl
  have args : Bind.checkArgs "Exception.__new__" ⟨.any, "Exception", "Exception", .cls, [⟨"args", .varPos, false⟩, ⟨"kwargs", .varKw, false⟩]⟩ ⟨[.ref 83, v], []⟩ = pure () := by kernel_rfl
  simp only [checkBuiltinCall, k1, k2, k3]
  rw [args]
  repeat (first | simp only [bne_self_eq_false, beq_self_eq_true, Bool.false_eq_true, if_false, if_true, Bool.not_true] | lk)
  refine codeAny_builtinAt F.entry ?_
  unfold Builtin.«BaseException.__new__»
  refine PySem.wpAt_bind ?_
  show PySem.wpAt _ _ _ (stack >>= _) _ _ _
  refine PySem.wpAt_bind (PySem.wpAt_stack fun p below => PySem.wpAt_of_wpAny ?_)
  dsimp only
  rw [if_pos F.ends]
  refine wpAny_pure (PySem.wpAt_of_wpAny ?_)
  rw [F.owner]
  have a1 : Looks (model prog w) h (isSubtype (.ref 83) (.type "AttributeError")) false := looks_mroIn X (by kernel_rfl)
  have a2 : Looks (model prog w) h (isSubtype (.ref 83) (.type "NameError")) false := looks_mroIn X (by kernel_rfl)
  have here : Looks (model prog w) h (Bind.madeHere "BaseException.__new__" (.ref 83)) () := base.andThen (made.andThen (Looks.of_pure (by kernel_rfl)))
  repeat (first | simp only [beq_self_eq_true, Bool.false_eq_true, if_false, if_true, Bool.not_true] | lk)
  refine nd_load (Heap.get?_push_of_some _ (Heap.get?_push_of_some _ hC)) ?_
  refine wpAny_pure ?_
  show wpAny _ _ (pure cd.hasDel) _ _ _
  rw [hdel]
  refine wpAny_pure ?_
  rw [if_neg Bool.false_ne_true]
  refine wpAny_pure (wpAny_pure ?_)
  show R _ _
  rw [Heap.size_push]
  exact hq
end
end Mine
namespace Mine
section
open PySem PySem.Spec PySem.Calls PySem.W PyProof.Rows Builtin Builtin.ObjectAttr
section
variable {prog : Program} {w : World} {A : Around} {R : Result → Shared → Prop} {h : Heap} {g : Array GenState} {d : Drawn} {t : Nat} {os : OsState}
theorem exc_obj (P : Params) : (match (KK P).lookup 83 with | some ⟨_, _, .cls cd, _⟩ => !cd.hasDel && !cd.mro.isEmpty | _ => false) = true := by kernel_rfl
theorem exc_slot (P : Params) : (match (KK P).lookup 83 with | some ⟨_, _, _, sl⟩ => (sl.toList[4]?).join | none => none) = some (.builtin "Exception.__new__") := by kernel_rfl
theorem exc_core {v : Value} (X : (KK w.params).In h) (hh : A.handled = none) (hde : A.depth + 105 < recursionLimit) (hu : A.units + 905 < cLine)
    (hq : ∀ e t0 h' tk', (∀ b o, h.get? b = some o → h'.get? b = some o) → (h'.get? e = some (excN (.ref t0) none) ∧ h.get? e = none) →
      codeAny (model prog w) (A.under (.builtin "type.__call__" ⟨[.ref 83, v], []⟩)) (.call (.ref 80) ⟨[.ref e, v], []⟩) (InitBack e R) ⟨h', g, d, tk', os⟩) :
    codeAny (model prog w) A (.call (.ref 83) ⟨[v], []⟩) R ⟨h, g, d, t, os⟩ := by
  have ho := exc_obj w.params
  have hs := exc_slot w.params
  cases hK : (KK w.params).lookup 83 with
  | none => rw [hK] at ho; cases ho
  | some o =>
  obtain ⟨oc, od, dat, sl⟩ := o
  rw [hK] at ho hs
  cases dat with
  | cls cd =>
    dsimp only at ho hs
    simp only [Bool.and_eq_true, Bool.not_eq_true'] at ho
    obtain ⟨e1, e4⟩ := ho
    have hC := X _ _ hK
    have hc : clsIn (KK w.params) 83 = some cd := by unfold clsIn; rw [hK]
    have hm : Looks (model prog w) h (mroOf (.ref 83)) cd.mro := (looks_clsIn X hc).andThen .now
    have call : Looks (model prog w) h (specialOf (.ref 83) "__call__") (some (.builtin "type.__call__")) := looks_specialIn X (by kernel_rfl)
    have typ : Looks (model prog w) h (isInstance (.ref 83) (.type "type")) true := looks_instIn X (by kernel_rfl)
    obtain ⟨c, l, hl⟩ : ∃ c l, cd.mro = c :: l := by cases q : cd.mro with | nil => rw [q] at e4; cases e4 | cons c l => exact ⟨c, l, rfl⟩
    have made : Looks (model prog w) h (Bind.madeBy (.ref 83)) (some "Exception.__new__") := by
      intro A Q E s k q
      unfold Bind.madeBy
      refine wpAny_bind (hm A _ E s k ?_)
      rw [hl, List.forIn_cons]
      refine wpAny_bind (wpAny_bind (wpAny_bind (wpAny_bind (wpAny_loadPart (k _ _ hC) (wpAny_pure ?_)))))
      dsimp only
      rw [← Array.getElem?_toList, hs]
      exact wpAny_pure (wpAny_pure (wpAny_pure q))
    refine codeAny_of_tree ?_
    show wpAny _ _ (callAny (.ref 83) _) _ _ _
    refine nd_load hC ?_
    show wpAny _ _ (callAny.viaDunder (.ref 83) _) _ _ _
    unfold callAny.viaDunder
    refine wpAny_bind (call.at ?_)
    dsimp only
    rw [tc_bind]
    refine wpAny_bind (wpAny_pure (wpAny_bind (wpAny_pure ?_)))
    refine wpAny_pure (a := Fin.again (.call (.builtin "type.__call__") ⟨[.ref 83, v], []⟩)) (And.intro rfl ?_)
    refine codeAny_call_builtin_at (Code.quiet_builtin _ (by decide +kernel)) entry_typeCall (check_slot tc_kind tc_split typ (tc_args _ _ _) ?_)
    unfold Builtin.«type.__call__»
    repeat (first | simp only [e4, Bool.false_eq_true, if_false] | ((fail_if_success (with_reducible show wpAny _ _ (PySem.call _ _ _) _ _ _)); lk))
    have base : Looks (model prog w) h (Bind.staticBase (.ref 83)) (.ref 83) := by
      intro A Q E s k q
      unfold Bind.staticBase
      refine wpAny_bind (hm A _ E s k ?_)
      rw [hl, List.forIn_cons]
      exact wpAny_bind (wpAny_bind (wpAny_bind (made A _ E s k (wpAny_pure (wpAny_pure (wpAny_pure q))))))
    refine wpAny_call (exc_newK e1 hC X hc made base ?_)
    have kp : ∀ b o, h.get? b = some o → ((h.push { cls := .type "tuple", data := .seq #[v] }).push (excN (.ref h.objs.size) none)).get? b = some o := fun b o q => Heap.get?_push_of_some _ (Heap.get?_push_of_some _ q)
    have he : ((h.push { cls := .type "tuple", data := .seq #[v] }).push (excN (.ref h.objs.size) none)).get? (h.objs.size + 1) = some (excN (.ref h.objs.size) none) ∧ h.get? (h.objs.size + 1) = none :=
      ⟨by heap_get, Heap.get?_none_of_le (Nat.le_succ _)⟩
    have X' := X.keeps kp
    have t1 : Looks (model prog w) _ (typeOf (.ref (h.objs.size + 1))) (.ref 83) := (Looks.ld he.1).andThen .now
    have s1 : Looks (model prog w) _ (isSubtype (.ref 83) (.ref 83)) true := looks_mroIn X' (by kernel_rfl)
    have i1 : Looks (model prog w) _ (typeLookup (.ref 83) "__init__") (some (.ref 80)) := looks_findIn X' (by kernel_rfl)
    have b1 : Looks (model prog w) _ (bindSpecial (.ref 80) (.ref (h.objs.size + 1))) (.ref 80, [.ref (h.objs.size + 1)]) := bind_fn X' _ (by kernel_rfl)
    unfold isInstance callSpecial? specialOf
    repeat (first | with_reducible refine wpAny_call ?_ | lk)
    refine codeAny_mono (hq _ _ _ _ kp he) fun r s' z => ?_
    rcases r with e | (v | _ | _ | _) <;> first | exact z | exact z.elim | skip
    obtain ⟨rfl, z⟩ := z
    exact wpAny_pure (wpAny_pure z)
  | _ => cases ho
end
end
end Mine
namespace Mine
section
open PySem PySem.Spec PySem.Calls PySem.W PyProof.Rows
theorem value_call {prog : Program} {w : World} {A : Around} {s : Shared} {v : Value} {e dx : Addr} {t₁ t₂ t₃ t₄ tk : Tok} {Q E : Value → Shared → Prop} {ws : Array Value} {sl : Array (Option Value)} (X : (KK w.params).In s.heap)
    (he : s.heap.get? e = some { cls := .ref 83, dict := some dx, data := .fields ws, slots := sl }) (hdx : s.heap.get? dx = some (thrD (hS w (Str.ofString "message")) (hS w (Str.ofString "spot")) (hS w (Str.ofString "value")) t₁ t₂ t₃ t₄ v)) (hQ : ValQ s v Q)
    (hn : findIn (KK w.params) (.ref 83) (Str.ofString "value") = some none) :
    wpAny (model prog w) A (call (.builtin "BaseException.__getattribute__") [.ref e, .str (Str.ofString "value") tk]) Q E s := by
  have t0 : Looks (model prog w) s.heap (typeOf (.ref e)) (.ref 83) := (Looks.ld he).andThen .now
  have sub : Looks (model prog w) s.heap (isInstance (.ref e) (.type "BaseException")) true := t0.andThen (looks_mroIn X (by kernel_rfl))
  have hk : builtinKind "BaseException.__getattribute__" = some .slot := by decide +kernel
  have hsplit : splitId "BaseException.__getattribute__" = some ("BaseException", "__getattribute__") := by decide +kernel
  have l1 : Looks (model prog w) s.heap (typeLookup (.ref 83) (Str.ofString "value")) none := looks_findIn X hn
  refine wpAny_call (codeAny_call_builtin F.excAttr_ValueError.ga.plain F.entry_bexc_ga (@check_slot (model prog w) _ _ s "BaseException.__getattribute__" "BaseException" "__getattribute__" (.ref e) [.str (Str.ofString "value") tk] [] _ hk hsplit sub (F.args_bexc_ga _ _) ?_))
  obtain ⟨cd, hcd, hd⟩ : ∃ cd, clsIn (KK w.params) 83 = some cd ∧ cd.hasDict = true := by
    have : (clsIn (KK w.params) 83).any (·.hasDict) = true := by kernel_rfl
    exact any_some this
  have L1 := looks_clsIn (M := model prog w) X hcd
  have hd' : (!cd.hasDict) = false := by rw [hd]; rfl
  obtain ⟨hp, g, d, t, os⟩ := s
  unfold Builtin.«object.__getattribute__»
  repeat (any_goals (first | assumption | lk | wp_step))
  · exact hQ hp t (fun _ _ e => e)
end
end Mine
namespace Mine
open PySem PySem.Spec PySem.Calls PySem.W PyProof.Rows
local macro_rules | `(tactic| walk_at "execs cons") => `(tactic| ((show wpAny _ _ _ _ _ _); k_fold; (change let ak := _; wpAny _ ak _ _ _ _); intro ak))
local macro_rules | `(tactic| k_room) => `(tactic| ktr_room)
local macro_rules | `(tactic| x_close) => `(tactic| ((iterate 30 (first | done | assumption | apply And.right)); done))
local macro_rules | `(tactic| walk_report) => `(tactic| with_reducible first | assumption | (apply And.left; x_close))
local macro_rules | `(tactic| k_slotget) => `(tactic| with_reducible first | x_close | (refine Nat.lt_trans ?_ (by assumption); walk_report) | (apply Nat.lt_succ_of_lt; walk_report))
local macro_rules | `(tactic| k_ne) => `(tactic| ((try dsimp only); with_reducible first | (apply Nat.ne_of_lt; walk_report) | (apply Nat.ne_of_gt; walk_report) | walk_report | (apply Ne.symm; walk_report) | (apply Nat.ne_of_lt; k_slotget) | (apply Nat.ne_of_gt; k_slotget)))
local macro_rules | `(tactic| ktr_room) => `(tactic| k_dflt (first | exact lim0 (by assumption) | exact lim1 (by assumption) (by decide) | exact lim2 (by assumption) (by decide) | exact lim3 (by assumption) (by decide) | exact lim4 (by assumption) (by decide) | exact lim5 (by assumption) (by decide) | fail "lim"))
local macro_rules | `(tactic| ktr_units) => `(tactic| ktr_room)
local macro_rules | `(tactic| k_all) => `(tactic| assumption)
local macro_rules | `(tactic| walk_at "call ref") => `(tactic| with_reducible refine hold_at (by assumption) ?_)
local macro_rules | `(tactic| walk_at $k:str) => `(tactic| with_reducible refine hold_key $k (by assumption) ?_)
local macro_rules | `(tactic| walk_at "call type:tuple") => `(tactic| k_dflt (refine tupleK (by k_asm) (by k_asm) (by k_is) ?_))
section
open PySem PySem.W PyProof.Rows

theorem fdiv_nn {x k : Int} (hx : 0 ≤ x) (hk : 0 < k) : 0 ≤ x.fdiv k := by
  rw [Int.fdiv_eq_ediv_of_nonneg x (Int.le_of_lt hk)]; exact Int.ediv_nonneg hx (Int.le_of_lt hk)

theorem c_digit {w : World} {dp un : Nat} {gd : Option (List Code)} {cn : Str} {cs : Scope} {a : Addr} {ccd : Value} {cl : List (Str × Addr)} {outer : List Env} {A₀ : Around} {base h₀ : Heap} {L : Addr} {m mg mb : Str → Option Value} {mean : ExcName → Option Value} {rest : List (Addr × Obj)} {s : Shared} {l : Addr} {x y k : Int} {tx ty tk : Tok} {n : Nat} {Q E : Value → Shared → Prop}
    (B : Below A₀ base outer h₀) (F : Fr h₀ L s.heap m) (X : (KK w.params).In h₀) (N : News h₀ L s.heap ((l, listOf #[.int x tx, .int y ty] n) :: rest)) (ho : ∀ p ∈ rest, p.1 ≠ l) (T : Top topProg LL mean mg mb h₀) (hk : cs.kind = .function) (hdp : dp + 1 < recursionLimit) (hun : un + 100 < cLine)
    (hx : 0 ≤ x) (hy : 0 ≤ y) (hy' : y < 2147483700) (hk0 : 2 ≤ k) (hk5 : k ≤ 5)
    (ret : ∀ r tr x' y' tx' ty' n' h' tk', 0 ≤ r → r < k → 0 ≤ x' → 0 ≤ y' → y' < 2147483700 → Fr h₀ L h' m → News h₀ L h' ((l, listOf #[.int x' tx', .int y' ty'] n') :: rest) → Q (.int r tr) { s with heap := h', toks := tk' }) :
    wpAny (model PySem.Challenge.rw_sf0048_01.row.prog w) (ktrTop dp un gd cn cs L a ccd cl outer) (call (.ref 888) [.ref l, .int k tk]) Q E s := by
  revert X; (w_top off; k_fill); intro X
  refine wpAny_call ?_
  k_dflt ktr_enter
  k_steps
  all_goals (refine ret _ _ _ _ _ _ _ _ _ ?_ ?_ ?_ ?_ ?_ (by assumption) (by assumption))
  all_goals first | assumption | exact Int.fmod_nonneg_of_pos _ (by omega) | exact Int.fmod_lt_of_pos _ (by omega) | exact fdiv_nn hx (by omega) | exact Int.lt_trans (Int.fmod_lt_of_pos _ (by decide)) (by decide)
end
section
open PySem PySem.Spec PySem.Calls PySem.W PyProof.Rows
theorem up_sw {a b : Addr × Obj} {l : List (Addr × Obj)} : ∀ q ∈ a :: b :: l, q ∈ b :: a :: l := fun q hq => by
  rcases List.mem_cons.mp hq with rfl | hq
  · exact .tail _ (.head _)
  · rcases List.mem_cons.mp hq with rfl | hq
    · exact .head _
    · exact .tail _ (.tail _ hq)
theorem rot3 {a b c : Addr × Obj} {l : List (Addr × Obj)} : ∀ q ∈ a :: b :: c :: l, q ∈ c :: a :: b :: l := fun q hq => by
  rcases List.mem_cons.mp hq with rfl | hq
  · exact .tail _ (.head _)
  · rcases List.mem_cons.mp hq with rfl | hq
    · exact .tail _ (.tail _ (.head _))
    · rcases List.mem_cons.mp hq with rfl | hq
      · exact .head _
      · exact .tail _ (.tail _ (.tail _ hq))
theorem kx_spot {prog : Program} {w : World} {A : Around} {E : Value → Shared → Prop} {s : Shared} {h₀ : Heap} {L e : Addr} {m : Str → Option Value} {rest : List (Addr × Obj)} {dx : Addr} {fs : Array Value} {M v : Value} {t : Tok} {Q : Unit → Shared → Prop} (F : Fr h₀ L s.heap m) (X : (KK w.params).In h₀)
    (N : News h₀ L s.heap ((dx, { cls := .type "dict", data := .dict #[⟨PyData.keyHash w.params (Str.ofString "message"), .str (Str.ofString "message") t, M⟩] 1 }) :: (e, { cls := .ref 83, dict := some dx, data := .fields fs }) :: rest)) (hed : (@Ne Nat e dx)) (ho : ∀ q ∈ rest, (@Ne Nat q.1 dx))
    (h : ∀ h' tk t', Fr h₀ L h' m → News h₀ L h' ((dx, { cls := .type "dict", data := .dict #[⟨PyData.keyHash w.params (Str.ofString "message"), .str (Str.ofString "message") t, M⟩, ⟨PyData.keyHash w.params (Str.ofString "spot"), .str (Str.ofString "spot") t', v⟩] 2 }) :: (e, { cls := .ref 83, dict := some dx, data := .fields fs }) :: rest) → Q () { s with heap := h', toks := tk }) :
    wpAny (model prog w) A (setAttr (.ref e) (Str.ofString "spot") v) Q E s :=
  kx_set1 (od' := fun t' => { cls := .type "dict", data := .dict #[⟨PyData.keyHash w.params (Str.ofString "message"), .str (Str.ofString "message") t, M⟩, ⟨PyData.keyHash w.params (Str.ofString "spot"), .str (Str.ofString "spot") t', v⟩] 2 })
    (es := fun t' => [⟨PyData.keyHash w.params (Str.ofString "message"), .str (Str.ofString "message") t, M⟩, ⟨PyData.keyHash w.params (Str.ofString "spot"), .str (Str.ofString "spot") t', v⟩]) (n := 2)
    F X N hed ho (by kernel_rfl) (by kernel_rfl) (fun _ => by kernel_rfl) (fun _ => rfl) (fun _ => rfl) (fun _ => by simp) h
theorem kx_value {prog : Program} {w : World} {A : Around} {E : Value → Shared → Prop} {s : Shared} {h₀ : Heap} {L e : Addr} {m : Str → Option Value} {rest : List (Addr × Obj)} {dx : Addr} {fs : Array Value} {M S v : Value} {t u : Tok} {Q : Unit → Shared → Prop} (F : Fr h₀ L s.heap m) (X : (KK w.params).In h₀)
    (N : News h₀ L s.heap ((dx, { cls := .type "dict", data := .dict #[⟨PyData.keyHash w.params (Str.ofString "message"), .str (Str.ofString "message") t, M⟩, ⟨PyData.keyHash w.params (Str.ofString "spot"), .str (Str.ofString "spot") u, S⟩] 2 }) :: (e, { cls := .ref 83, dict := some dx, data := .fields fs }) :: rest)) (hed : (@Ne Nat e dx)) (ho : ∀ q ∈ rest, (@Ne Nat q.1 dx))
    (h : ∀ h' tk t', Fr h₀ L h' m → News h₀ L h' ((dx, { cls := .type "dict", data := .dict #[⟨PyData.keyHash w.params (Str.ofString "message"), .str (Str.ofString "message") t, M⟩, ⟨PyData.keyHash w.params (Str.ofString "spot"), .str (Str.ofString "spot") u, S⟩, ⟨PyData.keyHash w.params (Str.ofString "value"), .str (Str.ofString "value") t', v⟩] 3 }) :: (e, { cls := .ref 83, dict := some dx, data := .fields fs }) :: rest) → Q () { s with heap := h', toks := tk }) :
    wpAny (model prog w) A (setAttr (.ref e) (Str.ofString "value") v) Q E s :=
  kx_set1 (od' := fun t' => { cls := .type "dict", data := .dict #[⟨PyData.keyHash w.params (Str.ofString "message"), .str (Str.ofString "message") t, M⟩, ⟨PyData.keyHash w.params (Str.ofString "spot"), .str (Str.ofString "spot") u, S⟩, ⟨PyData.keyHash w.params (Str.ofString "value"), .str (Str.ofString "value") t', v⟩] 3 })
    (es := fun t' => [⟨PyData.keyHash w.params (Str.ofString "message"), .str (Str.ofString "message") t, M⟩, ⟨PyData.keyHash w.params (Str.ofString "spot"), .str (Str.ofString "spot") u, S⟩, ⟨PyData.keyHash w.params (Str.ofString "value"), .str (Str.ofString "value") t', v⟩]) (n := 3)
    F X N hed ho (by kernel_rfl) (by kernel_rfl) (fun _ => by kernel_rfl) (fun _ => rfl) (fun _ => rfl) (fun _ => by simp) h
theorem c_init {w : World} {dp un : Nat} {gd : Option (List Code)} {cn : Str} {cs : Scope} {a : Addr} {ccd : Value} {cl : List (Str × Addr)} {outer : List Env} {A₀ : Around} {base h₀ : Heap} {L : Addr} {m mg mb : Str → Option Value} {mean : ExcName → Option Value} {rest : List (Addr × Obj)} {s : Shared} {R : Result → Shared → Prop} {e t0 : Addr} {v : Value}
    (B : Below A₀ base outer h₀) (F : Fr h₀ L s.heap m) (X : (KK w.params).In h₀) (N : News h₀ L s.heap ((e, excN (.ref t0) none) :: rest)) (ho : ∀ q ∈ rest, (@Ne Nat q.1 e)) (T : Top topProg LL mean mg mb h₀) (hk : cs.kind = .function) (hdp : dp + 104 < recursionLimit) (hun : un + 950 < cLine)
    (ret : ∀ dx t h' tk' t₁ t₂ t₃ t₄ t₅, (@LT.lt Nat _ e t) → (@LT.lt Nat _ t dx) → (∀ q ∈ rest, q.1 < t) → Fr h₀ L h' m → News h₀ L h' ((e, excN (.ref t) (some dx)) :: (t, tupO (msgT t₅) 0) :: (dx, thrD (PyData.keyHash w.params (Str.ofString "message")) (PyData.keyHash w.params (Str.ofString "spot")) (PyData.keyHash w.params (Str.ofString "value")) t₁ t₂ t₃ t₄ v) :: rest) → R (.ok (.ret .none)) { s with heap := h', toks := tk' }) :
    codeAny (model PySem.Challenge.rw_sf0048_01.row.prog w) (ktrTop dp un gd cn cs L a ccd cl outer) (.call (.ref 80) ⟨[.ref e, v], []⟩) R s := by
  have XX := X
  revert X; (w_top off; k_fill); intro X
  have hm0 : HKey "setAttr ref" := .mk
  obtain ⟨kind, names, gen, coro, more⟩ := cs
  cases hk
  k_dflt k_enter
  k_steps
  (rename Frag.In _ _ => x9)
  (rename Fr _ _ _ _ => f9)
  refine exc_get (x9.keeps f9.keep) rfl (by ktr_room) (by ktr_units) fun tk => ?_
  k_steps
  (rename News _ _ _ _ => n9)
  refine kx_init (by k_asm) (by k_asm) n9 ho ?_
  intro h' n F' N' l1
  k_lt l1
  clear n9
  k_steps
  with_reducible refine hold_un ?_
  (rename News _ _ _ _ => n9)
  refine kx_set0 (rest := (n, _) :: rest) (by k_asm) (by k_asm) (fun q hq => n9 q (up_sw q hq)) (List.forall_mem_cons.mpr ⟨(Nat.ne_of_lt l1.1).symm, ho⟩) (by kernel_rfl) ?_
  intro h' d tk t F' N' l2 l3
  clear n9
  k_steps
  with_reducible refine hold_un ?_
  (rename News _ _ _ _ => n9)
  refine kx_spot (rest := (n, _) :: rest) (by k_asm) (by k_asm) n9 (Nat.ne_of_lt l2) (fun q hq => Nat.ne_of_lt (l3 q hq)) ?_
  intro h' tk t2 F' N'
  clear n9
  k_steps
  with_reducible refine hold_un ?_
  (rename News _ _ _ _ => n9)
  refine kx_value (rest := (n, _) :: rest) (by k_asm) (by k_asm) n9 (Nat.ne_of_lt l2) (fun q hq => Nat.ne_of_lt (l3 q hq)) ?_
  intro h' tk t3 F' N'
  clear n9
  k_steps
  (rename News h₀ L _ _ => n9)
  exact ret d n _ _ t _ t2 t3 _ l1.1 (l3 _ (.head _)) (tb_ltOf l1.2) (by k_asm) (fun q hq => n9 q (rot3 q hq))
theorem cond_is {α : Type} (b : Bool) (x y : α) : PySem.W.X.condFn α b x y = if b = true then x else y := by cases b <;> rfl
theorem hk_eq (w : World) (x : Str) (hne : x.cps.isEmpty = false) : PyData.keyHash w.params x = hS w x := by
  unfold PyData.keyHash hS
  delta PySem.W.XFast.xw12210062019545310541
  rw [hne, if_neg Bool.false_ne_true]
  generalize w.params.strHash x.cps = i
  simp only [cond_is]
  unfold reduceHash
  simp only [Bool.and_eq_true, decide_eq_true_eq]
  rw [show @PySem.W.X.eqQ = Int.instDecidableEq from by funext a b; exact Subsingleton.elim _ _]
  first | rfl | (split <;> first | rfl | (split <;> first | rfl | (split <;> rfl)))
theorem hk1 (w : World) : PyData.keyHash w.params (Str.ofString "message") = hS w (Str.ofString "message") := hk_eq w _ (by kernel_rfl)
theorem hk2 (w : World) : PyData.keyHash w.params (Str.ofString "spot") = hS w (Str.ofString "spot") := hk_eq w _ (by kernel_rfl)
theorem hk3 (w : World) : PyData.keyHash w.params (Str.ofString "value") = hS w (Str.ofString "value") := hk_eq w _ (by kernel_rfl)
theorem c_Thrown {w : World} {dp un : Nat} {gd : Option (List Code)} {cn : Str} {cs : Scope} {a : Addr} {ccd : Value} {cl : List (Str × Addr)} {outer : List Env} {A₀ : Around} {base h₀ : Heap} {L : Addr} {m mg mb : Str → Option Value} {mean : ExcName → Option Value} {news : List (Addr × Obj)} {s : Shared} {Q E : Value → Shared → Prop} {v : Value}
    (B : Below A₀ base outer h₀) (F : Fr h₀ L s.heap m) (X : (KK w.params).In h₀) (N : News h₀ L s.heap news) (T : Top topProg LL mean mg mb h₀) (hk : cs.kind = .function) (hdp : dp + 108 < recursionLimit) (hun : un + 960 < cLine)
    (ret : ∀ e dx t h' tk' t₁ t₂ t₃ t₄ t₅, t ≠ e → dx ≠ e → dx ≠ t → (∀ q ∈ news, q.1 ≠ e ∧ q.1 ≠ t) → Fr h₀ L h' m →
      News h₀ L h' ((e, excO 83 dx t) :: (t, tupO (msgT t₅) 0) :: (dx, thrD (hS w (Str.ofString "message")) (hS w (Str.ofString "spot")) (hS w (Str.ofString "value")) t₁ t₂ t₃ t₄ v) :: news) → Q (.ref e) { s with heap := h', toks := tk' }) :
    wpAny (model PySem.Challenge.rw_sf0048_01.row.prog w) (ktrTop dp un gd cn cs L a ccd cl outer) (call (.ref 83) [v]) Q E s := by
  refine wpAny_call (exc_core (X.keeps F.keep) rfl (by show dp + 105 < _; omega) (by show un + 905 < _; omega) fun e t0 h' tk' kp he => ?_)
  have ho : ∀ q ∈ news, (@Ne Nat q.1 e) := fun q hq z => by have := (N q hq).1; rw [z, he.2] at this; cases this
  refine c_init (dp := dp + 1) (un := un + 1) (s := { s with heap := h', toks := tk' }) B (F.keeps kp) X (List.forall_mem_cons.mpr ⟨⟨he.1, fresh_off F he.2⟩, N.grown kp⟩) ho T hk (by omega) (by omega) fun dx t h2 tk2 t₁ t₂ t₃ t₄ t₅ o1 o2 o3 F2 N2 => ⟨rfl, ?_⟩
  rw [hk1, hk2, hk3] at N2
  exact ret e dx t h2 tk2 t₁ t₂ t₃ t₄ t₅ (Nat.ne_of_gt o1) (Nat.ne_of_gt (Nat.lt_trans o1 o2)) (Nat.ne_of_gt o2) (fun q hq => ⟨ho q hq, Nat.ne_of_lt (o3 q hq)⟩) F2 N2
end
section
open PySem PySem.Spec PySem.Calls PySem.W PyProof.Rows
noncomputable abbrev txtB : Array UInt8 := #[116, 111, 111, 32, 108, 97, 114, 103, 101, 32, 97, 32, 118, 97, 108, 117, 101]
noncomputable abbrev txtT (t t' : Tok) : List Value := [.str (Str.ofString "text") t, .bytes txtB t']
theorem enc_get {M : Model} {A : Around} {E : Value → Shared → Prop} {s : Shared} {x : Str} {t : Tok} {pl : Sem Bool} {Q : Value × List Value → Shared → Prop} (h : Q (.builtin "str.encode", [.str x t]) s) : wpAny M A (getMethod (.str x t) (Str.ofString "encode") pl) Q E s :=
  GM.of (.str x t) (typeIs_str _ _ _) F.slot_str_encode F.type_str_encode GM.noRef h
theorem enc_tree (t u : Tok) : Builtin.«str.encode» ⟨[.str (Str.ofString "too large a value") t, .str (Str.ofString "utf-8") u], []⟩ = (do ret (← mkBytes txtB)) := by kernel_rfl
theorem enc_call {prog : Program} {w : World} {A : Around} {E : Value → Shared → Prop} {s : Shared} {t u : Tok} {Q : Value → Shared → Prop} (h : Q (.bytes txtB s.toks) { s with toks := s.toks + 1 }) :
    wpAny (model prog w) A (call (.builtin "str.encode") [.str (Str.ofString "too large a value") t, .str (Str.ofString "utf-8") u]) Q E s := by
  refine wpAny_call (codeAny_call_builtin F.slot_str_encode.plain F.entry_str_encode (F.slot_str_encode.check _ _ _ _ _ _ _ _ (typeIs_str _ _ _) (F.args_str_encode_2 _ _) ?_))
  rw [enc_tree]
  unfold mkBytes
  repeat (any_goals (first | assumption | wp_step))
theorem c_text {w : World} {dp un : Nat} {gd : Option (List Code)} {cn : Str} {cs : Scope} {a : Addr} {ccd : Value} {cl : List (Str × Addr)} {outer : List Env} {A₀ : Around} {base h₀ : Heap} {L : Addr} {m mg mb : Str → Option Value} {mean : ExcName → Option Value} {news : List (Addr × Obj)} {s : Shared} {t : Tok} {Q E : Value → Shared → Prop}
    (B : Below A₀ base outer h₀) (F : Fr h₀ L s.heap m) (X : (KK w.params).In h₀) (N : News h₀ L s.heap news) (T : Top topProg LL mean mg mb h₀) (hk : cs.kind = .function) (hdp : dp + 10 < recursionLimit) (hun : un + 100 < cLine)
    (ret : ∀ p h' tk' t₁ t₂, Fr h₀ L h' m → News h₀ L h' ((p, tupO (txtT t₁ t₂) 0) :: news) → (∀ q ∈ news, q.1 ≠ p) → Q (.ref p) { s with heap := h', toks := tk' }) :
    wpAny (model PySem.Challenge.rw_sf0048_01.row.prog w) (ktrTop dp un gd cn cs L a ccd cl outer) (call (.ref 92) [.str (Str.ofString "too large a value") t]) Q E s := by
  revert X; (w_top off; k_fill); intro X
  obtain ⟨kind, names, gen, coro, more⟩ := cs
  cases hk
  refine wpAny_call ?_
  k_dflt k_enter
  k_steps
  refine enc_get ?_
  k_steps
  refine enc_call ?_
  k_steps
  (rename News h₀ L _ _ => n9)
  exact ret _ _ _ _ _ (by k_asm) n9 (fun q hq => Nat.ne_of_lt (‹∀ p : Addr × Obj, p ∈ news → p.1 < _› q hq))
end
section
open PySem PySem.Spec PySem.Calls PySem.W PyProof.Rows
/-- the value that a refusal bears -/
inductive RefV (led : List (Addr × Obj)) (v : Value) : Prop where
  | mk (D b c e p : Addr) (t tn te ts tt : Tok) (n₁ n₂ n₃ n₄ n₅ : Nat) (h0 : v = .ref D) (h1 : (D, tupO [.str (Str.ofString "struct") t, .ref c, .ref b] n₁) ∈ led) (h2 : (c, tupO [.str (Str.ofString "name") tn, .str (Str.ofString "ErrorException") te, .ref e] n₂) ∈ led) (h3 : (e, tupO [] n₃) ∈ led) (h4 : (b, tupO [.ref p] n₄) ∈ led) (h5 : (p, tupO (txtT ts tt) n₅) ∈ led) : RefV led v
theorem RefV.mono {led led' : List (Addr × Obj)} {v : Value} (h : RefV led v) (hs : ∀ p ∈ led, p ∈ led') : RefV led' v := by
  obtain ⟨D, b, c, e, p, t, tn, te, ts, tt, n₁, n₂, n₃, n₄, n₅, h0, h1, h2, h3, h4, h5⟩ := h
  exact ⟨D, b, c, e, p, t, tn, te, ts, tt, n₁, n₂, n₃, n₄, n₅, h0, hs _ h1, hs _ h2, hs _ h3, hs _ h4, hs _ h5⟩
/-- the exception's dict bears a refusal, all of it on the ledger -/
noncomputable def DictV (w : World) (led : List (Addr × Obj)) (dx : Addr) : Prop := ∃ v t₁ t₂ t₃ t₄, (dx, thrD (hS w (Str.ofString "message")) (hS w (Str.ofString "spot")) (hS w (Str.ofString "value")) t₁ t₂ t₃ t₄ v) ∈ led ∧ RefV led v
theorem DictV.mono {w : World} {led led' : List (Addr × Obj)} {dx : Addr} (h : DictV w led dx) (hs : ∀ p ∈ led, p ∈ led') : DictV w led' dx := by
  obtain ⟨v, t₁, t₂, t₃, t₄, h1, h2⟩ := h
  exact ⟨v, t₁, t₂, t₃, t₄, hs _ h1, h2.mono hs⟩
theorem c_thrown_text {w : World} {dp un : Nat} {gd : Option (List Code)} {cn : Str} {cs : Scope} {a : Addr} {ccd : Value} {cl : List (Str × Addr)} {outer : List Env} {A₀ : Around} {base h₀ : Heap} {L : Addr} {m mg mb : Str → Option Value} {mean : ExcName → Option Value} {news : List (Addr × Obj)} {s : Shared} {t1 t2 : Tok} {Q E : Value → Shared → Prop}
    (B : Below A₀ base outer h₀) (F : Fr h₀ L s.heap m) (X : (KK w.params).In h₀) (N : News h₀ L s.heap news) (T : Top topProg LL mean mg mb h₀) (hk : cs.kind = .function) (hdp : dp + 110 < recursionLimit) (hun : un + 1000 < cLine)
    (ret : ∀ e dx t h' tk' tm nx, t ≠ e → (∀ q ∈ nx, q.1 ≠ e ∧ q.1 ≠ t) → (∀ p ∈ news, p ∈ nx) → DictV w nx dx → Fr h₀ L h' m → News h₀ L h' ((e, excO 83 dx t) :: (t, tupO (msgT tm) 0) :: nx) → Q (.ref e) { s with heap := h', toks := tk' }) :
    wpAny (model PySem.Challenge.rw_sf0048_01.row.prog w) (ktrTop dp un gd cn cs L a ccd cl outer) (call (.ref 120) [.str (Str.ofString "ErrorException") t1, .str (Str.ofString "too large a value") t2]) Q E s := by
  revert X; (w_top off; k_fill); intro X
  have hn0 : HC 83 := .mk
  have hn1 : HC 92 := .mk
  obtain ⟨kind, names, gen, coro, more⟩ := cs
  cases hk
  refine wpAny_call ?_
  k_dflt k_enter
  k_steps
  repeat (any_goals (
    (with_reducible refine hold_un ?_)
    (first
      | ((with_reducible show wpAny _ _ (call (Value.ref 83) _) _ _ _); k_dflt (refine c_Thrown (by k_asm) (by k_asm) (by k_asm) (by k_asm) (by k_asm) rfl (by ktr_room) (by ktr_units) ?_); intro e' dx' t' h' tk' t₁ t₂ t₃ t₄ t₅ n1 n2 n3 n4 F' N'; (try k_sweep))
      | ((with_reducible show wpAny _ _ (call (Value.ref 92) _) _ _ _); k_dflt (refine c_text (by k_asm) (by k_asm) (by k_asm) (by k_asm) (by k_asm) rfl (by ktr_room) (by ktr_units) ?_); intro p' h' tk' t₁ t₂ F' N' n1; (try k_sweep)))
    k_steps))
  (rename News h₀ L _ _ => n9)
  refine ret _ _ _ _ _ _ _ (by assumption) (List.forall_mem_cons.mpr ⟨⟨by assumption, by assumption⟩, by assumption⟩) (by repeat (first | exact sub_self | refine sub_cons ?_)) ⟨_, _, _, _, _, .head _, _, _, _, _, _, _, _, _, _, _, _, _, _, _, _, rfl, .tail _ (.head _), .tail _ (.tail _ (.head _)), .tail _ (.tail _ (.tail _ (.head _))), .tail _ (.tail _ (.tail _ (.tail _ (.head _)))), .tail _ (.tail _ (.tail _ (.tail _ (.tail _ (.head _)))))⟩ (by k_asm) n9
end
section
open PySem PySem.Spec PySem.Calls PySem.W PyProof.Rows
section
variable {prog : Program} {w : World} {A₀ A : Around} {s : Shared} {base h₀ : Heap} {L : Addr} {m : Str → Option Value} {env : Env} {news : List (Addr × Obj)} {K : Frag} {p : Program} {loose : List Str} {mean : ExcName → Option Value} {mg mb : Str → Option Value}
    {R : Result → Shared → Prop} {name qual : Str} {params : Arguments} {body : List Stmt} {scope : Scope} {dV kV doc pm cdv ct oc : Value} {an od : Option Addr} {osl : Array (Option Value)} {f : Addr} {args : Args} {binds : List (Str × Value)}

/-- into a function that catches, from the outermost scope, whatever cells that has -/
theorem enter_try (B : Below A₀ base [] h₀) (F : Fr h₀ L s.heap m) (X₀ : K.In h₀) (N : News h₀ L s.heap news) (T : Top p loose mean mg mb h₀) (hA : A.frames = some [env]) (hf : env.frame = some L) (hke : env.scope.kind = .function)
    (ho : K.lookup f = some ⟨oc, od, .func (fnOf name qual params body scope dV kV doc pm an cdv ct), osl⟩) (hcd : codeIn K cdv qual = true) (hroom : A.depth < recursionLimit)
    (hbind : BindsTo s (fnOf name qual params body scope dV kV doc pm an cdv ct) args binds) (hloc : ∀ y ∈ binds, scope.names.lookup y.1 = some .local)
    (h : ∀ g L' h₁, Fr h₀ L g m → Fr g L' h₁ (fun y => binds.reverse.lookup y) → News g L' h₁ news → Below A base [env] g → K.In g → Top p loose mean mg mb g → KtsDicts ([env].filterMap (·.frame)) g → (∀ q ∈ news, q.1 < L') →
      wpAny (model prog w) (A.deeper (envOf qual scope L' f cdv)) (execs body (envOf qual scope L' f cdv))
        (fun fl s' => LeaveS0 ([env].filterMap (·.frame)) h₀ L m g R (match fl with | .ret v => v | _ => .none) s')
        (fun e s' => wpAny (model prog w) (A.deeper (envOf qual scope L' f cdv)) (leaving (envOf qual scope L' f cdv) e) (fun _ s'' => R (.error e) s'') (fun e' s'' => R (.error e') s'') s')
        { s with heap := h₁, toks := s.toks + binds.length })
    (hco : scope.isCoroutine = false) (hgen : scope.isGenerator = false) (hk : scope.kind = .function)
    (hcell : ∀ x ∈ scope.names, x.2 ≠ .cell) : codeAny (model prog w) A (.call (.ref f) args) R s := by
  have X := X₀.keeps F.keep
  obtain ⟨FG, BG, st, _⟩ := groundX (R := R) B F N hA hf hke
  refine codeAny_call_def (fd := fnOf name qual params body scope dV kV doc pm an cdv ct) (body := body) (binds := binds) hroom (X _ _ ho) rfl (T.nolimit.keeps F.keep) (codeRec_of X hcd) rfl hbind hcell hloc (fun h₁ hns hk₁ => ?_) hco hgen hk
  have hin : L ∈ [env].filterMap (·.frame) := List.mem_filterMap.mpr ⟨env, .head _, hf⟩
  have only : ∀ b ∈ [env].filterMap (·.frame), b = L := fun b hb => by
    rcases mem_frames hf hb with z | z
    · exact z
    · simp at z
  obtain ⟨oL, es, ep, hLg, hLd, hLk, hLf⟩ := FG.ns
  refine wpAny_mono (h _ s.heap.objs.size h₁ FG ⟨hns, fun b o e => hk₁ b o (of_hideAll _ e), Nat.le_of_eq (hideAll_size _ _)⟩
    (fun p hp => ⟨hk₁ _ _ (N p hp).1, Nat.ne_of_lt (Heap.lt_size (N p hp).1), hideAll_none _ (List.mem_map_of_mem hp)⟩) BG (X₀.keeps st) (T.keeps st) (fun b hb => by
      rw [only b hb]; exact ⟨oL, es, ep, hLg, hLd⟩) (fun p hp => Heap.lt_size (N p hp).1)) (fun fl s' hl => ?_) fun _ _ y => y
  obtain ⟨g', L', m', news', T', F', N', k⟩ := hl
  have nL₀ : h₀.get? L = none := kts_self F
  obtain ⟨sl, hs⟩ := T'.up hLg
  refine k ⟨⟨_, es, ep, F'.keep _ _ hs, hLd, hLk, hLf⟩, fun b o e => F'.keep b o (T'.other b o (st b o e) (fun q => by
    rw [only b q, nL₀] at e
    cases e)), F.above⟩ fun p hp => ⟨(N' p hp).1, fun q => ?_, ?_⟩
  · have := (N' p hp).2.2; rw [q, hs] at this; cases this
  · cases q : h₀.get? p.1 with
    | none => rfl
    | some o =>
      obtain ⟨sl', hs'⟩ := T'.up (st _ _ q)
      have := (N' p hp).2.2
      rw [hs'] at this
      cases this
end
end
section
open PySem PySem.Spec PySem.Calls PySem.W PyProof.Rows
theorem value_by {M : Model} {A : Around} {s : Shared} {Q E : Value → Shared → Prop} {e : Addr} {n : Value} (h : wpAny M A (call (.builtin "BaseException.__getattribute__") [.ref e, n]) Q E s) : wpAny M A (callGetattribute (.ref e) n (.builtin "BaseException.__getattribute__") true) Q E s := by
  have f3 := F.excAttr_ValueError.ga.bind (.ref e)
  show wpAny M A (do let (g, first) ← bindSpecial (.builtin "BaseException.__getattribute__") (.ref e); call g (first ++ [n])) Q E s
  rw [f3]
  exact h
theorem getAttr_value {w : World} {A : Around} {s : Shared} {p e dx : Addr} {t₁ t₂ t₃ t₄ : Tok} {Q E : Value → Shared → Prop} {ws : Array Value} {sl : Array (Option Value)} (hh : A.handled = some (.ref e)) (hde : A.depth + 100 < recursionLimit) (hun : A.units + 900 < cLine) :
    (KK w.params).In s.heap → s.heap.get? e = some { cls := .ref 83, dict := some dx, data := .fields ws, slots := sl } → s.heap.get? dx = some (thrD (hS w (Str.ofString "message")) (hS w (Str.ofString "spot")) (hS w (Str.ofString "value")) t₁ t₂ t₃ t₄ (.ref p)) → ValQ s (.ref p) Q →
    wpAny (model PySem.Challenge.rw_sf0048_01.row.prog w) A (getAttr (.ref e) (Str.ofString "value") true) Q E s := by
  (w_top off; k_fill)
  intro X he hdx hQ
  have l1 : Looks (model PySem.Challenge.rw_sf0048_01.row.prog w) s.heap (typeLookup (.ref 83) "__getattribute__") (some (.builtin "BaseException.__getattribute__")) := looks_findIn X (by k_is)
  have l2 : Looks (model PySem.Challenge.rw_sf0048_01.row.prog w) s.heap (typeLookup (.ref 83) "__getattr__") none := looks_findIn X (by k_is)
  have hx2 : (Value.builtin "BaseException.__getattribute__" == Value.builtin "object.__getattribute__") = false := by decide +kernel
  have hx1 : (onTheHeap (Value.ref 83) && Value.builtin "BaseException.__getattribute__" == Value.builtin "object.__getattribute__") = false := by rw [hx2]; rfl
  obtain ⟨hp, g, d, t, os⟩ := s
  unfold getAttr mkText
  refine wpAny_bind ?_
  wp_step
  wp_step
  unfold getAttrBy
  refine wpAny_pure ?_
  refine wpAny_holding ?_
  have l0 : Looks (model PySem.Challenge.rw_sf0048_01.row.prog w) hp (typeOf (.ref e)) (.ref 83) := (Looks.ld he).andThen .now
  refine wpAny_bind (l0 _ _ _ _ (fun _ _ q => q) ?_)
  refine wpAny_bind (l1 _ _ _ _ (fun _ _ q => q) ?_)
  show wpAny _ _ (if _ then _ else _) _ _ _
  rw [if_neg (by rw [hx1]; decide)]
  unfold getAttrByItsOwn
  refine wpAny_bind (l2 _ _ _ _ (fun _ _ q => q) ?_)
  refine wpAny_bind (wpAny_attempt (wpAny_holding (value_by (value_call X he hdx (fun h' tk' kp => ?_) (by k_is)))))
  exact wpAny_pure (hQ h' tk' kp)
end
section
open PySem PySem.Spec PySem.Calls PySem.W PyProof.Rows
section
variable {prog : Program} {w : World} {A : Around} {E : Value → Shared → Prop} {s : Shared}
theorem keys_miss : typeLookup (.type "list") "keys" = pure none := by rw [typeLookup_type, builtinLookup_eq_fast]; kernel_rfl
theorem list_keys {a : Addr} {xs : Array Value} {k : Nat} {Q : Option Value → Shared → Prop} (hx : s.heap.get? a = some { cls := .type "list", dict := none, data := .seq xs k }) (hA : A.handled = none)
    (h : ∀ h' tk, (∀ b o, s.heap.get? b = some o → h'.get? b = some o) → Q none { s with heap := h', toks := tk }) : wpAny (model prog w) A (getAttr? (.ref a) "keys") Q E s := by
  obtain ⟨hp, g, d, tk, os⟩ := s
  have hT : ∀ tk', (⟨hp, g, d, tk', os⟩ : Shared).TypeIs (.ref a) "list" := fun _ => ⟨_, hx, rfl⟩
  have f1 := sub_AttributeError
  have f3 := PySem.F.slot_list_getattribute.lookup
  have f4 := PySem.F.slot_list_getattribute.bind (.ref a)
  have f5 := am_list_getattr_none
  unfold getAttr? getAttrBy? getAttrBy
  repeat (any_goals (first | assumption | exact hT _ | ((with_reducible show wpAny _ _ (call (Value.builtin "list.__getattribute__") _ _) _ _ _); refine call_meets PySem.F.slot_list_getattribute (hT _) am_entry_list_getattribute (PySem.F.args_list_getattribute_2 _ _) (meets_getattribute_miss_list a xs k #[] _ _ keys_miss (by decide +kernel) (by decide +kernel)) ⟨hx, hA, fun h' tk' e hx' => ?_⟩) | wp_step))
  obtain ⟨t', u', he⟩ := hx'.there
  show wpAny _ _ (getattributeRaised _ _ _ _ _ _ _) _ _ _
  unfold getattributeRaised
  repeat (any_goals (first | assumption | wp_step))
  exact h _ _ fun b o e9 => hx'.of.keeps b o e9
theorem entry_dloop : entryFor table "dict.update.loop" = some Builtin.«dict.update.loop» := entryFor_of_tree (by kernel_rfl)
theorem plain_dloop : plainId "dict.update.loop" = true := by decide +kernel
/-- the loop that takes pairs in, at the list's end -/
theorem dloop_end {d I l : Addr} {i : Nat} {n : Int} {t : Tok} {xs : Array Value} {R : Result → Shared → Prop} (hA : A.handled = none) (hi : s.heap.IsListIter I l i) (hl : s.heap.IsList l xs) (hx : xs[i]? = none)
    (h : ∀ h', (∀ b o, b ≠ I → s.heap.get? b = some o → h'.get? b = some o) → R (.ok (.ret .none)) { s with heap := h' }) :
    codeAny (model prog w) A (.builtin "dict.update.loop" ⟨[.ref d, .ref I, .int n t, .none], []⟩) R s := by
  refine codeAny_builtin entry_dloop ?_
  rw [Around.under_plainId plain_dloop _]
  show wpAny _ A.in1 (pyNext (.ref I) >>= _) _ _ s
  refine wpAny_bind (wpAny_pyNext_list_end hA hi hl hx fun h' he' => ?_)
  show wpAny _ A.in1 (Builtin.Dict.addKeywords d [] >>= _) _ _ _
  exact wpAny_bind (wpAny_pure (wpAny_pure (h h' he')))
/-- a pair is taken in -/
theorem dloop_pair {K : Type} [DecidableEq K] {knd : KeyKind prog w K} {kvs : List (K × Value)} {ky : K} {d I l p : Addr} {i c : Nat} {n : Int} {t : Tok} {k v : Value} {xs : Array Value} {R : Result → Shared → Prop} (hI : I ≠ l) (hIp : I ≠ p) (hdI : d ≠ I) (hdl : d ≠ l)
    (hi : s.heap.IsListIter I l i) (hl : s.heap.IsList l xs) (hx : xs[i]? = some (.ref p)) (hp : s.heap.get? p = some { cls := .type "tuple", dict := none, data := .seq #[k, v] c }) (hd : s.heap.DictOf knd d kvs) (hk : knd.is ky k = true) (hsz : kvs.length ≤ sizeLine)
    (h : ∀ h' tk t', h'.IsListIter I l (i + 1) → h'.IsList l xs → h'.DictOf knd d (stored kvs ky v) → (∀ b o, b ≠ I → b ≠ d → s.heap.get? b = some o → h'.get? b = some o) →
      codeAny (model prog w) A (.builtin "dict.update.loop" ⟨[.ref d, .ref I, .int (n + 1) t', .none], []⟩) R { s with heap := h', toks := tk }) :
    codeAny (model prog w) A (.builtin "dict.update.loop" ⟨[.ref d, .ref I, .int n t, .none], []⟩) R s := by
  refine codeAny_builtin entry_dloop ?_
  rw [Around.under_plainId plain_dloop _]
  show wpAny _ A.in1 (pyNext (.ref I) >>= _) _ _ s
  refine wpAny_bind (wpAny_pyNext_list_item hi hl hx fun h' hi' hs' => ?_)
  have hp' : h'.get? p = some { cls := .type "tuple", dict := none, data := .seq #[k, v] c } := hs'.extBut _ _ hIp.symm hp
  have hT : ∀ tk, (⟨h', s.gens, s.drawn, tk, s.os⟩ : Shared).TypeIs (.ref p) "tuple" := fun _ => ⟨_, hp', rfl⟩
  have hl' : h'.IsList l xs := hl.extBut hs'.extBut hI.symm
  have hd' : h'.DictOf knd d kvs := by
    obtain ⟨o, es, ep, ho, rest⟩ := hd
    exact ⟨o, es, ep, hs'.extBut _ _ hdI ho, rest⟩
  show wpAny _ A.in1 (holding [Value.ref p] _ >>= _) _ _ _
  refine wpAny_bind (wpAny_holding ?_)
  refine wpAny_bind ?_
  refine wpAny_tryCatch ?_
  unfold Builtin.Dict.pairItems
  refine wpAny_bind (wpAny_typeOf (hT _) ?_)
  rw [if_pos (by rfl)]
  refine wpAny_bind (wpAny_seqItems hp' rfl ?_)
  refine wpAny_pure ?_
  show wpAny _ A.in1 (holding [k, v] (dictSet d k v)) _ _ _
  refine wpAny_holding ?_
  refine wpAny_dictSet_pairs hk hd' (fun h2 hd2 hs2 => ?_) hsz
  refine wpAny_pure ⟨plainId_quiet plain_dloop _, h h2 _ _ ?_ ?_ hd2 fun b o b1 b2 e9 => hs2.extBut _ _ b2 (hs'.extBut _ _ b1 e9)⟩
  · exact hi'.extBut hs2.extBut hdI.symm
  · exact hl'.extBut hs2.extBut hdl.symm
/-- dict of a list: what the loop starts from -/
theorem dict_list {l : Addr} {xs : Array Value} {c : Nat} {Q : Value → Shared → Prop} (hA : A.handled = none) (hl : s.heap.get? l = some { cls := .type "list", dict := none, data := .seq xs c })
    (loop : ∀ I h' tk t, h'.DictOf (PySem.strKind prog w) s.heap.objs.size [] → h'.IsListIter I l 0 → s.heap.objs.size < I → h'.IsList l xs → (∀ b o, s.heap.get? b = some o → h'.get? b = some o) →
      codeAny (model prog w) A.in1 (.builtin "dict.update.loop" ⟨[.ref s.heap.objs.size, .ref I, .int 0 t, .none], []⟩) (wants (fun r s₂ => r = .none ∧ Q (.ref s.heap.objs.size) s₂) E) { s with heap := h', toks := tk }) :
    wpAny (model prog w) A (call (.type "dict") [.ref l]) Q E s := by
  refine callType_codes (Q₁ := fun obj s₁ => obj = .ref s.heap.objs.size ∧ s₁ = { s with heap := s.heap.push { cls := .type "dict", data := .dict #[] } }) PySem.F.kt_called_dict (PySem.F.kt_typeCall_dict_1 _) PySem.F.entry_dict_init (kt_code_dict_new _ ⟨rfl, rfl⟩) ?_
  rintro obj s₁ ⟨rfl, rfl⟩
  have hnew : (s.heap.push { cls := .type "dict", data := .dict #[] }).DictOf (PySem.strKind prog w) s.heap.objs.size [] := Heap.DictOf.new s.heap
  have hl' : (s.heap.push { cls := .type "dict", data := .dict #[] }).get? l = some { cls := .type "list", dict := none, data := .seq xs c } := Heap.get?_push_of_some _ hl
  have hT : ∀ tk, (⟨s.heap.push { cls := .type "dict", data := .dict #[] }, s.gens, s.drawn, tk, s.os⟩ : Shared).TypeIs (.ref l) "list" := fun _ => ⟨_, hl', rfl⟩
  refine ⟨hnew.typeIs, PySem.F.args_dict_init_2 _ _, ?_⟩
  unfold Builtin.«dict.__init__»
  refine wpAny_bind ?_
  unfold Builtin.Dict.selfAndRest
  refine wpAny_bind (wpAny_notOrdered_dict hnew.typeIs ?_)
  show wpAny _ _ (pure (s.heap.objs.size, [Value.ref l])) _ _ _
  refine wpAny_pure ?_
  show wpAny _ _ (Builtin.Dict.updateFrom "dict.__init__" s.heap.objs.size (.ref l) [] .none) _ _ _
  unfold Builtin.Dict.updateFrom
  refine wpAny_bind (wpAny_typeOf (hT _) ?_)
  rw [if_pos (by decide)]
  refine wpAny_bind (list_keys hl' hA fun h' tk' kp => ?_)
  simp only [Option.isNone_none, if_true]
  refine wpAny_bind (wpAny_rule ?_)
  have hl2 : h'.IsList l xs := ⟨_, kp _ _ hl', rfl, c, rfl⟩
  refine wpAny_bind (wpAny_pyIter_list hl2 ?_)
  obtain ⟨od, es, ep, hod, rest⟩ := hnew
  exact wpAny_pure ⟨plainId_quiet plain_dloop _, loop _ _ _ _ ⟨od, es, ep, Heap.get?_push_of_some _ (kp _ _ hod), rest⟩ ⟨_, Heap.get?_push_size _ rfl, rfl, rfl⟩ (Heap.lt_size (kp _ _ hod)) (hl2.push _) fun b o e9 => Heap.get?_push_of_some _ (kp _ _ (Heap.get?_push_of_some _ e9))⟩
end
end
section
open PySem PySem.Spec PySem.Calls PySem.W PyProof.Rows
theorem off_sys {w : World} {h₀ : Heap} {L d : Addr} {m : Str → Option Value} {s : Shared} (X : (KK w.params).In h₀) (F : Fr h₀ L s.heap m) (hd : s.heap.get? d = none) : (d == sysModules) = false := by
  cases e : d == sysModules with
  | false => rfl
  | true =>
    have e' : d = 1 := eq_of_beq e
    subst e'
    obtain ⟨o, ho⟩ : ∃ o, (KK w.params).lookup 1 = some o := by
      have : ((KK w.params).lookup 1).isSome = true := by kernel_rfl
      exact Option.isSome_iff_exists.mp this
    have := F.keep _ _ (X _ _ ho)
    rw [hd] at this
    cases this
theorem dict_ret {w : World} {h₀ : Heap} {L : Addr} {m : Str → Option Value} {news : List (Addr × Obj)} {s : Shared} {h' : Heap} {tk : Nat} {kvs : List (Str × Value)} {Q : Value → Shared → Prop}
    (F : Fr h₀ L s.heap m) (X : (KK w.params).In h₀) (N : News h₀ L s.heap news) (kp : ∀ b o, s.heap.get? b = some o → h'.get? b = some o) (hd : h'.DictOf (PySem.strKind PySem.Challenge.rw_sf0048_01.row.prog w) s.heap.objs.size kvs)
    (ret : ∀ d o h' tk', (∀ q ∈ news, (@Ne Nat q.1 d)) → Fr h₀ L h' m → News h₀ L h' ((d, o) :: news) → o.IsDictOf (PySem.strKind PySem.Challenge.rw_sf0048_01.row.prog w) kvs → (d == sysModules) = false → Q (.ref d) { s with heap := h', toks := tk' }) :
    Q (.ref s.heap.objs.size) { s with heap := h', toks := tk } := by
  obtain ⟨o, ho, hk⟩ := Heap.dictOf_iff.mp hd
  have hn : s.heap.get? s.heap.objs.size = none := by
    cases e : s.heap.get? s.heap.objs.size with
    | none => rfl
    | some o => exact absurd (Heap.lt_size e) (Nat.lt_irrefl _)
  refine ret _ o h' tk (fun q hq z => ?_) (F.keeps kp) (fun q hq => ?_) hk (off_sys X F hn)
  · have := (N q hq).1; rw [z, hn] at this; cases this
  · rcases List.mem_cons.mp hq with rfl | hq
    · exact ⟨ho, fresh_off F hn⟩
    · exact ⟨kp _ _ (N q hq).1, (N q hq).2⟩
theorem call_dictOne {w : World} {A : Around} {h₀ : Heap} {L : Addr} {m : Str → Option Value} {news : List (Addr × Obj)} {s : Shared} {l p : Addr} {c k : Nat} {t : Tok} {v : Value} {Q E : Value → Shared → Prop}
    (hh : A.handled = none) (hde : A.depth + 100 < recursionLimit) (hu : A.units + 900 < cLine) (F : Fr h₀ L s.heap m) (X : (KK w.params).In h₀) (N : News h₀ L s.heap news) (hl : (l, W.listOf #[.ref p] c) ∈ news) (hp : (p, ({ cls := .type "tuple", data := .seq #[.str (Str.ofString "x") t, v] k } : Obj)) ∈ news)
    (ret : ∀ d o h' tk', (∀ q ∈ news, (@Ne Nat q.1 d)) → Fr h₀ L h' m → News h₀ L h' ((d, o) :: news) → o.IsDictOf (PySem.strKind PySem.Challenge.rw_sf0048_01.row.prog w) [(Str.ofString "x", v)] → (d == sysModules) = false → Q (.ref d) { s with heap := h', toks := tk' }) :
    wpAny (model PySem.Challenge.rw_sf0048_01.row.prog w) A (call (.type "dict") [.ref l]) Q E s := by
  have l1 : l < s.heap.objs.size := Heap.lt_size (N _ hl).1
  have l2 : p < s.heap.objs.size := Heap.lt_size (N _ hp).1
  refine dict_list hh (N _ hl).1 fun I h' tk t' hd hi hlt hls kp => ?_
  have kI : ∀ b, b < s.heap.objs.size → b ≠ I ∧ b ≠ s.heap.objs.size := fun b hb => ⟨Nat.ne_of_lt (Nat.lt_trans hb hlt), Nat.ne_of_lt hb⟩
  refine dloop_pair (A := A.in1) (ky := Str.ofString "x") (kI _ l1).1.symm (kI _ l2).1.symm (Nat.ne_of_lt hlt) (kI _ l1).2.symm hi hls rfl (kp _ _ (N _ hp).1) hd (strKind_is _ w _ t) (Nat.zero_le _) fun h2 tk2 t2 hi2 hl2 hd2 kp2 => ?_
  refine dloop_end (A := A.in1) hh hi2 hl2 rfl fun h3 kp3 => ⟨rfl, ?_⟩
  obtain ⟨od, es, ep, hod, rest⟩ := hd2
  exact dict_ret F X N (fun b o e => kp3 _ _ (kI b (Heap.lt_size e)).1 (kp2 _ _ (kI b (Heap.lt_size e)).1 (kI b (Heap.lt_size e)).2 (kp _ _ e))) ⟨od, es, ep, kp3 _ _ (Nat.ne_of_lt hlt) hod, rest⟩ ret
end
section
open PySem PySem.Spec PySem.Calls PySem.W PyProof.Rows
theorem call_dictNil {w : World} {A : Around} {h₀ : Heap} {L : Addr} {m : Str → Option Value} {news : List (Addr × Obj)} {s : Shared} {l : Addr} {c : Nat} {Q E : Value → Shared → Prop}
    (hh : A.handled = none) (hde : A.depth + 100 < recursionLimit) (hu : A.units + 900 < cLine) (F : Fr h₀ L s.heap m) (X : (KK w.params).In h₀) (N : News h₀ L s.heap news) (hl : (l, W.listOf #[] c) ∈ news)
    (ret : ∀ d o h' tk', (∀ q ∈ news, (@Ne Nat q.1 d)) → Fr h₀ L h' m → News h₀ L h' ((d, o) :: news) → o.IsDictOf (PySem.strKind PySem.Challenge.rw_sf0048_01.row.prog w) [] → (d == sysModules) = false → Q (.ref d) { s with heap := h', toks := tk' }) :
    wpAny (model PySem.Challenge.rw_sf0048_01.row.prog w) A (call (.type "dict") [.ref l]) Q E s := by
  refine dict_list hh (N _ hl).1 fun I h' tk t' hd hi hlt hls kp => ?_
  refine dloop_end (A := A.in1) hh hi hls rfl fun h3 kp3 => ⟨rfl, ?_⟩
  obtain ⟨od, es, ep, hod, rest⟩ := hd
  exact dict_ret F X N (fun b o e => kp3 _ _ (Nat.ne_of_lt (Nat.lt_trans (Heap.lt_size e) hlt)) (kp _ _ e)) ⟨od, es, ep, kp3 _ _ (Nat.ne_of_lt hlt) hod, rest⟩ ret
end
section
open PySem PySem.Spec PySem.Calls PySem.W PyProof.Rows
section
variable {prog : Program} {w : World} {A : Around} {E : Value → Shared → Prop} {s : Shared} {env : Env} {h₀ : Heap} {x : Str} {body : List Stmt} {Q : Flow → Shared → Prop}
/-- a loop over a range, with any invariant of the frame and the ledger -/
theorem range_inv {r : Addr} {a₀ b₀ : Int} {t₀ u₀ v₀ : Tok} {n : Nat} {m₀ : Str → Option Value} {news : List (Addr × Obj)} (J : Nat → (Str → Option Value) → List (Addr × Obj) → Prop)
    (hh : A.handled = none) (hr : IsRange s.heap r a₀ b₀ 1 t₀ u₀ v₀) (hsmall : Builtin.Range.small a₀ b₀ 1 = true) (hsz : Builtin.Range.rangeSize a₀ b₀ 1 = (n : Int)) (F : Fr h₀ env.locals s.heap m₀) (N : News h₀ env.locals s.heap news) (hj : J 0 m₀ news)
    (turn : ∀ (i : Nat) t m₁ nx h tk own, i < n → OwnOff own (nx.map (·.1)) → J i m₁ nx → Fr h₀ env.locals h (fun y => if y = x then some (.int (a₀ + (i : Int)) t) else m₁ y) → News h₀ env.locals h (nx ++ own) →
      wpAny (model prog w) A (execs body env) (InvPostG h₀ env.locals (J (i + 1)) own { s with heap := h, toks := tk } Q) E { s with heap := h, toks := tk })
    (done : ∀ m₁ nx h tk, J n m₁ nx → Fr h₀ env.locals h m₁ → News h₀ env.locals h nx → Q .next { s with heap := h, toks := tk }) :
    wpAny (model prog w) A (pyIter (.ref r)) (fun it s₂ => LoopAtV prog w A h₀ env x body Q E it s₂) E s := by
  refine wpAny_pyIter_range hr hsmall ?_
  have W : Walks prog w A s.heap.objs.size [s.heap.objs.size] [s.heap.objs.size] n (fun i v => i < n ∧ ∃ t, v = .int (a₀ + i * 1) t)
      (fun i h => IsRangeIter h s.heap.objs.size (a₀ + (i : Nat) * 1) ((n : Int) - (i : Nat)) 1) := (Walks.range hh _ a₀ 1 n).bound
  refine kdr_loop J W (fun _ h => h) (fun _ h => h) ?_ ?_ ?_ ?_ (by show IsRangeIter _ _ _ _ _; rw [hsz]; simpa using Heap.get?_push_size _ rfl) (F.push _) (fun p hp => ⟨Heap.get?_push_of_some _ (N p hp).1, (N p hp).2⟩) hj ?_ ?_
  · intro i h hi b hb
    rw [List.mem_singleton.mp hb]
    exact ⟨_, hi⟩
  · intro hm
    exact absurd F.ns.lt ((List.mem_singleton.mp hm) ▸ Nat.lt_irrefl _)
  · intro b hb
    rw [List.mem_singleton.mp hb]
    exact next_is_new F
  · intro p hp hI
    exact absurd (Heap.lt_size (N p hp).1) ((List.mem_singleton.mp hI) ▸ Nat.lt_irrefl _)
  · rintro i v m₁ nx h tk own hi ⟨_, t, rfl⟩ hoff hJ F₁ N₁
    have e1 : a₀ + (i : Int) * 1 = a₀ + (i : Int) := by omega
    rw [e1] at F₁
    exact turn i t m₁ nx h tk own hi hoff hJ F₁ N₁
  · rintro m₁ nx h tk hJ F₁ N₁
    exact done m₁ nx h tk hJ F₁ N₁
end
end
section
open PySem PySem.Spec PySem.Calls PySem.W PyProof.Rows
noncomputable def bgM (v : Value) (k : Int) (tk : Tok) (u : Str → Option Value) : Str → Option Value := fun y => if y = Str.ofString "value" then some v else if y = Str.ofString "many" then some (.int k tk) else u y
theorem bgM_of {v : Value} {k : Int} {tk : Tok} {m : Str → Option Value} (h1 : m (Str.ofString "value") = some v) (h2 : m (Str.ofString "many") = some (.int k tk)) : m = bgM v k tk m := by
  funext y
  unfold bgM
  split
  · subst_vars; exact h1
  · split
    · subst_vars; exact h2
    · rfl
noncomputable def BgJ (rest : List (Addr × Obj)) (l : Addr) (o : Obj) (k : Int) (tk : Tok) (i : Nat) (m : Str → Option Value) (nx : List (Addr × Obj)) : Prop :=
  ∃ v d u, m = bgM v k tk u ∧ (l, o) ∈ nx ∧ (∀ q ∈ rest, q ∈ nx) ∧ DIn nx v d ∧ d.lv = i + 1 ∧ d.inn ∧ d.cnt ≤ 2 * i + 1
theorem bg_start {prog : Program} {w : World} {A : Around} {E : Value → Shared → Prop} {s : Shared} {env : Env} {h₀ : Heap} {body : List Stmt} {Q : Flow → Shared → Prop} {r l : Addr} {ol : Obj} {k : Int} {tk t₀ u₀ v₀ : Tok} {m₀ : Str → Option Value} {nws rest : List (Addr × Obj)} {v : Value} {d : Dm}
    (hh : A.handled = none) (hr : IsRange s.heap r 0 (k - 1) 1 t₀ u₀ v₀) (hk1 : 56 ≤ k) (hk2 : k ≤ 60) (F : Fr h₀ env.locals s.heap m₀) (N : News h₀ env.locals s.heap nws) (hl : (l, ol) ∈ nws) (hrest : ∀ q ∈ rest, q ∈ nws) (hv : m₀ (Str.ofString "value") = some v) (hm : m₀ (Str.ofString "many") = some (.int k tk)) (hD : DIn nws v d) (hlv : d.lv = 1) (hinn : d.inn) (hcnt : d.cnt ≤ 1)
    (turn : ∀ (i : Nat) t v d u nx h tk₁ own, i < (k - 1).toNat → OwnOff own (nx.map (·.1)) → (l, ol) ∈ nx → (∀ q ∈ rest, q ∈ nx) → DIn nx v d → d.lv = i + 1 → d.inn → d.cnt ≤ 2 * i + 1 → Fr h₀ env.locals h (fun y => if y = Str.ofString "turn" then some (.int (0 + (i : Int)) t) else bgM v k tk u y) → News h₀ env.locals h (nx ++ own) →
      wpAny (model prog w) A (execs body env) (InvPostG h₀ env.locals (BgJ rest l ol k tk (i + 1)) own { s with heap := h, toks := tk₁ } Q) E { s with heap := h, toks := tk₁ })
    (done : ∀ v d u nx h tk₁, (l, ol) ∈ nx → (∀ q ∈ rest, q ∈ nx) → DIn nx v d → (d.lv : Int) = k → d.inn → d.cnt ≤ 200 → Fr h₀ env.locals h (bgM v k tk u) → News h₀ env.locals h nx → Q .next { s with heap := h, toks := tk₁ }) :
    wpAny (model prog w) A (pyIter (.ref r)) (fun it s₂ => LoopAtV prog w A h₀ env (Str.ofString "turn") body Q E it s₂) E s := by
  refine range_inv (n := (k - 1).toNat) (BgJ rest l ol k tk) hh hr ?_ ?_ F N ⟨v, d, m₀, bgM_of hv hm, hl, hrest, hD, hlv, hinn, by first | walk_report | k_slotget | omega⟩ ?_ ?_
  · exact small_one (by first | walk_report | k_slotget | omega) (by first | walk_report | k_slotget | omega) (by first | walk_report | k_slotget | omega) (by first | walk_report | k_slotget | omega)
  · simp only [Builtin.Range.rangeSize]
    rw [if_pos (by decide), if_pos (by omega), Int.ediv_one, Int.toNat_of_nonneg (by omega)]; omega
  · rintro i t m₁ nx h tk₁ own hi ho ⟨v, d, u, rfl, a1, a2, a3, a4, a5, a6⟩ F₁ N₁
    exact turn i t v d u nx h tk₁ own hi ho a1 a2 a3 a4 a5 a6 F₁ N₁
  · rintro m₁ nx h tk₁ ⟨v, d, u, rfl, a1, a2, a3, a4, a5, a6⟩ F₁ N₁
    exact done v d u nx h tk₁ a1 a2 a3 (by first | walk_report | k_slotget | omega) a5 (by first | walk_report | k_slotget | omega) F₁ N₁
theorem own_off {D : Addr} {nx own : List (Addr × Obj)} (h : AllLt D (nx ++ own)) : ∀ p ∈ own, p.1 ≠ D := fun p hp => Nat.ne_of_lt (tb_ltOf h p (List.mem_append_right _ hp))
theorem own_off2 {D : Addr} {nx own : List (Addr × Obj)} (h : ∀ p ∈ nx ++ own, @LT.lt Nat _ p.1 D) : ∀ p ∈ own, p.1 ≠ D := fun p hp => Nat.ne_of_lt (h p (List.mem_append_right _ hp))
theorem sub_cons_both {q : Addr × Obj} {l l' : List (Addr × Obj)} (h : ∀ p ∈ l, p ∈ l') : ∀ p ∈ q :: l, p ∈ q :: l' := fun p hp => by
  rcases List.mem_cons.mp hp with rfl | hp
  · exact .head _
  · exact .tail _ (h p hp)
theorem own_cons {D : Addr} {own : List (Addr × Obj)} {adr : List Addr} (h : ∀ p ∈ own, p.1 ≠ D) (k : OwnOff own adr) : OwnOff own (D :: adr) := fun p hp b hb => by
  rcases List.mem_cons.mp hb with rfl | hb
  · exact h p hp
  · exact k p hp b hb
theorem c_begun {w : World} {dp un : Nat} {gd : Option (List Code)} {cn : Str} {cs : Scope} {a : Addr} {ccd : Value} {cl : List (Str × Addr)} {outer : List Env} {A₀ : Around} {base h₀ : Heap} {L : Addr} {m mg mb : Str → Option Value} {mean : ExcName → Option Value} {rest : List (Addr × Obj)} {s : Shared} {l : Addr} {x y : Int} {tx ty : Tok} {n : Nat} {Q E : Value → Shared → Prop}
    (B : Below A₀ base outer h₀) (F : Fr h₀ L s.heap m) (X : (KK w.params).In h₀) (N : News h₀ L s.heap ((l, listOf #[.int x tx, .int y ty] n) :: rest)) (ho : ∀ p ∈ rest, p.1 ≠ l) (T : Top topProg LL mean mg mb h₀) (hk : cs.kind = .function) (hdp : dp + 10 < recursionLimit) (hun : un + 200 < cLine)
    (hx : 0 ≤ x) (hy : 0 ≤ y) (hy' : y < 2147483700)
    (ret : ∀ p v t k d x' y' tx' ty' n' j nx h' tk', 0 ≤ x' → 0 ≤ y' → y' < 2147483700 → DIn nx v d → d.lv = k → 56 ≤ k → k ≤ 60 → d.inn → d.cnt ≤ 200 → (∀ q ∈ rest, q ∈ nx) → (l, listOf #[.int x' tx', .int y' ty'] n') ∈ nx → (p, tupO [v, .int (k : Nat) t] j) ∈ nx → Fr h₀ L h' m → News h₀ L h' nx → Q (.ref p) { s with heap := h', toks := tk' }) :
    wpAny (model PySem.Challenge.rw_sf0048_01.row.prog w) (ktrTop dp un gd cn cs L a ccd cl outer) (call (.ref 902) [.ref l]) Q E s := by
  revert X; (w_top off; k_fill); intro X
  have hn0 : HC 888 := .mk
  have hm0 : HKey "exec For Name Call cons nil" := .mk
  obtain ⟨kind, names, gen, coro, more⟩ := cs
  cases hk
  refine wpAny_call ?_
  k_dflt k_enter
  k_steps
  repeat (any_goals (
    (with_reducible refine hold_un ?_)
    (first
      | ((with_reducible show wpAny _ _ (call (Value.ref 888) _) _ _ _); k_dflt (refine c_digit (by k_asm) (by k_asm) (by k_asm) (by k_asm) (by assumption) (by k_asm) rfl (by ktr_room) (by ktr_units) (by assumption) (by assumption) (by assumption) (by decide) (by decide) ?_); intro r' tr' x' y' tx' ty' n' h' tk' r0 r1 x0 y0 y1 F' N'))
    k_steps))
  · refine hold ?_
    (rename Fr _ _ _ _ => f9)
    refine For_invVF f9 rfl rfl ?_
    have hq8 : HKey "pyIter ref" := .mk
    k_steps
    repeat (any_goals (
      (with_reducible refine hold_un ?_)
      (first
        | ((with_reducible show wpAny _ _ (call (Value.ref 888) _) _ _ _); k_dflt (refine c_digit (by k_asm) (by k_asm) (by k_asm) (by k_asm) (by assumption) (by k_asm) rfl (by ktr_room) (by ktr_units) (by assumption) (by assumption) (by assumption) (by decide) (by decide) ?_); intro r' tr' x' y' tx' ty' n' h' tk' r0 r1 x0 y0 y1 F' N'))
      k_steps))
    clear hq8
    (rename IsRange _ _ _ _ _ _ _ _ => hr9)
    (rename Fr _ _ _ _ => f8)
    (rename News _ _ _ _ => n8)
    refine hold (bg_start (rest := rest) (l := l) rfl hr9 (by first | walk_report | k_slotget | omega) (by first | walk_report | k_slotget | omega) f8 n8 (.tail _ (.tail _ (.head _))) (fun q hq => .tail _ (.tail _ (.tail _ hq))) rfl rfl (.tup0 (.head _) (.tail _ (.head _))) rfl trivial (Nat.le_refl _) ?_ ?_)
    · intro i t v d u nx h tk₁ own hi ho a1 a2 a3 a4 a5 a6 F₁ N₁
      k_fold
      k_steps
      repeat (any_goals (
        (with_reducible refine hold_un ?_)
        (first
          | ((with_reducible show wpAny _ _ (call (Value.ref 888) _) _ _ _); k_dflt (refine c_digit (by k_asm) (by k_asm) (by k_asm) (by k_asm) (by assumption) (by k_asm) rfl (by ktr_room) (by ktr_units) (by assumption) (by assumption) (by assumption) (by decide) (by decide) ?_); intro r' tr' x' y' tx' ty' n' h' tk' r0 r1 x0 y0 y1 F' N'))
        k_steps))
      · (rename News _ _ _ _ => n9)
        refine InvEndG.intro (nx := (_, _) :: (_, _) :: nx) (by k_asm) n9 ⟨_, .tup1 d, _, bgM_of rfl rfl, .tail _ (.tail _ a1), fun q hq => .tail _ (.tail _ (a2 q hq)), .tup1 (.head _) (.tail _ (.head _)) (a3.mono (sub_cons (sub_cons sub_self))), by simp only [Dm.lv]; omega, a5, by simp only [Dm.cnt]; omega⟩ (own_cons (by (try dsimp only); first | exact own_off (nx := nx) (And.right (by assumption)) | exact own_off (nx := nx) (And.right (And.right (by assumption))) | exact own_off2 (nx := nx) (by assumption)) (own_cons (by (try dsimp only); first | exact own_off (nx := nx) (And.right (by assumption)) | exact own_off (nx := nx) (And.right (And.right (by assumption))) | exact own_off2 (nx := nx) (by assumption)) ho)) (sub_cons_both (sub_cons_both (fun q hq => List.mem_append_left _ hq))) (fun q hq => .tail _ (.tail _ (List.mem_append_right _ hq)))
      · (rename News _ _ _ _ => n9)
        refine InvEndG.intro (nx := (_, _) :: (_, _) :: (_, _) :: nx) (by k_asm) n9 ⟨_, .tup2 .nothing d, _, bgM_of rfl rfl, .tail _ (.tail _ (.tail _ a1)), fun q hq => .tail _ (.tail _ (.tail _ (a2 q hq))), .tup2 (.head _) (.tail _ (.head _)) (.nothing (.tail _ (.tail _ (.head _)))) (a3.mono (sub_cons (sub_cons (sub_cons sub_self)))), by have := d.lv_pos; simp only [Dm.lv]; omega, ⟨trivial, a5⟩, by simp only [Dm.cnt]; omega⟩ (own_cons (by (try dsimp only); first | exact own_off (nx := nx) (And.right (by assumption)) | exact own_off (nx := nx) (And.right (And.right (by assumption))) | exact own_off2 (nx := nx) (by assumption)) (own_cons (by (try dsimp only); first | exact own_off (nx := nx) (And.right (by assumption)) | exact own_off (nx := nx) (And.right (And.right (by assumption))) | exact own_off2 (nx := nx) (by assumption)) (own_cons (by (try dsimp only); first | exact own_off (nx := nx) (And.right (by assumption)) | exact own_off (nx := nx) (And.right (And.right (by assumption))) | exact own_off2 (nx := nx) (by assumption)) ho))) (sub_cons_both (sub_cons_both (sub_cons_both (fun q hq => List.mem_append_left _ hq)))) (fun q hq => .tail _ (.tail _ (.tail _ (List.mem_append_right _ hq))))
    · intro v d u nx h tk₁ a1 a2 a3 a4 a5 a6 F₁ N₁
      k_steps
      repeat (any_goals (
        (with_reducible refine hold_un ?_)
        (first
          | ((with_reducible show wpAny _ _ (call (Value.ref 888) _) _ _ _); k_dflt (refine c_digit (by k_asm) (by k_asm) (by k_asm) (by k_asm) (by assumption) (by k_asm) rfl (by ktr_room) (by ktr_units) (by assumption) (by assumption) (by assumption) (by decide) (by decide) ?_); intro r' tr' x' y' tx' ty' n' h' tk' r0 r1 x0 y0 y1 F' N'))
        k_steps))
      (rename News h₀ L _ _ => n9)
      rw [← a4] at n9
      exact ret _ _ _ _ d _ _ _ _ _ _ _ _ _ (by assumption) (by assumption) (by assumption) (a3.mono (sub_cons sub_self)) rfl (by first | walk_report | k_slotget | omega) (by first | walk_report | k_slotget | omega) a5 a6 (fun q hq => .tail _ (a2 q hq)) (.tail _ a1) (.head _) (by k_asm) n9
  · refine hold ?_
    (rename Fr _ _ _ _ => f9)
    refine For_invVF f9 rfl rfl ?_
    have hq8 : HKey "pyIter ref" := .mk
    k_steps
    repeat (any_goals (
      (with_reducible refine hold_un ?_)
      (first
        | ((with_reducible show wpAny _ _ (call (Value.ref 888) _) _ _ _); k_dflt (refine c_digit (by k_asm) (by k_asm) (by k_asm) (by k_asm) (by assumption) (by k_asm) rfl (by ktr_room) (by ktr_units) (by assumption) (by assumption) (by assumption) (by decide) (by decide) ?_); intro r' tr' x' y' tx' ty' n' h' tk' r0 r1 x0 y0 y1 F' N'))
      k_steps))
    clear hq8
    (rename IsRange _ _ _ _ _ _ _ _ => hr9)
    (rename Fr _ _ _ _ => f8)
    (rename News _ _ _ _ => n8)
    refine hold (bg_start (rest := rest) (l := l) rfl hr9 (by first | walk_report | k_slotget | omega) (by first | walk_report | k_slotget | omega) f8 n8 (.tail _ (.head _)) (fun q hq => .tail _ (.tail _ hq)) rfl rfl (.sym (.head _)) rfl trivial (Nat.le_refl _) ?_ ?_)
    · intro i t v d u nx h tk₁ own hi ho a1 a2 a3 a4 a5 a6 F₁ N₁
      k_fold
      k_steps
      repeat (any_goals (
        (with_reducible refine hold_un ?_)
        (first
          | ((with_reducible show wpAny _ _ (call (Value.ref 888) _) _ _ _); k_dflt (refine c_digit (by k_asm) (by k_asm) (by k_asm) (by k_asm) (by assumption) (by k_asm) rfl (by ktr_room) (by ktr_units) (by assumption) (by assumption) (by assumption) (by decide) (by decide) ?_); intro r' tr' x' y' tx' ty' n' h' tk' r0 r1 x0 y0 y1 F' N'))
        k_steps))
      · (rename News _ _ _ _ => n9)
        refine InvEndG.intro (nx := (_, _) :: (_, _) :: nx) (by k_asm) n9 ⟨_, .tup1 d, _, bgM_of rfl rfl, .tail _ (.tail _ a1), fun q hq => .tail _ (.tail _ (a2 q hq)), .tup1 (.head _) (.tail _ (.head _)) (a3.mono (sub_cons (sub_cons sub_self))), by simp only [Dm.lv]; omega, a5, by simp only [Dm.cnt]; omega⟩ (own_cons (by (try dsimp only); first | exact own_off (nx := nx) (And.right (by assumption)) | exact own_off (nx := nx) (And.right (And.right (by assumption))) | exact own_off2 (nx := nx) (by assumption)) (own_cons (by (try dsimp only); first | exact own_off (nx := nx) (And.right (by assumption)) | exact own_off (nx := nx) (And.right (And.right (by assumption))) | exact own_off2 (nx := nx) (by assumption)) ho)) (sub_cons_both (sub_cons_both (fun q hq => List.mem_append_left _ hq))) (fun q hq => .tail _ (.tail _ (List.mem_append_right _ hq)))
      · (rename News _ _ _ _ => n9)
        refine InvEndG.intro (nx := (_, _) :: (_, _) :: (_, _) :: nx) (by k_asm) n9 ⟨_, .tup2 .nothing d, _, bgM_of rfl rfl, .tail _ (.tail _ (.tail _ a1)), fun q hq => .tail _ (.tail _ (.tail _ (a2 q hq))), .tup2 (.head _) (.tail _ (.head _)) (.nothing (.tail _ (.tail _ (.head _)))) (a3.mono (sub_cons (sub_cons (sub_cons sub_self)))), by have := d.lv_pos; simp only [Dm.lv]; omega, ⟨trivial, a5⟩, by simp only [Dm.cnt]; omega⟩ (own_cons (by (try dsimp only); first | exact own_off (nx := nx) (And.right (by assumption)) | exact own_off (nx := nx) (And.right (And.right (by assumption))) | exact own_off2 (nx := nx) (by assumption)) (own_cons (by (try dsimp only); first | exact own_off (nx := nx) (And.right (by assumption)) | exact own_off (nx := nx) (And.right (And.right (by assumption))) | exact own_off2 (nx := nx) (by assumption)) (own_cons (by (try dsimp only); first | exact own_off (nx := nx) (And.right (by assumption)) | exact own_off (nx := nx) (And.right (And.right (by assumption))) | exact own_off2 (nx := nx) (by assumption)) ho))) (sub_cons_both (sub_cons_both (sub_cons_both (fun q hq => List.mem_append_left _ hq)))) (fun q hq => .tail _ (.tail _ (.tail _ (List.mem_append_right _ hq))))
    · intro v d u nx h tk₁ a1 a2 a3 a4 a5 a6 F₁ N₁
      k_steps
      repeat (any_goals (
        (with_reducible refine hold_un ?_)
        (first
          | ((with_reducible show wpAny _ _ (call (Value.ref 888) _) _ _ _); k_dflt (refine c_digit (by k_asm) (by k_asm) (by k_asm) (by k_asm) (by assumption) (by k_asm) rfl (by ktr_room) (by ktr_units) (by assumption) (by assumption) (by assumption) (by decide) (by decide) ?_); intro r' tr' x' y' tx' ty' n' h' tk' r0 r1 x0 y0 y1 F' N'))
        k_steps))
      (rename News h₀ L _ _ => n9)
      rw [← a4] at n9
      exact ret _ _ _ _ d _ _ _ _ _ _ _ _ _ (by assumption) (by assumption) (by assumption) (a3.mono (sub_cons sub_self)) rfl (by first | walk_report | k_slotget | omega) (by first | walk_report | k_slotget | omega) a5 a6 (fun q hq => .tail _ (a2 q hq)) (.tail _ a1) (.head _) (by k_asm) n9
end
section
open PySem PySem.Spec PySem.Calls PySem.W PyProof.Rows
theorem c_source {w : World} {dp un : Nat} {gd : Option (List Code)} {cn : Str} {cs : Scope} {a : Addr} {ccd : Value} {cl : List (Str × Addr)} {outer : List Env} {A₀ : Around} {base h₀ : Heap} {L : Addr} {m mg mb : Str → Option Value} {mean : ExcName → Option Value} {news : List (Addr × Obj)} {s : Shared} {c : Addr} {vs : List Value} {ns : List Int} {Q E : Value → Shared → Prop}
    (B : Below A₀ base outer h₀) (F : Fr h₀ L s.heap m) (X : (KK w.params).In h₀) (N : News h₀ L s.heap news) (T : Top topProg LL mean mg mb h₀) (hk : cs.kind = .function) (hdp : dp + 10 < recursionLimit) (hun : un + 200 < cLine)
    (hL : base.IsList c vs.toArray) (hI : IntsAre vs ns) (hlen : ¬ (63 : Int) < (ns.length : Int))
    (ret : ∀ l x y tx ty n h' tk', 0 ≤ x → 0 ≤ y → y < 2147483700 → Fr h₀ L h' m → News h₀ L h' ((l, listOf #[.int x tx, .int y ty] n) :: news) → (∀ p ∈ news, p.1 < l) → Q (.ref l) { s with heap := h', toks := tk' }) :
    wpAny (model PySem.Challenge.rw_sf0048_01.row.prog w) (ktrTop dp un gd cn cs L a ccd cl outer) (call (.ref 881) [.ref c]) Q E s := by
  revert X; (w_top off; k_fill); intro X
  obtain ⟨kind, names, gen, coro, more⟩ := cs
  cases hk
  refine wpAny_call ?_
  k_dflt k_enter
  k_steps
  all_goals (
    (rename News h₀ L _ _ => n9)
    refine ret _ _ _ _ _ _ _ _ ?_ ?_ ?_ (by k_asm) n9 ?_)
  all_goals first
    | (refine Int.add_nonneg (Int.fmod_nonneg_of_pos _ (by decide)) (by decide); done)
    | (refine Int.lt_trans (Int.add_lt_add_right (Int.fmod_lt_of_pos _ (b := 2147483647) (by decide)) 31) (by decide); done)
    | omega
    | assumption
    | exact tb_ltOf (by assumption)
    | exact tb_ltOf (And.right (by assumption))
end
section
open PySem PySem.Spec PySem.Calls PySem.W PyProof.Rows
/-- what a deed does, called without arguments: it hands over or throws -/
noncomputable def WorkC (w : World) (mean : ExcName → Option Value) (mg mb : Str → Option Value) (f : Addr) (news₀ : List (Addr × Obj)) (V : List (Addr × Obj) → Value → Prop) (Good : Prop) : Prop :=
  ∀ (dp un : Nat) (gd : Option (List Code)) (cn : Str) (cs : Scope) (a : Addr) (ccd : Value) (cl : List (Str × Addr)) (outer : List Env) (A₀ : Around) (base h₀ : Heap) (L : Addr) (m : Str → Option Value) (news : List (Addr × Obj)) (s : Shared) (Q E : Value → Shared → Prop),
    Below A₀ base outer h₀ → Fr h₀ L s.heap m → (KK w.params).In h₀ → News h₀ L s.heap news → Top topProg LL mean mg mb h₀ → cs.kind = .function → (∀ p ∈ news₀, p ∈ news) → dp + 240 < recursionLimit → un + 2400 < cLine →
    (∀ r h' tk' nx, Fr h₀ L h' m → News h₀ L h' nx → (∀ p ∈ news, p ∈ nx) → V nx r → Good → Q r { s with heap := h', toks := tk' }) →
    (∀ e t dx tm nx g₂ h' tk', Fr h₀ L g₂ m → Aloft base g₂ (envX cn cs L a ccd cl :: outer) e t dx tm nx h' → g₂.UpToSlots h' → (∀ p ∈ news, p ∈ nx) → DictV w nx dx → ¬ Good → E (.ref e) { s with heap := h', toks := tk' }) →
    wpAny (model PySem.Challenge.rw_sf0048_01.row.prog w) (ktrTop dp un gd cn cs L a ccd cl outer) (call (.ref f) []) Q E s
noncomputable def RefusedV (led : List (Addr × Obj)) (r : Value) : Prop := ∃ a t n v, r = .ref a ∧ (a, tupO [.str (Str.ofString "refused") t, v] n) ∈ led ∧ RefV led v

local macro_rules | `(tactic| walk_at "callWith ref") => `(tactic| ((refine callWith_F0 (FnAt.of (by k_asm) (by assumption)) ?_); try dsimp only [List.nil_append, List.cons_append]))
theorem c_told {w : World} {dp un : Nat} {gd : Option (List Code)} {cn : Str} {cs : Scope} {a : Addr} {ccd : Value} {cl : List (Str × Addr)} {A₀ : Around} {base h₀ : Heap} {L : Addr} {m mg mb : Str → Option Value} {mean : ExcName → Option Value} {news : List (Addr × Obj)} {s : Shared} {f : Addr} {V : List (Addr × Obj) → Value → Prop} {Good : Prop} {Q E : Value → Shared → Prop}
    (B : Below A₀ base [] h₀) (F : Fr h₀ L s.heap m) (X : (KK w.params).In h₀) (XB : (KK w.params).In base) (N : News h₀ L s.heap news) (T : Top topProg LL mean mg mb h₀) (TB : Top topProg LL mean mg mb base) (hk : cs.kind = .function) (hdp : dp + 250 < recursionLimit) (hun : un + 2500 < cLine)
    (hfn : ∃ fd dd sl, (f, (⟨.type "function", dd, .func fd, sl⟩ : Obj)) ∈ news) (W : WorkC w mean mg mb f news V Good)
    (ret : ∀ r h' tk' nx, Fr h₀ L h' m → News h₀ L h' nx → (∀ p ∈ news, p ∈ nx) → ((Good ∧ V nx r) ∨ (¬ Good ∧ RefusedV nx r)) → Q r { s with heap := h', toks := tk' }) :
    wpAny (model PySem.Challenge.rw_sf0048_01.row.prog w) (ktrTop dp un gd cn cs L a ccd cl []) (call (.ref 909) [.ref f]) Q E s := by
  unfold WorkC at W
  revert X XB W; (w_top off; k_fill); intro X XB W
  have hm0 : HC f := .mk
  obtain ⟨kind, names, gen, coro, more⟩ := cs
  cases hk
  obtain ⟨fd, fdd, fsl, hfn⟩ := hfn
  refine wpAny_call ?_
  refine' enter_try ?B ?F ?X ?N ?T ?A ?f ?k ?ho ?hcd ?room ?bind ?loc ?_ ?co ?gen ?kk ?cell
  case B => assumption
  case F => assumption
  case X => assumption
  case N => assumption
  case T => assumption
  case A => exact rfl
  case f => exact rfl
  case k => exact rfl
  case ho => k_is
  case hcd => k_is
  case room => k_room
  case bind => exact BindsTo.of_eq rfl
  case loc => exact locs rfl
  case co => exact rfl
  case gen => exact rfl
  case kk => exact rfl
  case cell => exact (by decide +kernel)
  intro g' L' h' FG' F' N' B' X' T' D' l1
  k_fold
  k_steps
  refine hold (W _ _ _ _ _ _ _ _ _ _ _ _ _ _ _ _ _ _ B' (by k_asm) X' (by k_asm) T' rfl sub_self (by ktr_room) (by ktr_units) ?_ ?_)
  · intro r h1 tk1 nx F1 N1 sub1 v1 g1
    refine leaveS0_ F1 N1 KtsTurn.refl ?_
    intro kF kN
    exact ret _ _ _ _ kF kN sub1 (.inl ⟨g1, v1⟩)
  · intro e t dx tm nx g₂ h1 tk1 F2 al up sub1 dv hb
    refine caughtD al F2 B' up XB TB D' KtsTurn.refl (by k_is) (by kernel_rfl) ?_
    intro h2 g2 tk2 oe ws T2 F3 hc hd hdt N3 B3 X3 T3 D3
    obtain ⟨oc, od, odt, osl⟩ := oe
    dsimp only at hc hd hdt
    subst hc hd hdt
    obtain ⟨v9, t1, t2, t3, t4, hdx, hv⟩ := dv
    obtain ⟨p9, hp9⟩ : ∃ p, v9 = .ref p := by obtain ⟨D, _, _, _, _, _, _, _, _, _, _, _, _, _, _, h, _⟩ := hv; exact ⟨D, h⟩
    subst hp9
    have hq8 : HKey "getAttr ref" := .mk
    k_steps
    refine hold ?_
    refine getAttr_value rfl (by show dp + 1 + 100 < recursionLimit; omega) (by ktr_units) (by k_in) (N3 _ (.head _)).1 (N3 _ (.tail _ hdx)).1 ?_
    intro h4 tk4 kp4
    have F4 := F3.keeps kp4
    have N4 := N3.grown kp4
    clear F3 N3
    clear hq8
    k_steps
    (rename News h₀ L _ _ => n9)
    exact ret _ _ _ _ (by k_asm) n9 (fun p hp => .tail _ (.tail _ (sub1 p hp))) (.inr ⟨hb, _, _, _, _, rfl, .head _, hv.mono (sub_cons (sub_cons sub_self))⟩)
end
section
open PySem PySem.Spec PySem.Calls PySem.W PyProof.Rows
/-- what a lambda's body does in its own scope -/
noncomputable def BodyC (w : World) (mean : ExcName → Option Value) (mg mb : Str → Option Value) (qual : Str) (scope : Scope) (f c' : Addr) (clos : List (Str × Addr)) (body : PySem.Expr) (news₀ : List (Addr × Obj)) (V : List (Addr × Obj) → Value → Prop) (Good : Prop) : Prop :=
  ∀ (dp un : Nat) (gd : Option (List Code)) (outer : List Env) (A₀ : Around) (base h₀ : Heap) (L : Addr) (news : List (Addr × Obj)) (s : Shared) (Q E : Value → Shared → Prop),
    Below A₀ base outer h₀ → Fr h₀ L s.heap (fun _ => none) → (KK w.params).In h₀ → News h₀ L s.heap news → Top topProg LL mean mg mb h₀ → (∀ p ∈ news₀, p ∈ news) → dp + 235 < recursionLimit → un + 2350 < cLine →
    (∀ r h' tk' nx m', Fr h₀ L h' m' → News h₀ L h' nx → (∀ p ∈ news, p ∈ nx) → V nx r → Good → Q r { s with heap := h', toks := tk' }) →
    (∀ e t dx tm nx g₂ h' tk' m', Fr h₀ L g₂ m' → Aloft base g₂ (envX qual scope L f (.ref c') clos :: outer) e t dx tm nx h' → g₂.UpToSlots h' → (∀ p ∈ news, p ∈ nx) → DictV w nx dx → ¬ Good → E (.ref e) { s with heap := h', toks := tk' }) →
    wpAny (model PySem.Challenge.rw_sf0048_01.row.prog w) (ktrTop dp un gd qual scope L f (.ref c') clos outer) (eval body (envX qual scope L f (.ref c') clos)) Q E s

theorem work_lam {w : World} {mean : ExcName → Option Value} {mg mb : Str → Option Value} {name qual : Str} {params : Arguments} {body : PySem.Expr} {scope : Scope} {clos : List (Str × Addr)} {pm ctv : Value} {f c' : Addr} {oc : Obj} {vs : Array Value} {t : Tok} {news₀ : List (Addr × Obj)} {V : List (Addr × Obj) → Value → Prop} {Good : Prop}
    (hf : (f, kla_obj name qual params body scope clos pm c' ctv) ∈ news₀) (hc : (c', oc) ∈ news₀) (d1 : oc.data = .fields vs) (d2 : vs[1]? = some (.str qual t))
    (hbind : bindArgs (kla_fn name qual params body scope clos pm (.ref c') ctv) ⟨[], []⟩ = pure []) (hco : scope.isCoroutine = false) (hgen : scope.isGenerator = false) (hks : scope.kind = .function) (hcell : ∀ x ∈ scope.names, x.2 ≠ .cell)
    (hb : BodyC w mean mg mb qual scope f c' clos body news₀ V Good) : WorkC w mean mg mb f news₀ V Good := by
  intro dp un gd cn cs a ccd cl outer A₀ base h₀ L m news s Q E B F X N T hk sub hdp hun ret err
  refine wpAny_call ?_
  refine kla_code B F X N T rfl rfl hk (sub _ hf) (codeRec_news N (sub _ hc) d1 d2) (by show dp < recursionLimit; omega) hbind (fun _ h => nomatch h) ?_ hco hgen hks hcell
  intro g L' h₁ FG F' N' B' X' T'
  refine hb _ _ _ _ _ _ _ _ _ _ _ _ B' F' X' N' T' sub (by ktr_room) (by ktr_units) ?_ ?_
  · intro r h' tk' nx m' F1 N1 sub1 v1 g1
    exact ⟨L', m', nx, F1, N1, fun kF kN => ret r h' tk' nx kF kN sub1 v1 g1⟩
  · intro e t dx tm nx g₂ h' tk' m' F2 al up sub2 dv hbad
    refine leave_onD B' F2 al up rfl ?_
    intro h9 al9 up9
    exact err _ _ _ _ _ _ _ _ FG al9 up9 sub2 dv hbad
end
section
open PySem PySem.Spec PySem.Calls PySem.W PyProof.Rows
local macro_rules | `(tactic| k_mem) => `(tactic| assumption)
local macro_rules | `(tactic| walk_at "subscriptTail") => `(tactic| ((with_reducible show wpAny _ _ (subscriptTail _ _ (Value.ref _) (Value.int _ _)) _ _ _); k_dflt (refine item_tupleT (News.isTup (by k_asm) (by k_mem)) (by decide) (by decide) (by rfl) (by rfl) ?_)))
local macro_rules | `(tactic| walk_at "eval ListComp") => `(tactic| k_dflt (refine comp_tup (by k_asm) (by with_unfolding_all rfl) (by decide) (by rfl) (by decide) (by rfl) ?_))
local macro_rules | `(tactic| walk_at "TupSrc") => `(tactic| ((k_dflt (refine TupSrc.intro (by rfl) (by k_asm) (by k_asm) (by k_mem) (Nat.le_of_ble_eq_true rfl) ?_)); intro g'; lcg_lit))
section
open PySem PySem.Spec PySem.Calls PySem.W PyProof.Rows
local macro_rules | `(tactic| walk_at "execs cons") => `(tactic| ((show wpAny _ _ _ _ _ _); k_fold))
theorem len4 {v l c m x n : Nat} (h1 : v = l) (h2 : l ≤ c) (h3 : m + (x + c) = n) (h4 : 1 ≤ x) (h5 : n ≤ 4000) : v ≤ 3999 := by omega
theorem le5 {a : Nat} (h : a ≤ 3999) : a ≤ 5000 := Nat.le_trans h (by decide)
theorem le5a {a k : Nat} (h : a ≤ 3999) (hk : k ≤ 1001) : a + k ≤ 5000 := Nat.add_le_add h hk
theorem size_snoc {vs : List Value} {x : Value} {k : Nat} : ((vs ++ [x]).toArray.size != (#[] : Array Value).size) = true := by simp
theorem hold_p {P : Prop} (h : Hold P) : P := h
theorem ite_yes {p : Prop} [Decidable p] {P Q : Prop} (h : p) (x : P) : if p then P else Q := by rw [if_pos h]; exact x
theorem ite_no {p : Prop} [Decidable p] {P Q : Prop} (h : ¬ p) (x : Q) : if p then P else Q := by rw [if_neg h]; exact x
theorem ite_both {p : Prop} [Decidable p] {P Q : Prop} (x : p → P) (y : ¬ p → Q) : if p then P else Q := by
  by_cases h : p
  · rw [if_pos h]; exact x h
  · rw [if_neg h]; exact y h
local macro_rules | `(tactic| walk_at "ite") => `(tactic| first
  | (refine ite_yes (by first | (with_reducible rfl) | (simp only [decide_eq_true_eq]; omega)) ?_)
  | (refine ite_no (by first | (with_reducible exact Bool.false_ne_true) | (simp only [decide_eq_true_eq]; omega)) ?_)
  | (refine ite_both (fun hI => ?_) (fun hI => ?_) <;> simp only [decide_eq_true_eq, decide_eq_false_iff_not] at hI))
noncomputable def ThrP (g : Heap) (E : Value → Shared → Prop) (v : Value) (s₁ : Shared) : Prop := ∃ e dx t, v = .ref e ∧ g.StaysIn s₁.heap ∧ s₁.heap.get? e = some (excO 83 dx t) ∧ E (.ref e) s₁
theorem raise_thrown {M : Model} {A : Around} {E : Value → Shared → Prop} {s : Shared} {env : Env} {x : PySem.Expr} {pos : Pos} {Q : Flow → Shared → Prop} {K : Frag} {g : Heap} (X : K.In g) (q : ktsIn K 83 "BaseException" = true) (hh : A.handled = none)
    (h : wpAny M A (eval x env) (ThrP g E) E s) : wpAny M A (exec (.Raise (some x) none pos) env) Q E s := by
  obtain ⟨nm, q', N, bs, bm, hdct, sn, sub, ab, col, dd, k0, k1, k2, k3, k5, newId, hC, hbase, hbT⟩ := kts_cls X q
  refine raise_obj (C := 83) (nm := nm) (q := q') (N := N) (bs := bs) (hdct := hdct) (sn := sn) (sub := sub) (ab := ab) (col := col) (dd := dd) (k0 := k0) (k1 := k1) (k2 := k2) (k3 := k3) (k5 := k5) (newId := newId) hbase hh (wpAny_mono h (fun v s₁ h₁ => ?_) fun _ _ x => x)
  obtain ⟨e, dx, t, rfl, st, he, hE⟩ := h₁
  exact ⟨e, dx, t, rfl, st _ _ hC, he, hE⟩
theorem thrP_of {g : Heap} {L e dx t : Addr} {m : Str → Option Value} {E : Value → Shared → Prop} {s₁ : Shared} {tm : Tok} {nx : List (Addr × Obj)} (F : Fr g L s₁.heap m) (N : News g L s₁.heap ((e, excO 83 dx t) :: (t, tupO (msgT tm) 0) :: nx)) (h : E (.ref e) s₁) : ThrP g E (.ref e) s₁ :=
  ⟨e, dx, t, rfl, F.keep, (N _ (.head _)).1, h⟩
theorem good_le {d : Dm} {k : Nat} (h : d.good k) : k ≤ 60 := by
  have := (d.good_iff k).mp h; have := d.lv_pos; omega
local macro_rules | `(tactic| walk_at $k:str) => `(tactic| with_reducible (refine hold_key $k (by assumption) ?_))
theorem c_checked {w : World} {dp un : Nat} {gd : Option (List Code)} {cn : Str} {cs : Scope} {a : Addr} {ccd : Value} {cl : List (Str × Addr)} {outer : List Env} {A₀ : Around} {base h₀ : Heap} {L : Addr} {m mg mb : Str → Option Value} {mean : ExcName → Option Value} {news : List (Addr × Obj)} {s : Shared} {v : Value} {d : Dm} {Q E : Value → Shared → Prop}
    (B : Below A₀ base outer h₀) (F : Fr h₀ L s.heap m) (X : (KK w.params).In h₀) (N : News h₀ L s.heap news) (T : Top topProg LL mean mg mb h₀) (hk : cs.kind = .function) (hdp : dp + 120 < recursionLimit) (hun : un + 1100 < cLine)
    (hD : DIn news v d) (hcnt : d.cnt ≤ 4000)
    (ret : ∀ h' tk', Fr h₀ L h' m → News h₀ L h' news → d.good 1 → Q v { s with heap := h', toks := tk' })
    (err : ∀ e t dx tm nx g₂ h' tk', Fr h₀ L g₂ m → Aloft base g₂ (envX cn cs L a ccd cl :: outer) e t dx tm nx h' → g₂.UpToSlots h' → (∀ p ∈ news, p ∈ nx) → DictV w nx dx → ¬ d.good 1 → E (.ref e) { s with heap := h', toks := tk' }) :
    wpAny (model PySem.Challenge.rw_sf0048_01.row.prog w) (ktrTop dp un gd cn cs L a ccd cl outer) (call (.ref 712) [v]) Q E s := by
  revert X; (w_top off; k_fill); intro X
  have hn0 : HC 120 := .mk
  have hn1 : HKey "CompEnd" := .mk
  have hn2 : HKey "call builtin:list.extend" := .mk
  have hn3 : HKey "compareOp NotEq ref ref" := .mk
  have hn4 : HKey "call builtin:list.pop" := .mk
  have hm0 : HKey "exec While Compare cons nil" := .mk
  have hm1 : HKey "exec Raise some none" := .mk
  obtain ⟨kind, names, gen, coro, more⟩ := cs
  cases hk
  refine wpAny_call ?_
  k_dflt k_enter
  k_steps
  repeat (any_goals (
    (with_reducible refine hold_un ?_)
    (first
      | ((with_reducible show wpAny _ _ (call (Value.ref 120) _) _ _ _); k_dflt (refine c_thrown_text (by k_asm) (by k_asm) (by k_asm) (by k_asm) (by k_asm) rfl (by ktr_room) (by ktr_units) ?_); intro e' dx' t' h' tk' tm' nx' n1 n2 sub' dv' F' N')
      | ((with_reducible show LCg.CompEnd ..); (rename News _ _ _ _ => n9); k_dflt (refine compEnd_keep (by k_asm) n9 ⟨by k_ne, by k_ne, by k_ne⟩ (by assumption) (by ((try dsimp only); k_mem)) ?_); (try dsimp only [List.nil_append, List.cons_append]))
      | ((with_reducible show wpAny _ _ (call (Value.builtin "list.extend") _) _ _ _); (rename News _ _ _ _ => n9); (rename Fr _ _ _ _ => f9); k_dflt (refine kl_extend f9 n9 (List.Mem.head _) rfl (Nat.succ_ne_zero _) (by k_upd) (ext_ok (by simp only [List.size_toArray, List.length_cons, List.length_nil]; first | exact le5 (by assumption) | exact le5a (by assumption) (by decide) | omega)) (le_line (by dsimp only; first | exact le5 (by assumption) | exact le5a (by assumption) (by decide) | omega)) (Nat.le_succ_of_le (le_line (by simp only [List.size_toArray, List.length_cons, List.length_nil]; first | exact le5 (by assumption) | exact le5a (by assumption) (by decide) | omega))) ?_); intro h' F' N'; (try k_sweep))
      | ((with_reducible show wpAny _ _ (call (Value.builtin "list.extend") _) _ _ _); (rename News _ _ _ _ => n9); (rename Fr _ _ _ _ => f9); k_dflt (refine kxn_extend f9 n9 (List.Mem.head _) rfl (by k_upd) (ext_ok (by simp only [List.size_toArray, List.length_cons, List.length_nil]; first | exact le5 (by assumption) | exact le5a (by assumption) (by decide) | omega)) (le_line (by dsimp only; first | exact le5 (by assumption) | exact le5a (by assumption) (by decide) | omega)) (Nat.le_succ_of_le (le_line (by simp only [List.size_toArray, List.length_cons, List.length_nil]; first | exact le5 (by assumption) | exact le5a (by assumption) (by decide) | omega))) ?_); intro h' F' N'; (try k_sweep))
      | ((with_reducible show wpAny _ _ (compareOp _ _ _) _ _ _); (refine cmp_ofNotEq ?_); k_dflt (refine' PySem.SeqAt.RcNeAt.lists_lengths ?hl ?hb size_snoc ?hu _ _ _ _ ?_; (case hl => exact News.isList (by k_asm) (by k_mem)); (case hb => exact News.isList (by k_asm) (by k_mem)); (case hu => ktr_units)))
      | ((with_reducible show wpAny _ _ (call (Value.builtin "list.pop") _) _ _ _); k_dflt (refine' kl_pop ?F ?N (its := (_ : List Value).toArray) (kpa_last _ _) ?U ?z ?_; (case F => k_asm); (case N => k_asm); (case U => k_upd); (case z => exact le_line (by simp only [List.length_append, List.length_cons, List.length_nil]; first | exact le5 (by assumption) | exact le5a (by assumption) (by decide) | omega))); intro h' F' N'; (try k_sweep))
      | ((with_reducible show wpAny _ _ (compareOp _ _ _) _ _ _); (rename HKey "compareOp NotEq ref ref" => hz9); clear hz9))
    k_steps))
  refine hold ?_
  refine cp_start (by k_asm) (by k_asm) hD (by assumption) (by assumption) (by assumption) rfl ⟨_, by assumption⟩ rfl rfl rfl (by passes_own) ?_
  rintro n m₁ nx h₁ tk₁ F₁ N₁ ⟨vs, ds, k, tl, o, many, tm, u, rfl, rfl, hS, hnl, hnc, hcl, ⟨xc, hcell⟩, hsum, hok, rfl⟩
  cases hS with
  | nil =>
    k_fold
    k_steps
    repeat (any_goals (
      (with_reducible refine hold_un ?_)
      (first
        | ((with_reducible show wpAny _ _ (call (Value.ref 120) _) _ _ _); k_dflt (refine c_thrown_text (by k_asm) (by k_asm) (by k_asm) (by k_asm) (by k_asm) rfl (by ktr_room) (by ktr_units) ?_); intro e' dx' t' h' tk' tm' nx' n1 n2 sub' dv' F' N')
        | ((with_reducible show LCg.CompEnd ..); (rename News _ _ _ _ => n9); k_dflt (refine compEnd_keep (by k_asm) n9 ⟨by k_ne, by k_ne, by k_ne⟩ (by assumption) (by ((try dsimp only); k_mem)) ?_); (try dsimp only [List.nil_append, List.cons_append]))
        | ((with_reducible show wpAny _ _ (call (Value.builtin "list.extend") _) _ _ _); (rename News _ _ _ _ => n9); (rename Fr _ _ _ _ => f9); k_dflt (refine kl_extend f9 n9 (List.Mem.head _) rfl (Nat.succ_ne_zero _) (by k_upd) (ext_ok (by simp only [List.size_toArray, List.length_cons, List.length_nil]; first | exact le5 (by assumption) | exact le5a (by assumption) (by decide) | omega)) (le_line (by dsimp only; first | exact le5 (by assumption) | exact le5a (by assumption) (by decide) | omega)) (Nat.le_succ_of_le (le_line (by simp only [List.size_toArray, List.length_cons, List.length_nil]; first | exact le5 (by assumption) | exact le5a (by assumption) (by decide) | omega))) ?_); intro h' F' N'; (try k_sweep))
        | ((with_reducible show wpAny _ _ (call (Value.builtin "list.extend") _) _ _ _); (rename News _ _ _ _ => n9); (rename Fr _ _ _ _ => f9); k_dflt (refine kxn_extend f9 n9 (List.Mem.head _) rfl (by k_upd) (ext_ok (by simp only [List.size_toArray, List.length_cons, List.length_nil]; first | exact le5 (by assumption) | exact le5a (by assumption) (by decide) | omega)) (le_line (by dsimp only; first | exact le5 (by assumption) | exact le5a (by assumption) (by decide) | omega)) (Nat.le_succ_of_le (le_line (by simp only [List.size_toArray, List.length_cons, List.length_nil]; first | exact le5 (by assumption) | exact le5a (by assumption) (by decide) | omega))) ?_); intro h' F' N'; (try k_sweep))
        | ((with_reducible show wpAny _ _ (compareOp _ _ _) _ _ _); (refine cmp_ofNotEq ?_); k_dflt (refine' PySem.SeqAt.RcNeAt.lists_lengths ?hl ?hb size_snoc ?hu _ _ _ _ ?_; (case hl => exact News.isList (by k_asm) (by k_mem)); (case hb => exact News.isList (by k_asm) (by k_mem)); (case hu => ktr_units)))
        | ((with_reducible show wpAny _ _ (call (Value.builtin "list.pop") _) _ _ _); k_dflt (refine' kl_pop ?F ?N (its := (_ : List Value).toArray) (kpa_last _ _) ?U ?z ?_; (case F => k_asm); (case N => k_asm); (case U => k_upd); (case z => exact le_line (by simp only [List.length_append, List.length_cons, List.length_nil]; first | exact le5 (by assumption) | exact le5a (by assumption) (by decide) | omega))); intro h' F' N'; (try k_sweep))
        | ((with_reducible show wpAny _ _ (compareOp _ _ _) _ _ _); (rename HKey "compareOp NotEq ref ref" => hz9); clear hz9))
      k_steps))
    (rename News h₀ L _ _ => n9)
    refine ret _ _ (by k_asm) (fun p hp => n9 p (by repeat (first | exact List.mem_append_right _ hp | refine List.mem_cons_of_mem _ ?_))) (hok.mpr OkSt.nil)
  | @snoc vs ds p u e k t np hS hp hd =>
    k_fold
    have hq8 : HKey "exec If" := .mk
    simp only [cntSt] at hsum
    have hpos := e.cnt_pos
    have hvl := hS.length
    have hdl := len_cntSt ds
    have hv4 := len4 hvl hdl hsum hpos hcnt
    k_steps
    repeat (any_goals (
      (with_reducible refine hold_un ?_)
      (first
        | ((with_reducible show wpAny _ _ (call (Value.ref 120) _) _ _ _); k_dflt (refine c_thrown_text (by k_asm) (by k_asm) (by k_asm) (by k_asm) (by k_asm) rfl (by ktr_room) (by ktr_units) ?_); intro e' dx' t' h' tk' tm' nx' n1 n2 sub' dv' F' N')
        | ((with_reducible show LCg.CompEnd ..); (rename News _ _ _ _ => n9); k_dflt (refine compEnd_keep (by k_asm) n9 ⟨by k_ne, by k_ne, by k_ne⟩ (by assumption) (by ((try dsimp only); k_mem)) ?_); (try dsimp only [List.nil_append, List.cons_append]))
        | ((with_reducible show wpAny _ _ (call (Value.builtin "list.extend") _) _ _ _); (rename News _ _ _ _ => n9); (rename Fr _ _ _ _ => f9); k_dflt (refine kl_extend f9 n9 (List.Mem.head _) rfl (Nat.succ_ne_zero _) (by k_upd) (ext_ok (by simp only [List.size_toArray, List.length_cons, List.length_nil]; first | exact le5 (by assumption) | exact le5a (by assumption) (by decide) | omega)) (le_line (by dsimp only; first | exact le5 (by assumption) | exact le5a (by assumption) (by decide) | omega)) (Nat.le_succ_of_le (le_line (by simp only [List.size_toArray, List.length_cons, List.length_nil]; first | exact le5 (by assumption) | exact le5a (by assumption) (by decide) | omega))) ?_); intro h' F' N'; (try k_sweep))
        | ((with_reducible show wpAny _ _ (call (Value.builtin "list.extend") _) _ _ _); (rename News _ _ _ _ => n9); (rename Fr _ _ _ _ => f9); k_dflt (refine kxn_extend f9 n9 (List.Mem.head _) rfl (by k_upd) (ext_ok (by simp only [List.size_toArray, List.length_cons, List.length_nil]; first | exact le5 (by assumption) | exact le5a (by assumption) (by decide) | omega)) (le_line (by dsimp only; first | exact le5 (by assumption) | exact le5a (by assumption) (by decide) | omega)) (Nat.le_succ_of_le (le_line (by simp only [List.size_toArray, List.length_cons, List.length_nil]; first | exact le5 (by assumption) | exact le5a (by assumption) (by decide) | omega))) ?_); intro h' F' N'; (try k_sweep))
        | ((with_reducible show wpAny _ _ (compareOp _ _ _) _ _ _); (refine cmp_ofNotEq ?_); k_dflt (refine' PySem.SeqAt.RcNeAt.lists_lengths ?hl ?hb size_snoc ?hu _ _ _ _ ?_; (case hl => exact News.isList (by k_asm) (by k_mem)); (case hb => exact News.isList (by k_asm) (by k_mem)); (case hu => ktr_units)))
        | ((with_reducible show wpAny _ _ (call (Value.builtin "list.pop") _) _ _ _); k_dflt (refine' kl_pop ?F ?N (its := (_ : List Value).toArray) (kpa_last _ _) ?U ?z ?_; (case F => k_asm); (case N => k_asm); (case U => k_upd); (case z => exact le_line (by simp only [List.length_append, List.length_cons, List.length_nil]; first | exact le5 (by assumption) | exact le5a (by assumption) (by decide) | omega))); intro h' F' N'; (try k_sweep))
        | ((with_reducible show wpAny _ _ (compareOp _ _ _) _ _ _); (rename HKey "compareOp NotEq ref ref" => hz9); clear hz9))
      k_steps))
    try (any_goals exact (0 : Nat))
    clear hq8
    refine hold_un ?_
    have hq8 : HKey "ite" := .mk
    k_steps
    repeat (any_goals (
      (with_reducible refine hold_un ?_)
      (first
        | ((with_reducible show wpAny _ _ (call (Value.ref 120) _) _ _ _); k_dflt (refine c_thrown_text (by k_asm) (by k_asm) (by k_asm) (by k_asm) (by k_asm) rfl (by ktr_room) (by ktr_units) ?_); intro e' dx' t' h' tk' tm' nx' n1 n2 sub' dv' F' N')
        | ((with_reducible show LCg.CompEnd ..); (rename News _ _ _ _ => n9); k_dflt (refine compEnd_keep (by k_asm) n9 ⟨by k_ne, by k_ne, by k_ne⟩ (by assumption) (by ((try dsimp only); k_mem)) ?_); (try dsimp only [List.nil_append, List.cons_append]))
        | ((with_reducible show wpAny _ _ (call (Value.builtin "list.extend") _) _ _ _); (rename News _ _ _ _ => n9); (rename Fr _ _ _ _ => f9); k_dflt (refine kl_extend f9 n9 (List.Mem.head _) rfl (Nat.succ_ne_zero _) (by k_upd) (ext_ok (by simp only [List.size_toArray, List.length_cons, List.length_nil]; first | exact le5 (by assumption) | exact le5a (by assumption) (by decide) | omega)) (le_line (by dsimp only; first | exact le5 (by assumption) | exact le5a (by assumption) (by decide) | omega)) (Nat.le_succ_of_le (le_line (by simp only [List.size_toArray, List.length_cons, List.length_nil]; first | exact le5 (by assumption) | exact le5a (by assumption) (by decide) | omega))) ?_); intro h' F' N'; (try k_sweep))
        | ((with_reducible show wpAny _ _ (call (Value.builtin "list.extend") _) _ _ _); (rename News _ _ _ _ => n9); (rename Fr _ _ _ _ => f9); k_dflt (refine kxn_extend f9 n9 (List.Mem.head _) rfl (by k_upd) (ext_ok (by simp only [List.size_toArray, List.length_cons, List.length_nil]; first | exact le5 (by assumption) | exact le5a (by assumption) (by decide) | omega)) (le_line (by dsimp only; first | exact le5 (by assumption) | exact le5a (by assumption) (by decide) | omega)) (Nat.le_succ_of_le (le_line (by simp only [List.size_toArray, List.length_cons, List.length_nil]; first | exact le5 (by assumption) | exact le5a (by assumption) (by decide) | omega))) ?_); intro h' F' N'; (try k_sweep))
        | ((with_reducible show wpAny _ _ (compareOp _ _ _) _ _ _); (refine cmp_ofNotEq ?_); k_dflt (refine' PySem.SeqAt.RcNeAt.lists_lengths ?hl ?hb size_snoc ?hu _ _ _ _ ?_; (case hl => exact News.isList (by k_asm) (by k_mem)); (case hb => exact News.isList (by k_asm) (by k_mem)); (case hu => ktr_units)))
        | ((with_reducible show wpAny _ _ (call (Value.builtin "list.pop") _) _ _ _); k_dflt (refine' kl_pop ?F ?N (its := (_ : List Value).toArray) (kpa_last _ _) ?U ?z ?_; (case F => k_asm); (case N => k_asm); (case U => k_upd); (case z => exact le_line (by simp only [List.length_append, List.length_cons, List.length_nil]; first | exact le5 (by assumption) | exact le5a (by assumption) (by decide) | omega))); intro h' F' N'; (try k_sweep))
        | ((with_reducible show wpAny _ _ (compareOp _ _ _) _ _ _); (rename HKey "compareOp NotEq ref ref" => hz9); clear hz9))
      k_steps))
    refine hold_un (ite_no (by simp only [decide_eq_true_eq]; omega) ?_)
    k_steps
    repeat (any_goals (
      (with_reducible refine hold_un ?_)
      (first
        | ((with_reducible show wpAny _ _ (call (Value.ref 120) _) _ _ _); k_dflt (refine c_thrown_text (by k_asm) (by k_asm) (by k_asm) (by k_asm) (by k_asm) rfl (by ktr_room) (by ktr_units) ?_); intro e' dx' t' h' tk' tm' nx' n1 n2 sub' dv' F' N')
        | ((with_reducible show LCg.CompEnd ..); (rename News _ _ _ _ => n9); k_dflt (refine compEnd_keep (by k_asm) n9 ⟨by k_ne, by k_ne, by k_ne⟩ (by assumption) (by ((try dsimp only); k_mem)) ?_); (try dsimp only [List.nil_append, List.cons_append]))
        | ((with_reducible show wpAny _ _ (call (Value.builtin "list.extend") _) _ _ _); (rename News _ _ _ _ => n9); (rename Fr _ _ _ _ => f9); k_dflt (refine kl_extend f9 n9 (List.Mem.head _) rfl (Nat.succ_ne_zero _) (by k_upd) (ext_ok (by simp only [List.size_toArray, List.length_cons, List.length_nil]; first | exact le5 (by assumption) | exact le5a (by assumption) (by decide) | omega)) (le_line (by dsimp only; first | exact le5 (by assumption) | exact le5a (by assumption) (by decide) | omega)) (Nat.le_succ_of_le (le_line (by simp only [List.size_toArray, List.length_cons, List.length_nil]; first | exact le5 (by assumption) | exact le5a (by assumption) (by decide) | omega))) ?_); intro h' F' N'; (try k_sweep))
        | ((with_reducible show wpAny _ _ (call (Value.builtin "list.extend") _) _ _ _); (rename News _ _ _ _ => n9); (rename Fr _ _ _ _ => f9); k_dflt (refine kxn_extend f9 n9 (List.Mem.head _) rfl (by k_upd) (ext_ok (by simp only [List.size_toArray, List.length_cons, List.length_nil]; first | exact le5 (by assumption) | exact le5a (by assumption) (by decide) | omega)) (le_line (by dsimp only; first | exact le5 (by assumption) | exact le5a (by assumption) (by decide) | omega)) (Nat.le_succ_of_le (le_line (by simp only [List.size_toArray, List.length_cons, List.length_nil]; first | exact le5 (by assumption) | exact le5a (by assumption) (by decide) | omega))) ?_); intro h' F' N'; (try k_sweep))
        | ((with_reducible show wpAny _ _ (compareOp _ _ _) _ _ _); (refine cmp_ofNotEq ?_); k_dflt (refine' PySem.SeqAt.RcNeAt.lists_lengths ?hl ?hb size_snoc ?hu _ _ _ _ ?_; (case hl => exact News.isList (by k_asm) (by k_mem)); (case hb => exact News.isList (by k_asm) (by k_mem)); (case hu => ktr_units)))
        | ((with_reducible show wpAny _ _ (call (Value.builtin "list.pop") _) _ _ _); k_dflt (refine' kl_pop ?F ?N (its := (_ : List Value).toArray) (kpa_last _ _) ?U ?z ?_; (case F => k_asm); (case N => k_asm); (case U => k_upd); (case z => exact le_line (by simp only [List.length_append, List.length_cons, List.length_nil]; first | exact le5 (by assumption) | exact le5a (by assumption) (by decide) | omega))); intro h' F' N'; (try k_sweep))
        | ((with_reducible show wpAny _ _ (compareOp _ _ _) _ _ _); (rename HKey "compareOp NotEq ref ref" => hz9); clear hz9))
      k_steps))
    refine hold_un (ite_both (fun hI => ?_) (fun hI => ?_))
    · simp only [decide_eq_true_eq] at hI
      have hbad : ¬ d.good 1 := fun h => by
        have h2 := good_le (hok.mp h _ (.head _))
        dsimp only at h2
        omega
      clear hq8
      k_steps
      repeat (any_goals (
        (with_reducible refine hold_un ?_)
        (first
          | ((with_reducible show wpAny _ _ (call (Value.ref 120) _) _ _ _); k_dflt (refine c_thrown_text (by k_asm) (by k_asm) (by k_asm) (by k_asm) (by k_asm) rfl (by ktr_room) (by ktr_units) ?_); intro e' dx' t' h' tk' tm' nx' n1 n2 sub' dv' F' N')
          | ((with_reducible show LCg.CompEnd ..); (rename News _ _ _ _ => n9); k_dflt (refine compEnd_keep (by k_asm) n9 ⟨by k_ne, by k_ne, by k_ne⟩ (by assumption) (by ((try dsimp only); k_mem)) ?_); (try dsimp only [List.nil_append, List.cons_append]))
          | ((with_reducible show wpAny _ _ (call (Value.builtin "list.extend") _) _ _ _); (rename News _ _ _ _ => n9); (rename Fr _ _ _ _ => f9); k_dflt (refine kl_extend f9 n9 (List.Mem.head _) rfl (Nat.succ_ne_zero _) (by k_upd) (ext_ok (by simp only [List.size_toArray, List.length_cons, List.length_nil]; first | exact le5 (by assumption) | exact le5a (by assumption) (by decide) | omega)) (le_line (by dsimp only; first | exact le5 (by assumption) | exact le5a (by assumption) (by decide) | omega)) (Nat.le_succ_of_le (le_line (by simp only [List.size_toArray, List.length_cons, List.length_nil]; first | exact le5 (by assumption) | exact le5a (by assumption) (by decide) | omega))) ?_); intro h' F' N'; (try k_sweep))
          | ((with_reducible show wpAny _ _ (call (Value.builtin "list.extend") _) _ _ _); (rename News _ _ _ _ => n9); (rename Fr _ _ _ _ => f9); k_dflt (refine kxn_extend f9 n9 (List.Mem.head _) rfl (by k_upd) (ext_ok (by simp only [List.size_toArray, List.length_cons, List.length_nil]; first | exact le5 (by assumption) | exact le5a (by assumption) (by decide) | omega)) (le_line (by dsimp only; first | exact le5 (by assumption) | exact le5a (by assumption) (by decide) | omega)) (Nat.le_succ_of_le (le_line (by simp only [List.size_toArray, List.length_cons, List.length_nil]; first | exact le5 (by assumption) | exact le5a (by assumption) (by decide) | omega))) ?_); intro h' F' N'; (try k_sweep))
          | ((with_reducible show wpAny _ _ (compareOp _ _ _) _ _ _); (refine cmp_ofNotEq ?_); k_dflt (refine' PySem.SeqAt.RcNeAt.lists_lengths ?hl ?hb size_snoc ?hu _ _ _ _ ?_; (case hl => exact News.isList (by k_asm) (by k_mem)); (case hb => exact News.isList (by k_asm) (by k_mem)); (case hu => ktr_units)))
          | ((with_reducible show wpAny _ _ (call (Value.builtin "list.pop") _) _ _ _); k_dflt (refine' kl_pop ?F ?N (its := (_ : List Value).toArray) (kpa_last _ _) ?U ?z ?_; (case F => k_asm); (case N => k_asm); (case U => k_upd); (case z => exact le_line (by simp only [List.length_append, List.length_cons, List.length_nil]; first | exact le5 (by assumption) | exact le5a (by assumption) (by decide) | omega))); intro h' F' N'; (try k_sweep))
          | ((with_reducible show wpAny _ _ (compareOp _ _ _) _ _ _); (rename HKey "compareOp NotEq ref ref" => hz9); clear hz9))
        k_steps))
      refine hold ?_
      (rename Frag.In _ _ => x9)
      refine raise_thrown x9 (by kernel_rfl) (by rfl) ?_
      k_steps
      repeat (any_goals (
        (with_reducible refine hold_un ?_)
        (first
          | ((with_reducible show wpAny _ _ (call (Value.ref 120) _) _ _ _); k_dflt (refine c_thrown_text (by k_asm) (by k_asm) (by k_asm) (by k_asm) (by k_asm) rfl (by ktr_room) (by ktr_units) ?_); intro e' dx' t' h' tk' tm' nx' n1 n2 sub' dv' F' N')
          | ((with_reducible show LCg.CompEnd ..); (rename News _ _ _ _ => n9); k_dflt (refine compEnd_keep (by k_asm) n9 ⟨by k_ne, by k_ne, by k_ne⟩ (by assumption) (by ((try dsimp only); k_mem)) ?_); (try dsimp only [List.nil_append, List.cons_append]))
          | ((with_reducible show wpAny _ _ (call (Value.builtin "list.extend") _) _ _ _); (rename News _ _ _ _ => n9); (rename Fr _ _ _ _ => f9); k_dflt (refine kl_extend f9 n9 (List.Mem.head _) rfl (Nat.succ_ne_zero _) (by k_upd) (ext_ok (by simp only [List.size_toArray, List.length_cons, List.length_nil]; first | exact le5 (by assumption) | exact le5a (by assumption) (by decide) | omega)) (le_line (by dsimp only; first | exact le5 (by assumption) | exact le5a (by assumption) (by decide) | omega)) (Nat.le_succ_of_le (le_line (by simp only [List.size_toArray, List.length_cons, List.length_nil]; first | exact le5 (by assumption) | exact le5a (by assumption) (by decide) | omega))) ?_); intro h' F' N'; (try k_sweep))
          | ((with_reducible show wpAny _ _ (call (Value.builtin "list.extend") _) _ _ _); (rename News _ _ _ _ => n9); (rename Fr _ _ _ _ => f9); k_dflt (refine kxn_extend f9 n9 (List.Mem.head _) rfl (by k_upd) (ext_ok (by simp only [List.size_toArray, List.length_cons, List.length_nil]; first | exact le5 (by assumption) | exact le5a (by assumption) (by decide) | omega)) (le_line (by dsimp only; first | exact le5 (by assumption) | exact le5a (by assumption) (by decide) | omega)) (Nat.le_succ_of_le (le_line (by simp only [List.size_toArray, List.length_cons, List.length_nil]; first | exact le5 (by assumption) | exact le5a (by assumption) (by decide) | omega))) ?_); intro h' F' N'; (try k_sweep))
          | ((with_reducible show wpAny _ _ (compareOp _ _ _) _ _ _); (refine cmp_ofNotEq ?_); k_dflt (refine' PySem.SeqAt.RcNeAt.lists_lengths ?hl ?hb size_snoc ?hu _ _ _ _ ?_; (case hl => exact News.isList (by k_asm) (by k_mem)); (case hb => exact News.isList (by k_asm) (by k_mem)); (case hu => ktr_units)))
          | ((with_reducible show wpAny _ _ (call (Value.builtin "list.pop") _) _ _ _); k_dflt (refine' kl_pop ?F ?N (its := (_ : List Value).toArray) (kpa_last _ _) ?U ?z ?_; (case F => k_asm); (case N => k_asm); (case U => k_upd); (case z => exact le_line (by simp only [List.length_append, List.length_cons, List.length_nil]; first | exact le5 (by assumption) | exact le5a (by assumption) (by decide) | omega))); intro h' F' N'; (try k_sweep))
          | ((with_reducible show wpAny _ _ (compareOp _ _ _) _ _ _); (rename HKey "compareOp NotEq ref ref" => hz9); clear hz9))
        k_steps))
      (rename Fr _ _ _ _ => f9)
      (rename News _ _ _ _ => n9)
      (rename DictV _ _ _ => dv9)
      (rename ∀ p ∈ (_ : List (Addr × Obj)), p ∈ (_ : List (Addr × Obj)) => sub9)
      refine thrP_of f9 n9 (leave_first (by k_asm) f9 (fun q hq => n9 q (.tail _ (.tail _ hq))) (n9 _ (.head _)).1 (n9 _ (.head _)).2.2 (n9 _ (.tail _ (.head _))).1 (n9 _ (.tail _ (.head _))).2.2 (by assumption) rfl rfl ?_)
      intro h9 al9 up9
      refine err _ _ _ _ _ _ _ _ (by assumption) al9 up9 (fun p hp => sub9 p ?_) dv9 hbad
      repeat (first | exact List.mem_append_right _ hp | refine List.mem_cons_of_mem _ ?_)
    · simp only [decide_eq_true_eq] at hI
      clear hq8
      have hk60 : k ≤ 60 := by first | walk_report | k_slotget | omega
      cases hd
      · skip
        k_steps
        repeat (any_goals (
          (with_reducible refine hold_un ?_)
          (first
            | ((with_reducible show wpAny _ _ (call (Value.ref 120) _) _ _ _); k_dflt (refine c_thrown_text (by k_asm) (by k_asm) (by k_asm) (by k_asm) (by k_asm) rfl (by ktr_room) (by ktr_units) ?_); intro e' dx' t' h' tk' tm' nx' n1 n2 sub' dv' F' N')
            | ((with_reducible show LCg.CompEnd ..); (rename News _ _ _ _ => n9); k_dflt (refine compEnd_keep (by k_asm) n9 ⟨by k_ne, by k_ne, by k_ne⟩ (by assumption) (by ((try dsimp only); k_mem)) ?_); (try dsimp only [List.nil_append, List.cons_append]))
            | ((with_reducible show wpAny _ _ (call (Value.builtin "list.extend") _) _ _ _); (rename News _ _ _ _ => n9); (rename Fr _ _ _ _ => f9); k_dflt (refine kl_extend f9 n9 (List.Mem.head _) rfl (Nat.succ_ne_zero _) (by k_upd) (ext_ok (by simp only [List.size_toArray, List.length_cons, List.length_nil]; first | exact le5 (by assumption) | exact le5a (by assumption) (by decide) | omega)) (le_line (by dsimp only; first | exact le5 (by assumption) | exact le5a (by assumption) (by decide) | omega)) (Nat.le_succ_of_le (le_line (by simp only [List.size_toArray, List.length_cons, List.length_nil]; first | exact le5 (by assumption) | exact le5a (by assumption) (by decide) | omega))) ?_); intro h' F' N'; (try k_sweep))
            | ((with_reducible show wpAny _ _ (call (Value.builtin "list.extend") _) _ _ _); (rename News _ _ _ _ => n9); (rename Fr _ _ _ _ => f9); k_dflt (refine kxn_extend f9 n9 (List.Mem.head _) rfl (by k_upd) (ext_ok (by simp only [List.size_toArray, List.length_cons, List.length_nil]; first | exact le5 (by assumption) | exact le5a (by assumption) (by decide) | omega)) (le_line (by dsimp only; first | exact le5 (by assumption) | exact le5a (by assumption) (by decide) | omega)) (Nat.le_succ_of_le (le_line (by simp only [List.size_toArray, List.length_cons, List.length_nil]; first | exact le5 (by assumption) | exact le5a (by assumption) (by decide) | omega))) ?_); intro h' F' N'; (try k_sweep))
            | ((with_reducible show wpAny _ _ (compareOp _ _ _) _ _ _); (refine cmp_ofNotEq ?_); k_dflt (refine' PySem.SeqAt.RcNeAt.lists_lengths ?hl ?hb size_snoc ?hu _ _ _ _ ?_; (case hl => exact News.isList (by k_asm) (by k_mem)); (case hb => exact News.isList (by k_asm) (by k_mem)); (case hu => ktr_units)))
            | ((with_reducible show wpAny _ _ (call (Value.builtin "list.pop") _) _ _ _); k_dflt (refine' kl_pop ?F ?N (its := (_ : List Value).toArray) (kpa_last _ _) ?U ?z ?_; (case F => k_asm); (case N => k_asm); (case U => k_upd); (case z => exact le_line (by simp only [List.length_append, List.length_cons, List.length_nil]; first | exact le5 (by assumption) | exact le5a (by assumption) (by decide) | omega))); intro h' F' N'; (try k_sweep))
            | ((with_reducible show wpAny _ _ (compareOp _ _ _) _ _ _); (rename HKey "compareOp NotEq ref ref" => hz9); clear hz9))
          k_steps))
        repeat (any_goals (
          (with_reducible refine hold_un ?_)
          (first
            | ((with_reducible show wpAny _ _ (call (Value.ref 120) _) _ _ _); k_dflt (refine c_thrown_text (by k_asm) (by k_asm) (by k_asm) (by k_asm) (by k_asm) rfl (by ktr_room) (by ktr_units) ?_); intro e' dx' t' h' tk' tm' nx' n1 n2 sub' dv' F' N')
            | ((with_reducible show LCg.CompEnd ..); (rename News _ _ _ _ => n9); k_dflt (refine compEnd_keep (by k_asm) n9 ⟨by k_ne, by k_ne, by k_ne⟩ (by assumption) (by ((try dsimp only); k_mem)) ?_); (try dsimp only [List.nil_append, List.cons_append]))
            | ((with_reducible show wpAny _ _ (call (Value.builtin "list.extend") _) _ _ _); (rename News _ _ _ _ => n9); (rename Fr _ _ _ _ => f9); k_dflt (refine kl_extend f9 n9 (List.Mem.head _) rfl (Nat.succ_ne_zero _) (by k_upd) (ext_ok (by simp only [List.size_toArray, List.length_cons, List.length_nil]; first | exact le5 (by assumption) | exact le5a (by assumption) (by decide) | omega)) (le_line (by dsimp only; first | exact le5 (by assumption) | exact le5a (by assumption) (by decide) | omega)) (Nat.le_succ_of_le (le_line (by simp only [List.size_toArray, List.length_cons, List.length_nil]; first | exact le5 (by assumption) | exact le5a (by assumption) (by decide) | omega))) ?_); intro h' F' N'; (try k_sweep))
            | ((with_reducible show wpAny _ _ (call (Value.builtin "list.extend") _) _ _ _); (rename News _ _ _ _ => n9); (rename Fr _ _ _ _ => f9); k_dflt (refine kxn_extend f9 n9 (List.Mem.head _) rfl (by k_upd) (ext_ok (by simp only [List.size_toArray, List.length_cons, List.length_nil]; first | exact le5 (by assumption) | exact le5a (by assumption) (by decide) | omega)) (le_line (by dsimp only; first | exact le5 (by assumption) | exact le5a (by assumption) (by decide) | omega)) (Nat.le_succ_of_le (le_line (by simp only [List.size_toArray, List.length_cons, List.length_nil]; first | exact le5 (by assumption) | exact le5a (by assumption) (by decide) | omega))) ?_); intro h' F' N'; (try k_sweep))
            | ((with_reducible show wpAny _ _ (compareOp _ _ _) _ _ _); (refine cmp_ofNotEq ?_); k_dflt (refine' PySem.SeqAt.RcNeAt.lists_lengths ?hl ?hb size_snoc ?hu _ _ _ _ ?_; (case hl => exact News.isList (by k_asm) (by k_mem)); (case hb => exact News.isList (by k_asm) (by k_mem)); (case hu => ktr_units)))
            | ((with_reducible show wpAny _ _ (call (Value.builtin "list.pop") _) _ _ _); k_dflt (refine' kl_pop ?F ?N (its := (_ : List Value).toArray) (kpa_last _ _) ?U ?z ?_; (case F => k_asm); (case N => k_asm); (case U => k_upd); (case z => exact le_line (by simp only [List.length_append, List.length_cons, List.length_nil]; first | exact le5 (by assumption) | exact le5a (by assumption) (by decide) | omega))); intro h' F' N'; (try k_sweep))
            | ((with_reducible show wpAny _ _ (compareOp _ _ _) _ _ _); (rename HKey "compareOp NotEq ref ref" => hz9); clear hz9))
          k_steps))
        refine cp_end (by k_asm) (by k_asm) rfl rfl rfl (by k_mem) (by k_mem) (by assumption) hS (by repeat (first | exact sub_self | refine sub_cons ?_)) hnl hnc hcl (by simp only [Dm.cnt] at hsum; omega) (ok0 hok hk60) (by simp only [cntSt, Dm.cnt]; omega)
      · skip
        k_steps
        repeat (any_goals (
          (with_reducible refine hold_un ?_)
          (first
            | ((with_reducible show wpAny _ _ (call (Value.ref 120) _) _ _ _); k_dflt (refine c_thrown_text (by k_asm) (by k_asm) (by k_asm) (by k_asm) (by k_asm) rfl (by ktr_room) (by ktr_units) ?_); intro e' dx' t' h' tk' tm' nx' n1 n2 sub' dv' F' N')
            | ((with_reducible show LCg.CompEnd ..); (rename News _ _ _ _ => n9); k_dflt (refine compEnd_keep (by k_asm) n9 ⟨by k_ne, by k_ne, by k_ne⟩ (by assumption) (by ((try dsimp only); k_mem)) ?_); (try dsimp only [List.nil_append, List.cons_append]))
            | ((with_reducible show wpAny _ _ (call (Value.builtin "list.extend") _) _ _ _); (rename News _ _ _ _ => n9); (rename Fr _ _ _ _ => f9); k_dflt (refine kl_extend f9 n9 (List.Mem.head _) rfl (Nat.succ_ne_zero _) (by k_upd) (ext_ok (by simp only [List.size_toArray, List.length_cons, List.length_nil]; first | exact le5 (by assumption) | exact le5a (by assumption) (by decide) | omega)) (le_line (by dsimp only; first | exact le5 (by assumption) | exact le5a (by assumption) (by decide) | omega)) (Nat.le_succ_of_le (le_line (by simp only [List.size_toArray, List.length_cons, List.length_nil]; first | exact le5 (by assumption) | exact le5a (by assumption) (by decide) | omega))) ?_); intro h' F' N'; (try k_sweep))
            | ((with_reducible show wpAny _ _ (call (Value.builtin "list.extend") _) _ _ _); (rename News _ _ _ _ => n9); (rename Fr _ _ _ _ => f9); k_dflt (refine kxn_extend f9 n9 (List.Mem.head _) rfl (by k_upd) (ext_ok (by simp only [List.size_toArray, List.length_cons, List.length_nil]; first | exact le5 (by assumption) | exact le5a (by assumption) (by decide) | omega)) (le_line (by dsimp only; first | exact le5 (by assumption) | exact le5a (by assumption) (by decide) | omega)) (Nat.le_succ_of_le (le_line (by simp only [List.size_toArray, List.length_cons, List.length_nil]; first | exact le5 (by assumption) | exact le5a (by assumption) (by decide) | omega))) ?_); intro h' F' N'; (try k_sweep))
            | ((with_reducible show wpAny _ _ (compareOp _ _ _) _ _ _); (refine cmp_ofNotEq ?_); k_dflt (refine' PySem.SeqAt.RcNeAt.lists_lengths ?hl ?hb size_snoc ?hu _ _ _ _ ?_; (case hl => exact News.isList (by k_asm) (by k_mem)); (case hb => exact News.isList (by k_asm) (by k_mem)); (case hu => ktr_units)))
            | ((with_reducible show wpAny _ _ (call (Value.builtin "list.pop") _) _ _ _); k_dflt (refine' kl_pop ?F ?N (its := (_ : List Value).toArray) (kpa_last _ _) ?U ?z ?_; (case F => k_asm); (case N => k_asm); (case U => k_upd); (case z => exact le_line (by simp only [List.length_append, List.length_cons, List.length_nil]; first | exact le5 (by assumption) | exact le5a (by assumption) (by decide) | omega))); intro h' F' N'; (try k_sweep))
            | ((with_reducible show wpAny _ _ (compareOp _ _ _) _ _ _); (rename HKey "compareOp NotEq ref ref" => hz9); clear hz9))
          k_steps))
        repeat (any_goals (
          (with_reducible refine hold_un ?_)
          (first
            | ((with_reducible show wpAny _ _ (call (Value.ref 120) _) _ _ _); k_dflt (refine c_thrown_text (by k_asm) (by k_asm) (by k_asm) (by k_asm) (by k_asm) rfl (by ktr_room) (by ktr_units) ?_); intro e' dx' t' h' tk' tm' nx' n1 n2 sub' dv' F' N')
            | ((with_reducible show LCg.CompEnd ..); (rename News _ _ _ _ => n9); k_dflt (refine compEnd_keep (by k_asm) n9 ⟨by k_ne, by k_ne, by k_ne⟩ (by assumption) (by ((try dsimp only); k_mem)) ?_); (try dsimp only [List.nil_append, List.cons_append]))
            | ((with_reducible show wpAny _ _ (call (Value.builtin "list.extend") _) _ _ _); (rename News _ _ _ _ => n9); (rename Fr _ _ _ _ => f9); k_dflt (refine kl_extend f9 n9 (List.Mem.head _) rfl (Nat.succ_ne_zero _) (by k_upd) (ext_ok (by simp only [List.size_toArray, List.length_cons, List.length_nil]; first | exact le5 (by assumption) | exact le5a (by assumption) (by decide) | omega)) (le_line (by dsimp only; first | exact le5 (by assumption) | exact le5a (by assumption) (by decide) | omega)) (Nat.le_succ_of_le (le_line (by simp only [List.size_toArray, List.length_cons, List.length_nil]; first | exact le5 (by assumption) | exact le5a (by assumption) (by decide) | omega))) ?_); intro h' F' N'; (try k_sweep))
            | ((with_reducible show wpAny _ _ (call (Value.builtin "list.extend") _) _ _ _); (rename News _ _ _ _ => n9); (rename Fr _ _ _ _ => f9); k_dflt (refine kxn_extend f9 n9 (List.Mem.head _) rfl (by k_upd) (ext_ok (by simp only [List.size_toArray, List.length_cons, List.length_nil]; first | exact le5 (by assumption) | exact le5a (by assumption) (by decide) | omega)) (le_line (by dsimp only; first | exact le5 (by assumption) | exact le5a (by assumption) (by decide) | omega)) (Nat.le_succ_of_le (le_line (by simp only [List.size_toArray, List.length_cons, List.length_nil]; first | exact le5 (by assumption) | exact le5a (by assumption) (by decide) | omega))) ?_); intro h' F' N'; (try k_sweep))
            | ((with_reducible show wpAny _ _ (compareOp _ _ _) _ _ _); (refine cmp_ofNotEq ?_); k_dflt (refine' PySem.SeqAt.RcNeAt.lists_lengths ?hl ?hb size_snoc ?hu _ _ _ _ ?_; (case hl => exact News.isList (by k_asm) (by k_mem)); (case hb => exact News.isList (by k_asm) (by k_mem)); (case hu => ktr_units)))
            | ((with_reducible show wpAny _ _ (call (Value.builtin "list.pop") _) _ _ _); k_dflt (refine' kl_pop ?F ?N (its := (_ : List Value).toArray) (kpa_last _ _) ?U ?z ?_; (case F => k_asm); (case N => k_asm); (case U => k_upd); (case z => exact le_line (by simp only [List.length_append, List.length_cons, List.length_nil]; first | exact le5 (by assumption) | exact le5a (by assumption) (by decide) | omega))); intro h' F' N'; (try k_sweep))
            | ((with_reducible show wpAny _ _ (compareOp _ _ _) _ _ _); (rename HKey "compareOp NotEq ref ref" => hz9); clear hz9))
          k_steps))
        refine cp_end (by k_asm) (by k_asm) rfl rfl rfl (by k_mem) (by k_mem) (by assumption) hS (by repeat (first | exact sub_self | refine sub_cons ?_)) hnl hnc hcl (by simp only [Dm.cnt] at hsum; omega) (ok0 hok hk60) (by simp only [cntSt, Dm.cnt]; omega)
      · skip
        k_steps
        repeat (any_goals (
          (with_reducible refine hold_un ?_)
          (first
            | ((with_reducible show wpAny _ _ (call (Value.ref 120) _) _ _ _); k_dflt (refine c_thrown_text (by k_asm) (by k_asm) (by k_asm) (by k_asm) (by k_asm) rfl (by ktr_room) (by ktr_units) ?_); intro e' dx' t' h' tk' tm' nx' n1 n2 sub' dv' F' N')
            | ((with_reducible show LCg.CompEnd ..); (rename News _ _ _ _ => n9); k_dflt (refine compEnd_keep (by k_asm) n9 ⟨by k_ne, by k_ne, by k_ne⟩ (by assumption) (by ((try dsimp only); k_mem)) ?_); (try dsimp only [List.nil_append, List.cons_append]))
            | ((with_reducible show wpAny _ _ (call (Value.builtin "list.extend") _) _ _ _); (rename News _ _ _ _ => n9); (rename Fr _ _ _ _ => f9); k_dflt (refine kl_extend f9 n9 (List.Mem.head _) rfl (Nat.succ_ne_zero _) (by k_upd) (ext_ok (by simp only [List.size_toArray, List.length_cons, List.length_nil]; first | exact le5 (by assumption) | exact le5a (by assumption) (by decide) | omega)) (le_line (by dsimp only; first | exact le5 (by assumption) | exact le5a (by assumption) (by decide) | omega)) (Nat.le_succ_of_le (le_line (by simp only [List.size_toArray, List.length_cons, List.length_nil]; first | exact le5 (by assumption) | exact le5a (by assumption) (by decide) | omega))) ?_); intro h' F' N'; (try k_sweep))
            | ((with_reducible show wpAny _ _ (call (Value.builtin "list.extend") _) _ _ _); (rename News _ _ _ _ => n9); (rename Fr _ _ _ _ => f9); k_dflt (refine kxn_extend f9 n9 (List.Mem.head _) rfl (by k_upd) (ext_ok (by simp only [List.size_toArray, List.length_cons, List.length_nil]; first | exact le5 (by assumption) | exact le5a (by assumption) (by decide) | omega)) (le_line (by dsimp only; first | exact le5 (by assumption) | exact le5a (by assumption) (by decide) | omega)) (Nat.le_succ_of_le (le_line (by simp only [List.size_toArray, List.length_cons, List.length_nil]; first | exact le5 (by assumption) | exact le5a (by assumption) (by decide) | omega))) ?_); intro h' F' N'; (try k_sweep))
            | ((with_reducible show wpAny _ _ (compareOp _ _ _) _ _ _); (refine cmp_ofNotEq ?_); k_dflt (refine' PySem.SeqAt.RcNeAt.lists_lengths ?hl ?hb size_snoc ?hu _ _ _ _ ?_; (case hl => exact News.isList (by k_asm) (by k_mem)); (case hb => exact News.isList (by k_asm) (by k_mem)); (case hu => ktr_units)))
            | ((with_reducible show wpAny _ _ (call (Value.builtin "list.pop") _) _ _ _); k_dflt (refine' kl_pop ?F ?N (its := (_ : List Value).toArray) (kpa_last _ _) ?U ?z ?_; (case F => k_asm); (case N => k_asm); (case U => k_upd); (case z => exact le_line (by simp only [List.length_append, List.length_cons, List.length_nil]; first | exact le5 (by assumption) | exact le5a (by assumption) (by decide) | omega))); intro h' F' N'; (try k_sweep))
            | ((with_reducible show wpAny _ _ (compareOp _ _ _) _ _ _); (rename HKey "compareOp NotEq ref ref" => hz9); clear hz9))
          k_steps))
        repeat (any_goals (
          (with_reducible refine hold_un ?_)
          (first
            | ((with_reducible show wpAny _ _ (call (Value.ref 120) _) _ _ _); k_dflt (refine c_thrown_text (by k_asm) (by k_asm) (by k_asm) (by k_asm) (by k_asm) rfl (by ktr_room) (by ktr_units) ?_); intro e' dx' t' h' tk' tm' nx' n1 n2 sub' dv' F' N')
            | ((with_reducible show LCg.CompEnd ..); (rename News _ _ _ _ => n9); k_dflt (refine compEnd_keep (by k_asm) n9 ⟨by k_ne, by k_ne, by k_ne⟩ (by assumption) (by ((try dsimp only); k_mem)) ?_); (try dsimp only [List.nil_append, List.cons_append]))
            | ((with_reducible show wpAny _ _ (call (Value.builtin "list.extend") _) _ _ _); (rename News _ _ _ _ => n9); (rename Fr _ _ _ _ => f9); k_dflt (refine kl_extend f9 n9 (List.Mem.head _) rfl (Nat.succ_ne_zero _) (by k_upd) (ext_ok (by simp only [List.size_toArray, List.length_cons, List.length_nil]; first | exact le5 (by assumption) | exact le5a (by assumption) (by decide) | omega)) (le_line (by dsimp only; first | exact le5 (by assumption) | exact le5a (by assumption) (by decide) | omega)) (Nat.le_succ_of_le (le_line (by simp only [List.size_toArray, List.length_cons, List.length_nil]; first | exact le5 (by assumption) | exact le5a (by assumption) (by decide) | omega))) ?_); intro h' F' N'; (try k_sweep))
            | ((with_reducible show wpAny _ _ (call (Value.builtin "list.extend") _) _ _ _); (rename News _ _ _ _ => n9); (rename Fr _ _ _ _ => f9); k_dflt (refine kxn_extend f9 n9 (List.Mem.head _) rfl (by k_upd) (ext_ok (by simp only [List.size_toArray, List.length_cons, List.length_nil]; first | exact le5 (by assumption) | exact le5a (by assumption) (by decide) | omega)) (le_line (by dsimp only; first | exact le5 (by assumption) | exact le5a (by assumption) (by decide) | omega)) (Nat.le_succ_of_le (le_line (by simp only [List.size_toArray, List.length_cons, List.length_nil]; first | exact le5 (by assumption) | exact le5a (by assumption) (by decide) | omega))) ?_); intro h' F' N'; (try k_sweep))
            | ((with_reducible show wpAny _ _ (compareOp _ _ _) _ _ _); (refine cmp_ofNotEq ?_); k_dflt (refine' PySem.SeqAt.RcNeAt.lists_lengths ?hl ?hb size_snoc ?hu _ _ _ _ ?_; (case hl => exact News.isList (by k_asm) (by k_mem)); (case hb => exact News.isList (by k_asm) (by k_mem)); (case hu => ktr_units)))
            | ((with_reducible show wpAny _ _ (call (Value.builtin "list.pop") _) _ _ _); k_dflt (refine' kl_pop ?F ?N (its := (_ : List Value).toArray) (kpa_last _ _) ?U ?z ?_; (case F => k_asm); (case N => k_asm); (case U => k_upd); (case z => exact le_line (by simp only [List.length_append, List.length_cons, List.length_nil]; first | exact le5 (by assumption) | exact le5a (by assumption) (by decide) | omega))); intro h' F' N'; (try k_sweep))
            | ((with_reducible show wpAny _ _ (compareOp _ _ _) _ _ _); (rename HKey "compareOp NotEq ref ref" => hz9); clear hz9))
          k_steps))
        (rename News _ _ _ _ => n9)
        refine cp_end (by k_asm) n9 rfl rfl rfl (.tail _ (.tail _ (.head _))) (.tail _ (.tail _ (.tail _ (.head _)))) (by assumption) hS (by repeat (first | exact sub_self | refine sub_cons ?_)) hnl hnc hcl (by simp only [Dm.cnt] at hsum; omega) (ok0 hok hk60) (by simp only [cntSt, Dm.cnt]; omega)
      · skip
        k_steps
        repeat (any_goals (
          (with_reducible refine hold_un ?_)
          (first
            | ((with_reducible show wpAny _ _ (call (Value.ref 120) _) _ _ _); k_dflt (refine c_thrown_text (by k_asm) (by k_asm) (by k_asm) (by k_asm) (by k_asm) rfl (by ktr_room) (by ktr_units) ?_); intro e' dx' t' h' tk' tm' nx' n1 n2 sub' dv' F' N')
            | ((with_reducible show LCg.CompEnd ..); (rename News _ _ _ _ => n9); k_dflt (refine compEnd_keep (by k_asm) n9 ⟨by k_ne, by k_ne, by k_ne⟩ (by assumption) (by ((try dsimp only); k_mem)) ?_); (try dsimp only [List.nil_append, List.cons_append]))
            | ((with_reducible show wpAny _ _ (call (Value.builtin "list.extend") _) _ _ _); (rename News _ _ _ _ => n9); (rename Fr _ _ _ _ => f9); k_dflt (refine kl_extend f9 n9 (List.Mem.head _) rfl (Nat.succ_ne_zero _) (by k_upd) (ext_ok (by simp only [List.size_toArray, List.length_cons, List.length_nil]; first | exact le5 (by assumption) | exact le5a (by assumption) (by decide) | omega)) (le_line (by dsimp only; first | exact le5 (by assumption) | exact le5a (by assumption) (by decide) | omega)) (Nat.le_succ_of_le (le_line (by simp only [List.size_toArray, List.length_cons, List.length_nil]; first | exact le5 (by assumption) | exact le5a (by assumption) (by decide) | omega))) ?_); intro h' F' N'; (try k_sweep))
            | ((with_reducible show wpAny _ _ (call (Value.builtin "list.extend") _) _ _ _); (rename News _ _ _ _ => n9); (rename Fr _ _ _ _ => f9); k_dflt (refine kxn_extend f9 n9 (List.Mem.head _) rfl (by k_upd) (ext_ok (by simp only [List.size_toArray, List.length_cons, List.length_nil]; first | exact le5 (by assumption) | exact le5a (by assumption) (by decide) | omega)) (le_line (by dsimp only; first | exact le5 (by assumption) | exact le5a (by assumption) (by decide) | omega)) (Nat.le_succ_of_le (le_line (by simp only [List.size_toArray, List.length_cons, List.length_nil]; first | exact le5 (by assumption) | exact le5a (by assumption) (by decide) | omega))) ?_); intro h' F' N'; (try k_sweep))
            | ((with_reducible show wpAny _ _ (compareOp _ _ _) _ _ _); (refine cmp_ofNotEq ?_); k_dflt (refine' PySem.SeqAt.RcNeAt.lists_lengths ?hl ?hb size_snoc ?hu _ _ _ _ ?_; (case hl => exact News.isList (by k_asm) (by k_mem)); (case hb => exact News.isList (by k_asm) (by k_mem)); (case hu => ktr_units)))
            | ((with_reducible show wpAny _ _ (call (Value.builtin "list.pop") _) _ _ _); k_dflt (refine' kl_pop ?F ?N (its := (_ : List Value).toArray) (kpa_last _ _) ?U ?z ?_; (case F => k_asm); (case N => k_asm); (case U => k_upd); (case z => exact le_line (by simp only [List.length_append, List.length_cons, List.length_nil]; first | exact le5 (by assumption) | exact le5a (by assumption) (by decide) | omega))); intro h' F' N'; (try k_sweep))
            | ((with_reducible show wpAny _ _ (compareOp _ _ _) _ _ _); (rename HKey "compareOp NotEq ref ref" => hz9); clear hz9))
          k_steps))
        repeat (any_goals (
          (with_reducible refine hold_un ?_)
          (first
            | ((with_reducible show wpAny _ _ (call (Value.ref 120) _) _ _ _); k_dflt (refine c_thrown_text (by k_asm) (by k_asm) (by k_asm) (by k_asm) (by k_asm) rfl (by ktr_room) (by ktr_units) ?_); intro e' dx' t' h' tk' tm' nx' n1 n2 sub' dv' F' N')
            | ((with_reducible show LCg.CompEnd ..); (rename News _ _ _ _ => n9); k_dflt (refine compEnd_keep (by k_asm) n9 ⟨by k_ne, by k_ne, by k_ne⟩ (by assumption) (by ((try dsimp only); k_mem)) ?_); (try dsimp only [List.nil_append, List.cons_append]))
            | ((with_reducible show wpAny _ _ (call (Value.builtin "list.extend") _) _ _ _); (rename News _ _ _ _ => n9); (rename Fr _ _ _ _ => f9); k_dflt (refine kl_extend f9 n9 (List.Mem.head _) rfl (Nat.succ_ne_zero _) (by k_upd) (ext_ok (by simp only [List.size_toArray, List.length_cons, List.length_nil]; first | exact le5 (by assumption) | exact le5a (by assumption) (by decide) | omega)) (le_line (by dsimp only; first | exact le5 (by assumption) | exact le5a (by assumption) (by decide) | omega)) (Nat.le_succ_of_le (le_line (by simp only [List.size_toArray, List.length_cons, List.length_nil]; first | exact le5 (by assumption) | exact le5a (by assumption) (by decide) | omega))) ?_); intro h' F' N'; (try k_sweep))
            | ((with_reducible show wpAny _ _ (call (Value.builtin "list.extend") _) _ _ _); (rename News _ _ _ _ => n9); (rename Fr _ _ _ _ => f9); k_dflt (refine kxn_extend f9 n9 (List.Mem.head _) rfl (by k_upd) (ext_ok (by simp only [List.size_toArray, List.length_cons, List.length_nil]; first | exact le5 (by assumption) | exact le5a (by assumption) (by decide) | omega)) (le_line (by dsimp only; first | exact le5 (by assumption) | exact le5a (by assumption) (by decide) | omega)) (Nat.le_succ_of_le (le_line (by simp only [List.size_toArray, List.length_cons, List.length_nil]; first | exact le5 (by assumption) | exact le5a (by assumption) (by decide) | omega))) ?_); intro h' F' N'; (try k_sweep))
            | ((with_reducible show wpAny _ _ (compareOp _ _ _) _ _ _); (refine cmp_ofNotEq ?_); k_dflt (refine' PySem.SeqAt.RcNeAt.lists_lengths ?hl ?hb size_snoc ?hu _ _ _ _ ?_; (case hl => exact News.isList (by k_asm) (by k_mem)); (case hb => exact News.isList (by k_asm) (by k_mem)); (case hu => ktr_units)))
            | ((with_reducible show wpAny _ _ (call (Value.builtin "list.pop") _) _ _ _); k_dflt (refine' kl_pop ?F ?N (its := (_ : List Value).toArray) (kpa_last _ _) ?U ?z ?_; (case F => k_asm); (case N => k_asm); (case U => k_upd); (case z => exact le_line (by simp only [List.length_append, List.length_cons, List.length_nil]; first | exact le5 (by assumption) | exact le5a (by assumption) (by decide) | omega))); intro h' F' N'; (try k_sweep))
            | ((with_reducible show wpAny _ _ (compareOp _ _ _) _ _ _); (rename HKey "compareOp NotEq ref ref" => hz9); clear hz9))
          k_steps))
        (rename News _ _ _ _ => n9)
        refine cp_end (tl := (_, _) :: tl) (by k_asm) n9 rfl rfl rfl (.tail _ (.tail _ (.tail _ (.head _)))) (.tail _ (.tail _ (.tail _ (.tail _ (.head _))))) (by assumption) (.snoc (k := k + 1) (hS.mono (sub_cons sub_self)) (.head _) (DIn.mono (by assumption) (sub_cons sub_self))) (List.forall_mem_cons.mpr ⟨.tail _ (.head _), (by repeat (first | exact sub_self | refine sub_cons ?_))⟩) (List.forall_mem_cons.mpr ⟨by k_ne, by assumption⟩) (List.forall_mem_cons.mpr ⟨by k_ne, by assumption⟩) hcl (by simp only [cntSt, Dm.cnt] at hsum ⊢; omega) (ok1 hok ⟨fun x => x.2, fun x => ⟨hk60, x⟩⟩) (by simp only [cntSt, Dm.cnt]; omega)
      · skip
        k_steps
        repeat (any_goals (
          (with_reducible refine hold_un ?_)
          (first
            | ((with_reducible show wpAny _ _ (call (Value.ref 120) _) _ _ _); k_dflt (refine c_thrown_text (by k_asm) (by k_asm) (by k_asm) (by k_asm) (by k_asm) rfl (by ktr_room) (by ktr_units) ?_); intro e' dx' t' h' tk' tm' nx' n1 n2 sub' dv' F' N')
            | ((with_reducible show LCg.CompEnd ..); (rename News _ _ _ _ => n9); k_dflt (refine compEnd_keep (by k_asm) n9 ⟨by k_ne, by k_ne, by k_ne⟩ (by assumption) (by ((try dsimp only); k_mem)) ?_); (try dsimp only [List.nil_append, List.cons_append]))
            | ((with_reducible show wpAny _ _ (call (Value.builtin "list.extend") _) _ _ _); (rename News _ _ _ _ => n9); (rename Fr _ _ _ _ => f9); k_dflt (refine kl_extend f9 n9 (List.Mem.head _) rfl (Nat.succ_ne_zero _) (by k_upd) (ext_ok (by simp only [List.size_toArray, List.length_cons, List.length_nil]; first | exact le5 (by assumption) | exact le5a (by assumption) (by decide) | omega)) (le_line (by dsimp only; first | exact le5 (by assumption) | exact le5a (by assumption) (by decide) | omega)) (Nat.le_succ_of_le (le_line (by simp only [List.size_toArray, List.length_cons, List.length_nil]; first | exact le5 (by assumption) | exact le5a (by assumption) (by decide) | omega))) ?_); intro h' F' N'; (try k_sweep))
            | ((with_reducible show wpAny _ _ (call (Value.builtin "list.extend") _) _ _ _); (rename News _ _ _ _ => n9); (rename Fr _ _ _ _ => f9); k_dflt (refine kxn_extend f9 n9 (List.Mem.head _) rfl (by k_upd) (ext_ok (by simp only [List.size_toArray, List.length_cons, List.length_nil]; first | exact le5 (by assumption) | exact le5a (by assumption) (by decide) | omega)) (le_line (by dsimp only; first | exact le5 (by assumption) | exact le5a (by assumption) (by decide) | omega)) (Nat.le_succ_of_le (le_line (by simp only [List.size_toArray, List.length_cons, List.length_nil]; first | exact le5 (by assumption) | exact le5a (by assumption) (by decide) | omega))) ?_); intro h' F' N'; (try k_sweep))
            | ((with_reducible show wpAny _ _ (compareOp _ _ _) _ _ _); (refine cmp_ofNotEq ?_); k_dflt (refine' PySem.SeqAt.RcNeAt.lists_lengths ?hl ?hb size_snoc ?hu _ _ _ _ ?_; (case hl => exact News.isList (by k_asm) (by k_mem)); (case hb => exact News.isList (by k_asm) (by k_mem)); (case hu => ktr_units)))
            | ((with_reducible show wpAny _ _ (call (Value.builtin "list.pop") _) _ _ _); k_dflt (refine' kl_pop ?F ?N (its := (_ : List Value).toArray) (kpa_last _ _) ?U ?z ?_; (case F => k_asm); (case N => k_asm); (case U => k_upd); (case z => exact le_line (by simp only [List.length_append, List.length_cons, List.length_nil]; first | exact le5 (by assumption) | exact le5a (by assumption) (by decide) | omega))); intro h' F' N'; (try k_sweep))
            | ((with_reducible show wpAny _ _ (compareOp _ _ _) _ _ _); (rename HKey "compareOp NotEq ref ref" => hz9); clear hz9))
          k_steps))
        repeat (any_goals (
          (with_reducible refine hold_un ?_)
          (first
            | ((with_reducible show wpAny _ _ (call (Value.ref 120) _) _ _ _); k_dflt (refine c_thrown_text (by k_asm) (by k_asm) (by k_asm) (by k_asm) (by k_asm) rfl (by ktr_room) (by ktr_units) ?_); intro e' dx' t' h' tk' tm' nx' n1 n2 sub' dv' F' N')
            | ((with_reducible show LCg.CompEnd ..); (rename News _ _ _ _ => n9); k_dflt (refine compEnd_keep (by k_asm) n9 ⟨by k_ne, by k_ne, by k_ne⟩ (by assumption) (by ((try dsimp only); k_mem)) ?_); (try dsimp only [List.nil_append, List.cons_append]))
            | ((with_reducible show wpAny _ _ (call (Value.builtin "list.extend") _) _ _ _); (rename News _ _ _ _ => n9); (rename Fr _ _ _ _ => f9); k_dflt (refine kl_extend f9 n9 (List.Mem.head _) rfl (Nat.succ_ne_zero _) (by k_upd) (ext_ok (by simp only [List.size_toArray, List.length_cons, List.length_nil]; first | exact le5 (by assumption) | exact le5a (by assumption) (by decide) | omega)) (le_line (by dsimp only; first | exact le5 (by assumption) | exact le5a (by assumption) (by decide) | omega)) (Nat.le_succ_of_le (le_line (by simp only [List.size_toArray, List.length_cons, List.length_nil]; first | exact le5 (by assumption) | exact le5a (by assumption) (by decide) | omega))) ?_); intro h' F' N'; (try k_sweep))
            | ((with_reducible show wpAny _ _ (call (Value.builtin "list.extend") _) _ _ _); (rename News _ _ _ _ => n9); (rename Fr _ _ _ _ => f9); k_dflt (refine kxn_extend f9 n9 (List.Mem.head _) rfl (by k_upd) (ext_ok (by simp only [List.size_toArray, List.length_cons, List.length_nil]; first | exact le5 (by assumption) | exact le5a (by assumption) (by decide) | omega)) (le_line (by dsimp only; first | exact le5 (by assumption) | exact le5a (by assumption) (by decide) | omega)) (Nat.le_succ_of_le (le_line (by simp only [List.size_toArray, List.length_cons, List.length_nil]; first | exact le5 (by assumption) | exact le5a (by assumption) (by decide) | omega))) ?_); intro h' F' N'; (try k_sweep))
            | ((with_reducible show wpAny _ _ (compareOp _ _ _) _ _ _); (refine cmp_ofNotEq ?_); k_dflt (refine' PySem.SeqAt.RcNeAt.lists_lengths ?hl ?hb size_snoc ?hu _ _ _ _ ?_; (case hl => exact News.isList (by k_asm) (by k_mem)); (case hb => exact News.isList (by k_asm) (by k_mem)); (case hu => ktr_units)))
            | ((with_reducible show wpAny _ _ (call (Value.builtin "list.pop") _) _ _ _); k_dflt (refine' kl_pop ?F ?N (its := (_ : List Value).toArray) (kpa_last _ _) ?U ?z ?_; (case F => k_asm); (case N => k_asm); (case U => k_upd); (case z => exact le_line (by simp only [List.length_append, List.length_cons, List.length_nil]; first | exact le5 (by assumption) | exact le5a (by assumption) (by decide) | omega))); intro h' F' N'; (try k_sweep))
            | ((with_reducible show wpAny _ _ (compareOp _ _ _) _ _ _); (rename HKey "compareOp NotEq ref ref" => hz9); clear hz9))
          k_steps))
        (rename News _ _ _ _ => n9)
        refine cp_end (tl := (_, _) :: (_, _) :: tl) (by k_asm) n9 rfl rfl rfl (.tail _ (.tail _ (.tail _ (.tail _ (.head _))))) (.tail _ (.tail _ (.tail _ (.tail _ (.tail _ (.head _)))))) (by assumption) (.snoc2 (k := k + 1) (k' := k + 1) (hS.mono (sub_cons (sub_cons sub_self))) (.tail _ (.head _)) (.head _) (DIn.mono (by assumption) (sub_cons (sub_cons sub_self))) (DIn.mono (by assumption) (sub_cons (sub_cons sub_self)))) (List.forall_mem_cons.mpr ⟨.tail _ (.head _), List.forall_mem_cons.mpr ⟨.tail _ (.tail _ (.head _)), (by repeat (first | exact sub_self | refine sub_cons ?_))⟩⟩) (List.forall_mem_cons.mpr ⟨by k_ne, List.forall_mem_cons.mpr ⟨by k_ne, by assumption⟩⟩) (List.forall_mem_cons.mpr ⟨by k_ne, List.forall_mem_cons.mpr ⟨by k_ne, by assumption⟩⟩) hcl (by simp only [cntSt, Dm.cnt] at hsum ⊢; omega) (ok2 hok ⟨fun x => x.2, fun x => ⟨hk60, x⟩⟩) (by simp only [cntSt, Dm.cnt]; omega)
      · skip
        k_steps
        repeat (any_goals (
          (with_reducible refine hold_un ?_)
          (first
            | ((with_reducible show wpAny _ _ (call (Value.ref 120) _) _ _ _); k_dflt (refine c_thrown_text (by k_asm) (by k_asm) (by k_asm) (by k_asm) (by k_asm) rfl (by ktr_room) (by ktr_units) ?_); intro e' dx' t' h' tk' tm' nx' n1 n2 sub' dv' F' N')
            | ((with_reducible show LCg.CompEnd ..); (rename News _ _ _ _ => n9); k_dflt (refine compEnd_keep (by k_asm) n9 ⟨by k_ne, by k_ne, by k_ne⟩ (by assumption) (by ((try dsimp only); k_mem)) ?_); (try dsimp only [List.nil_append, List.cons_append]))
            | ((with_reducible show wpAny _ _ (call (Value.builtin "list.extend") _) _ _ _); (rename News _ _ _ _ => n9); (rename Fr _ _ _ _ => f9); k_dflt (refine kl_extend f9 n9 (List.Mem.head _) rfl (Nat.succ_ne_zero _) (by k_upd) (ext_ok (by simp only [List.size_toArray, List.length_cons, List.length_nil]; first | exact le5 (by assumption) | exact le5a (by assumption) (by decide) | omega)) (le_line (by dsimp only; first | exact le5 (by assumption) | exact le5a (by assumption) (by decide) | omega)) (Nat.le_succ_of_le (le_line (by simp only [List.size_toArray, List.length_cons, List.length_nil]; first | exact le5 (by assumption) | exact le5a (by assumption) (by decide) | omega))) ?_); intro h' F' N'; (try k_sweep))
            | ((with_reducible show wpAny _ _ (call (Value.builtin "list.extend") _) _ _ _); (rename News _ _ _ _ => n9); (rename Fr _ _ _ _ => f9); k_dflt (refine kxn_extend f9 n9 (List.Mem.head _) rfl (by k_upd) (ext_ok (by simp only [List.size_toArray, List.length_cons, List.length_nil]; first | exact le5 (by assumption) | exact le5a (by assumption) (by decide) | omega)) (le_line (by dsimp only; first | exact le5 (by assumption) | exact le5a (by assumption) (by decide) | omega)) (Nat.le_succ_of_le (le_line (by simp only [List.size_toArray, List.length_cons, List.length_nil]; first | exact le5 (by assumption) | exact le5a (by assumption) (by decide) | omega))) ?_); intro h' F' N'; (try k_sweep))
            | ((with_reducible show wpAny _ _ (compareOp _ _ _) _ _ _); (refine cmp_ofNotEq ?_); k_dflt (refine' PySem.SeqAt.RcNeAt.lists_lengths ?hl ?hb size_snoc ?hu _ _ _ _ ?_; (case hl => exact News.isList (by k_asm) (by k_mem)); (case hb => exact News.isList (by k_asm) (by k_mem)); (case hu => ktr_units)))
            | ((with_reducible show wpAny _ _ (call (Value.builtin "list.pop") _) _ _ _); k_dflt (refine' kl_pop ?F ?N (its := (_ : List Value).toArray) (kpa_last _ _) ?U ?z ?_; (case F => k_asm); (case N => k_asm); (case U => k_upd); (case z => exact le_line (by simp only [List.length_append, List.length_cons, List.length_nil]; first | exact le5 (by assumption) | exact le5a (by assumption) (by decide) | omega))); intro h' F' N'; (try k_sweep))
            | ((with_reducible show wpAny _ _ (compareOp _ _ _) _ _ _); (rename HKey "compareOp NotEq ref ref" => hz9); clear hz9))
          k_steps))
        repeat (any_goals (
          (with_reducible refine hold_un ?_)
          (first
            | ((with_reducible show wpAny _ _ (call (Value.ref 120) _) _ _ _); k_dflt (refine c_thrown_text (by k_asm) (by k_asm) (by k_asm) (by k_asm) (by k_asm) rfl (by ktr_room) (by ktr_units) ?_); intro e' dx' t' h' tk' tm' nx' n1 n2 sub' dv' F' N')
            | ((with_reducible show LCg.CompEnd ..); (rename News _ _ _ _ => n9); k_dflt (refine compEnd_keep (by k_asm) n9 ⟨by k_ne, by k_ne, by k_ne⟩ (by assumption) (by ((try dsimp only); k_mem)) ?_); (try dsimp only [List.nil_append, List.cons_append]))
            | ((with_reducible show wpAny _ _ (call (Value.builtin "list.extend") _) _ _ _); (rename News _ _ _ _ => n9); (rename Fr _ _ _ _ => f9); k_dflt (refine kl_extend f9 n9 (List.Mem.head _) rfl (Nat.succ_ne_zero _) (by k_upd) (ext_ok (by simp only [List.size_toArray, List.length_cons, List.length_nil]; first | exact le5 (by assumption) | exact le5a (by assumption) (by decide) | omega)) (le_line (by dsimp only; first | exact le5 (by assumption) | exact le5a (by assumption) (by decide) | omega)) (Nat.le_succ_of_le (le_line (by simp only [List.size_toArray, List.length_cons, List.length_nil]; first | exact le5 (by assumption) | exact le5a (by assumption) (by decide) | omega))) ?_); intro h' F' N'; (try k_sweep))
            | ((with_reducible show wpAny _ _ (call (Value.builtin "list.extend") _) _ _ _); (rename News _ _ _ _ => n9); (rename Fr _ _ _ _ => f9); k_dflt (refine kxn_extend f9 n9 (List.Mem.head _) rfl (by k_upd) (ext_ok (by simp only [List.size_toArray, List.length_cons, List.length_nil]; first | exact le5 (by assumption) | exact le5a (by assumption) (by decide) | omega)) (le_line (by dsimp only; first | exact le5 (by assumption) | exact le5a (by assumption) (by decide) | omega)) (Nat.le_succ_of_le (le_line (by simp only [List.size_toArray, List.length_cons, List.length_nil]; first | exact le5 (by assumption) | exact le5a (by assumption) (by decide) | omega))) ?_); intro h' F' N'; (try k_sweep))
            | ((with_reducible show wpAny _ _ (compareOp _ _ _) _ _ _); (refine cmp_ofNotEq ?_); k_dflt (refine' PySem.SeqAt.RcNeAt.lists_lengths ?hl ?hb size_snoc ?hu _ _ _ _ ?_; (case hl => exact News.isList (by k_asm) (by k_mem)); (case hb => exact News.isList (by k_asm) (by k_mem)); (case hu => ktr_units)))
            | ((with_reducible show wpAny _ _ (call (Value.builtin "list.pop") _) _ _ _); k_dflt (refine' kl_pop ?F ?N (its := (_ : List Value).toArray) (kpa_last _ _) ?U ?z ?_; (case F => k_asm); (case N => k_asm); (case U => k_upd); (case z => exact le_line (by simp only [List.length_append, List.length_cons, List.length_nil]; first | exact le5 (by assumption) | exact le5a (by assumption) (by decide) | omega))); intro h' F' N'; (try k_sweep))
            | ((with_reducible show wpAny _ _ (compareOp _ _ _) _ _ _); (rename HKey "compareOp NotEq ref ref" => hz9); clear hz9))
          k_steps))
        (rename News _ _ _ _ => n9)
        refine cp_end (tl := (_, _) :: (_, _) :: (_, _) :: tl) (by k_asm) n9 rfl rfl rfl (.tail _ (.tail _ (.tail _ (.tail _ (.tail _ (.head _)))))) (.tail _ (.tail _ (.tail _ (.tail _ (.tail _ (.tail _ (.head _))))))) (by assumption) (.snoc3 (k := k + 1) (k' := k + 1) (j := k + 1) (hS.mono (sub_cons (sub_cons (sub_cons sub_self)))) (.tail _ (.tail _ (.head _))) (.tail _ (.head _)) (.head _) (DIn.mono (by assumption) (sub_cons (sub_cons (sub_cons sub_self)))) (DIn.mono (by assumption) (sub_cons (sub_cons (sub_cons sub_self)))) (DIn.mono (by assumption) (sub_cons (sub_cons (sub_cons sub_self))))) (List.forall_mem_cons.mpr ⟨.tail _ (.head _), List.forall_mem_cons.mpr ⟨.tail _ (.tail _ (.head _)), List.forall_mem_cons.mpr ⟨.tail _ (.tail _ (.tail _ (.head _))), (by repeat (first | exact sub_self | refine sub_cons ?_))⟩⟩⟩) (List.forall_mem_cons.mpr ⟨by k_ne, List.forall_mem_cons.mpr ⟨by k_ne, List.forall_mem_cons.mpr ⟨by k_ne, by assumption⟩⟩⟩) (List.forall_mem_cons.mpr ⟨by k_ne, List.forall_mem_cons.mpr ⟨by k_ne, List.forall_mem_cons.mpr ⟨by k_ne, by assumption⟩⟩⟩) hcl (by simp only [cntSt, Dm.cnt] at hsum ⊢; omega) (ok3 hok ⟨fun x => x.2, fun x => ⟨hk60, x⟩⟩) (by simp only [cntSt, Dm.cnt]; omega)
      · skip
        k_steps
        repeat (any_goals (
          (with_reducible refine hold_un ?_)
          (first
            | ((with_reducible show wpAny _ _ (call (Value.ref 120) _) _ _ _); k_dflt (refine c_thrown_text (by k_asm) (by k_asm) (by k_asm) (by k_asm) (by k_asm) rfl (by ktr_room) (by ktr_units) ?_); intro e' dx' t' h' tk' tm' nx' n1 n2 sub' dv' F' N')
            | ((with_reducible show LCg.CompEnd ..); (rename News _ _ _ _ => n9); k_dflt (refine compEnd_keep (by k_asm) n9 ⟨by k_ne, by k_ne, by k_ne⟩ (by assumption) (by ((try dsimp only); k_mem)) ?_); (try dsimp only [List.nil_append, List.cons_append]))
            | ((with_reducible show wpAny _ _ (call (Value.builtin "list.extend") _) _ _ _); (rename News _ _ _ _ => n9); (rename Fr _ _ _ _ => f9); k_dflt (refine kl_extend f9 n9 (List.Mem.head _) rfl (Nat.succ_ne_zero _) (by k_upd) (ext_ok (by simp only [List.size_toArray, List.length_cons, List.length_nil]; first | exact le5 (by assumption) | exact le5a (by assumption) (by decide) | omega)) (le_line (by dsimp only; first | exact le5 (by assumption) | exact le5a (by assumption) (by decide) | omega)) (Nat.le_succ_of_le (le_line (by simp only [List.size_toArray, List.length_cons, List.length_nil]; first | exact le5 (by assumption) | exact le5a (by assumption) (by decide) | omega))) ?_); intro h' F' N'; (try k_sweep))
            | ((with_reducible show wpAny _ _ (call (Value.builtin "list.extend") _) _ _ _); (rename News _ _ _ _ => n9); (rename Fr _ _ _ _ => f9); k_dflt (refine kxn_extend f9 n9 (List.Mem.head _) rfl (by k_upd) (ext_ok (by simp only [List.size_toArray, List.length_cons, List.length_nil]; first | exact le5 (by assumption) | exact le5a (by assumption) (by decide) | omega)) (le_line (by dsimp only; first | exact le5 (by assumption) | exact le5a (by assumption) (by decide) | omega)) (Nat.le_succ_of_le (le_line (by simp only [List.size_toArray, List.length_cons, List.length_nil]; first | exact le5 (by assumption) | exact le5a (by assumption) (by decide) | omega))) ?_); intro h' F' N'; (try k_sweep))
            | ((with_reducible show wpAny _ _ (compareOp _ _ _) _ _ _); (refine cmp_ofNotEq ?_); k_dflt (refine' PySem.SeqAt.RcNeAt.lists_lengths ?hl ?hb size_snoc ?hu _ _ _ _ ?_; (case hl => exact News.isList (by k_asm) (by k_mem)); (case hb => exact News.isList (by k_asm) (by k_mem)); (case hu => ktr_units)))
            | ((with_reducible show wpAny _ _ (call (Value.builtin "list.pop") _) _ _ _); k_dflt (refine' kl_pop ?F ?N (its := (_ : List Value).toArray) (kpa_last _ _) ?U ?z ?_; (case F => k_asm); (case N => k_asm); (case U => k_upd); (case z => exact le_line (by simp only [List.length_append, List.length_cons, List.length_nil]; first | exact le5 (by assumption) | exact le5a (by assumption) (by decide) | omega))); intro h' F' N'; (try k_sweep))
            | ((with_reducible show wpAny _ _ (compareOp _ _ _) _ _ _); (rename HKey "compareOp NotEq ref ref" => hz9); clear hz9))
          k_steps))
        repeat (any_goals (
          (with_reducible refine hold_un ?_)
          (first
            | ((with_reducible show wpAny _ _ (call (Value.ref 120) _) _ _ _); k_dflt (refine c_thrown_text (by k_asm) (by k_asm) (by k_asm) (by k_asm) (by k_asm) rfl (by ktr_room) (by ktr_units) ?_); intro e' dx' t' h' tk' tm' nx' n1 n2 sub' dv' F' N')
            | ((with_reducible show LCg.CompEnd ..); (rename News _ _ _ _ => n9); k_dflt (refine compEnd_keep (by k_asm) n9 ⟨by k_ne, by k_ne, by k_ne⟩ (by assumption) (by ((try dsimp only); k_mem)) ?_); (try dsimp only [List.nil_append, List.cons_append]))
            | ((with_reducible show wpAny _ _ (call (Value.builtin "list.extend") _) _ _ _); (rename News _ _ _ _ => n9); (rename Fr _ _ _ _ => f9); k_dflt (refine kl_extend f9 n9 (List.Mem.head _) rfl (Nat.succ_ne_zero _) (by k_upd) (ext_ok (by simp only [List.size_toArray, List.length_cons, List.length_nil]; first | exact le5 (by assumption) | exact le5a (by assumption) (by decide) | omega)) (le_line (by dsimp only; first | exact le5 (by assumption) | exact le5a (by assumption) (by decide) | omega)) (Nat.le_succ_of_le (le_line (by simp only [List.size_toArray, List.length_cons, List.length_nil]; first | exact le5 (by assumption) | exact le5a (by assumption) (by decide) | omega))) ?_); intro h' F' N'; (try k_sweep))
            | ((with_reducible show wpAny _ _ (call (Value.builtin "list.extend") _) _ _ _); (rename News _ _ _ _ => n9); (rename Fr _ _ _ _ => f9); k_dflt (refine kxn_extend f9 n9 (List.Mem.head _) rfl (by k_upd) (ext_ok (by simp only [List.size_toArray, List.length_cons, List.length_nil]; first | exact le5 (by assumption) | exact le5a (by assumption) (by decide) | omega)) (le_line (by dsimp only; first | exact le5 (by assumption) | exact le5a (by assumption) (by decide) | omega)) (Nat.le_succ_of_le (le_line (by simp only [List.size_toArray, List.length_cons, List.length_nil]; first | exact le5 (by assumption) | exact le5a (by assumption) (by decide) | omega))) ?_); intro h' F' N'; (try k_sweep))
            | ((with_reducible show wpAny _ _ (compareOp _ _ _) _ _ _); (refine cmp_ofNotEq ?_); k_dflt (refine' PySem.SeqAt.RcNeAt.lists_lengths ?hl ?hb size_snoc ?hu _ _ _ _ ?_; (case hl => exact News.isList (by k_asm) (by k_mem)); (case hb => exact News.isList (by k_asm) (by k_mem)); (case hu => ktr_units)))
            | ((with_reducible show wpAny _ _ (call (Value.builtin "list.pop") _) _ _ _); k_dflt (refine' kl_pop ?F ?N (its := (_ : List Value).toArray) (kpa_last _ _) ?U ?z ?_; (case F => k_asm); (case N => k_asm); (case U => k_upd); (case z => exact le_line (by simp only [List.length_append, List.length_cons, List.length_nil]; first | exact le5 (by assumption) | exact le5a (by assumption) (by decide) | omega))); intro h' F' N'; (try k_sweep))
            | ((with_reducible show wpAny _ _ (compareOp _ _ _) _ _ _); (rename HKey "compareOp NotEq ref ref" => hz9); clear hz9))
          k_steps))
        (rename News _ _ _ _ => n9)
        refine cp_end (tl := (_, _) :: tl) (by k_asm) n9 rfl rfl rfl (.tail _ (.tail _ (.tail _ (.head _)))) (.tail _ (.tail _ (.tail _ (.tail _ (.head _))))) (by assumption) (.snoc (k := 1) (hS.mono (sub_cons sub_self)) (.head _) (DIn.mono (by assumption) (sub_cons sub_self))) (List.forall_mem_cons.mpr ⟨.tail _ (.head _), (by repeat (first | exact sub_self | refine sub_cons ?_))⟩) (List.forall_mem_cons.mpr ⟨by k_ne, by assumption⟩) (List.forall_mem_cons.mpr ⟨by k_ne, by assumption⟩) hcl (by simp only [cntSt, Dm.cnt] at hsum ⊢; omega) (ok1 hok ⟨fun x => x.2, fun x => ⟨hk60, x⟩⟩) (by simp only [cntSt, Dm.cnt]; omega)
end
section
open PySem PySem.Spec PySem.Calls PySem.W PyProof.Rows
/-- the head of a kind that is not Any -/
noncomputable def TupTail (led : List (Addr × Obj)) (b : Addr) : Prop := b = 124 ∨ ∃ ws k, (b, tupO ws k) ∈ led
noncomputable def KHead (led : List (Addr × Obj)) (vs : List Value) : Prop := (∃ t b, vs = [.str (Str.ofString "tuple") t, .ref b, .none] ∧ TupTail led b) ∨ (∃ t x u b, vs = [.str (Str.ofString "name") t, .str x u, .ref b] ∧ x ≠ Str.ofString "Any" ∧ TupTail led b)
theorem news_three {h₀ h : Heap} {L : Addr} {q q' : Addr × Obj} {l l' : List (Addr × Obj)} (N : News h₀ L h l') (hq : q ∈ l') (hq' : q' ∈ l') (hs : ∀ p ∈ l, p ∈ l') : News h₀ L h (q :: q' :: l) := fun p hp => by
  rcases List.mem_cons.mp hp with rfl | hp
  · exact N _ hq
  · rcases List.mem_cons.mp hp with rfl | hp
    · exact N _ hq'
    · exact N _ (hs _ hp)

theorem kind_tup {h₀ h : Heap} {L : Addr} {m : Str → Option Value} {q b : Addr} {t : Tok} {n k : Nat} {ws : List Value} {l l' : List (Addr × Obj)} {Q : Value → Shared → Prop} {s : Shared} {tk : Nat} (N : News h₀ L h l') (hq : (q, tupO [.str (Str.ofString "tuple") t, .ref b, .none] n) ∈ l') (hb : (b, tupO ws k) ∈ l') (hs : ∀ p ∈ l, p ∈ l') (F : Fr h₀ L h m)
    (ret : ∀ q vs n b ws k h' tk', Fr h₀ L h' m → News h₀ L h' ((q, tupO vs n) :: (b, tupO ws k) :: l) → KHead ((b, tupO ws k) :: l) vs → Q (.ref q) { s with heap := h', toks := tk' }) : Q (.ref q) { s with heap := h, toks := tk } :=
  ret _ _ _ _ _ _ _ _ F (news_three N hq hb hs) (.inl ⟨_, _, rfl, .inr ⟨_, _, .head _⟩⟩)
theorem kind_name {h₀ h : Heap} {L : Addr} {m : Str → Option Value} {q b : Addr} {x : Str} {t u : Tok} {n k : Nat} {ws : List Value} {l l' : List (Addr × Obj)} {Q : Value → Shared → Prop} {s : Shared} {tk : Nat} (N : News h₀ L h l') (hq : (q, tupO [.str (Str.ofString "name") t, .str x u, .ref b] n) ∈ l') (hb : (b, tupO ws k) ∈ l') (hs : ∀ p ∈ l, p ∈ l') (hx : x ≠ Str.ofString "Any") (F : Fr h₀ L h m)
    (ret : ∀ q vs n b ws k h' tk', Fr h₀ L h' m → News h₀ L h' ((q, tupO vs n) :: (b, tupO ws k) :: l) → KHead ((b, tupO ws k) :: l) vs → Q (.ref q) { s with heap := h', toks := tk' }) : Q (.ref q) { s with heap := h, toks := tk } :=
  ret _ _ _ _ _ _ _ _ F (news_three N hq hb hs) (.inr ⟨_, _, _, _, rfl, hx, .inr ⟨_, _, .head _⟩⟩)
theorem kind_124 {h₀ h : Heap} {L : Addr} {m : Str → Option Value} {q : Addr} {x : Str} {t u : Tok} {n : Nat} {l l' : List (Addr × Obj)} {Q : Value → Shared → Prop} {s : Shared} {tk : Nat} (N : News h₀ L h l') (hq : (q, tupO [.str (Str.ofString "name") t, .str x u, .ref 124] n) ∈ l') (hs : ∀ p ∈ l, p ∈ l') (hx : x ≠ Str.ofString "Any") (F : Fr h₀ L h m)
    (ret : ∀ q vs n b ws k h' tk', Fr h₀ L h' m → News h₀ L h' ((q, tupO vs n) :: (b, tupO ws k) :: l) → KHead ((b, tupO ws k) :: l) vs → Q (.ref q) { s with heap := h', toks := tk' }) : Q (.ref q) { s with heap := h, toks := tk } :=
  ret _ _ _ _ _ _ _ _ F (news_three N hq hq hs) (.inr ⟨_, _, _, _, rfl, hx, .inl rfl⟩)

noncomputable def KindC (w : World) (K : Frag) (mean : ExcName → Option Value) (mg mb : Str → Option Value) (d : Dm) : Prop :=
  ∀ (dp un : Nat) (gd : Option (List Code)) (cn : Str) (cs : Scope) (a : Addr) (ccd : Value) (cl : List (Str × Addr)) (outer : List Env) (A₀ : Around) (base h₀ : Heap) (L : Addr) (m : Str → Option Value) (news : List (Addr × Obj)) (s : Shared) (hp : Addr) (v : Value) (Q E : Value → Shared → Prop),
    Below A₀ base outer h₀ → Fr h₀ L s.heap m → K.In h₀ → News h₀ L s.heap news → Top topProg LL mean mg mb h₀ → cs.kind = .function → DIn news v d → dp + 3 * d.lv + 3 < recursionLimit → un + 30 * d.lv + 30 < cLine →
    (∀ q vs n b ws k h' tk', Fr h₀ L h' m → News h₀ L h' ((q, tupO vs n) :: (b, tupO ws k) :: news) → KHead ((b, tupO ws k) :: news) vs → Q (.ref q) { s with heap := h', toks := tk' }) →
    wpAny (model PySem.Challenge.rw_sf0048_01.row.prog w) (ktrTop dp un gd cn cs L a ccd cl outer) (call (.ref 685) [.ref hp, v]) Q E s

theorem kindC_use {w : World} {K : Frag} {mean : ExcName → Option Value} {mg mb : Str → Option Value} {d : Dm} {dp un : Nat} {gd : Option (List Code)} {cn : Str} {cs : Scope} {a : Addr} {ccd : Value} {cl : List (Str × Addr)} {outer : List Env} {A₀ : Around} {base h₀ : Heap} {L : Addr} {m : Str → Option Value} {news news₀ : List (Addr × Obj)} {s : Shared} {hp : Addr} {v : Value} {Q E : Value → Shared → Prop}
    (B : Below A₀ base outer h₀) (F : Fr h₀ L s.heap m) (X : K.In h₀) (N : News h₀ L s.heap news) (T : Top topProg LL mean mg mb h₀) (hk : cs.kind = .function) (D : DIn news₀ v d) (sub : ∀ p ∈ news₀, p ∈ news) (C : KindC w K mean mg mb d) (hd : dp + 3 * d.lv + 3 < recursionLimit) (hu : un + 30 * d.lv + 30 < cLine)
    (ret : ∀ q vs n b ws k h' tk', Fr h₀ L h' m → News h₀ L h' ((q, tupO vs n) :: (b, tupO ws k) :: news) → KHead ((b, tupO ws k) :: news) vs → Q (.ref q) { s with heap := h', toks := tk' }) :
    wpAny (model PySem.Challenge.rw_sf0048_01.row.prog w) (ktrTop dp un gd cn cs L a ccd cl outer) (call (.ref 685) [.ref hp, v]) Q E s :=
  C _ _ _ _ _ _ _ _ _ _ _ _ _ _ _ _ _ _ _ _ B F X N T hk (D.mono sub) hd hu ret

theorem max3 (a b c : Nat) : ∃ X, max a (max b c) = X ∧ a ≤ X ∧ b ≤ X ∧ c ≤ X := ⟨_, rfl, Nat.le_max_left _ _, Nat.le_trans (Nat.le_max_left b c) (Nat.le_max_right a _), Nat.le_trans (Nat.le_max_right b c) (Nat.le_max_right a _)⟩
theorem max2 (a b : Nat) : ∃ X, max a b = X ∧ a ≤ X ∧ b ≤ X := ⟨_, rfl, Nat.le_max_left _ _, Nat.le_max_right _ _⟩


theorem k_kind {w : World} {mean : ExcName → Option Value} {mg mb : Str → Option Value} : ∀ d, KindC w (KK w.params) mean mg mb d := by
  intro d
  induction d
  all_goals (
    unfold KindC
    (w_top off; k_fill)
    intro dp un gd cn cs a ccd cl outer A₀ base h₀ L m news s hp v Q E B F X N T hk hD hdp hun hret
    obtain ⟨kind, names, gen, coro, more⟩ := cs
    cases hk
    have hn0 : HC 685 := .mk
    have hn1 : HKey "CompEnd" := .mk
    cases hD
    simp only [Dm.lv] at hdp hun)
  · refine wpAny_call ?_
    k_dflt k_enter
    k_steps
    repeat (any_goals (
      (with_reducible refine hold_un ?_)
      (first
        | (k_dflt (refine' kindC_use ?B ?F ?X ?N ?T ?hk ?D ?sub ?C ?hd ?hu ?_; (case B => k_asm); (case F => k_asm); (case X => k_asm); (case N => k_asm); (case T => k_asm); (case hk => exact rfl); (case D => assumption); (case sub => repeat (first | exact sub_self | refine sub_cons ?_)); (case C => assumption); (case hd => ktr_room); (case hu => ktr_units)); intro q' vs' n' b' ws' k' h' tk' F' N' H'; (try k_sweep))
        | ((with_reducible show LCg.CompEnd ..); (rename News _ _ _ _ => n9); k_dflt (refine LCg.CompEnd.intro (by k_asm) n9 _ (sub_cons (sub_cons sub_self)) (by assumption) (by ((try dsimp only); k_mem)) ?_); (try dsimp only [List.nil_append, List.cons_append])))
      k_steps))
    (rename News h₀ L _ _ => n9)
    first
    | exact kind_tup n9 (by k_mem) (by k_mem) (by repeat (first | exact sub_self | refine sub_cons ?_)) (by k_asm) hret
    | exact kind_124 n9 (by k_mem) (by repeat (first | exact sub_self | refine sub_cons ?_)) (by decide) (by k_asm) hret
    | exact kind_name n9 (by k_mem) (by k_mem) (by repeat (first | exact sub_self | refine sub_cons ?_)) (by decide) (by k_asm) hret
  · refine wpAny_call ?_
    k_dflt k_enter
    k_steps
    repeat (any_goals (
      (with_reducible refine hold_un ?_)
      (first
        | (k_dflt (refine' kindC_use ?B ?F ?X ?N ?T ?hk ?D ?sub ?C ?hd ?hu ?_; (case B => k_asm); (case F => k_asm); (case X => k_asm); (case N => k_asm); (case T => k_asm); (case hk => exact rfl); (case D => assumption); (case sub => repeat (first | exact sub_self | refine sub_cons ?_)); (case C => assumption); (case hd => ktr_room); (case hu => ktr_units)); intro q' vs' n' b' ws' k' h' tk' F' N' H'; (try k_sweep))
        | ((with_reducible show LCg.CompEnd ..); (rename News _ _ _ _ => n9); k_dflt (refine LCg.CompEnd.intro (by k_asm) n9 _ (sub_cons (sub_cons sub_self)) (by assumption) (by ((try dsimp only); k_mem)) ?_); (try dsimp only [List.nil_append, List.cons_append])))
      k_steps))
    (rename News h₀ L _ _ => n9)
    first
    | exact kind_tup n9 (by k_mem) (by k_mem) (by repeat (first | exact sub_self | refine sub_cons ?_)) (by k_asm) hret
    | exact kind_124 n9 (by k_mem) (by repeat (first | exact sub_self | refine sub_cons ?_)) (by decide) (by k_asm) hret
    | exact kind_name n9 (by k_mem) (by k_mem) (by repeat (first | exact sub_self | refine sub_cons ?_)) (by decide) (by k_asm) hret
  · refine wpAny_call ?_
    k_dflt k_enter
    k_steps
    repeat (any_goals (
      (with_reducible refine hold_un ?_)
      (first
        | (k_dflt (refine' kindC_use ?B ?F ?X ?N ?T ?hk ?D ?sub ?C ?hd ?hu ?_; (case B => k_asm); (case F => k_asm); (case X => k_asm); (case N => k_asm); (case T => k_asm); (case hk => exact rfl); (case D => assumption); (case sub => repeat (first | exact sub_self | refine sub_cons ?_)); (case C => assumption); (case hd => ktr_room); (case hu => ktr_units)); intro q' vs' n' b' ws' k' h' tk' F' N' H'; (try k_sweep))
        | ((with_reducible show LCg.CompEnd ..); (rename News _ _ _ _ => n9); k_dflt (refine LCg.CompEnd.intro (by k_asm) n9 _ (sub_cons (sub_cons sub_self)) (by assumption) (by ((try dsimp only); k_mem)) ?_); (try dsimp only [List.nil_append, List.cons_append])))
      k_steps))
    (rename News h₀ L _ _ => n9)
    first
    | exact kind_tup n9 (by k_mem) (by k_mem) (by repeat (first | exact sub_self | refine sub_cons ?_)) (by k_asm) hret
    | exact kind_124 n9 (by k_mem) (by repeat (first | exact sub_self | refine sub_cons ?_)) (by decide) (by k_asm) hret
    | exact kind_name n9 (by k_mem) (by k_mem) (by repeat (first | exact sub_self | refine sub_cons ?_)) (by decide) (by k_asm) hret
  · refine wpAny_call ?_
    k_dflt k_enter
    k_steps
    repeat (any_goals (
      (with_reducible refine hold_un ?_)
      (first
        | (k_dflt (refine' kindC_use ?B ?F ?X ?N ?T ?hk ?D ?sub ?C ?hd ?hu ?_; (case B => k_asm); (case F => k_asm); (case X => k_asm); (case N => k_asm); (case T => k_asm); (case hk => exact rfl); (case D => assumption); (case sub => repeat (first | exact sub_self | refine sub_cons ?_)); (case C => assumption); (case hd => ktr_room); (case hu => ktr_units)); intro q' vs' n' b' ws' k' h' tk' F' N' H'; (try k_sweep))
        | ((with_reducible show LCg.CompEnd ..); (rename News _ _ _ _ => n9); k_dflt (refine LCg.CompEnd.intro (by k_asm) n9 _ (sub_cons (sub_cons sub_self)) (by assumption) (by ((try dsimp only); k_mem)) ?_); (try dsimp only [List.nil_append, List.cons_append])))
      k_steps))
    (rename News h₀ L _ _ => n9)
    first
    | exact kind_tup n9 (by k_mem) (by k_mem) (by repeat (first | exact sub_self | refine sub_cons ?_)) (by k_asm) hret
    | exact kind_124 n9 (by k_mem) (by repeat (first | exact sub_self | refine sub_cons ?_)) (by decide) (by k_asm) hret
    | exact kind_name n9 (by k_mem) (by k_mem) (by repeat (first | exact sub_self | refine sub_cons ?_)) (by decide) (by k_asm) hret
  · obtain ⟨X, e, h1, h2⟩ := max2 _ _
    rw [e] at hdp hun
    clear e
    refine wpAny_call ?_
    k_dflt k_enter
    k_steps
    repeat (any_goals (
      (with_reducible refine hold_un ?_)
      (first
        | (k_dflt (refine' kindC_use ?B ?F ?X ?N ?T ?hk ?D ?sub ?C ?hd ?hu ?_; (case B => k_asm); (case F => k_asm); (case X => k_asm); (case N => k_asm); (case T => k_asm); (case hk => exact rfl); (case D => assumption); (case sub => repeat (first | exact sub_self | refine sub_cons ?_)); (case C => assumption); (case hd => ktr_room); (case hu => ktr_units)); intro q' vs' n' b' ws' k' h' tk' F' N' H'; (try k_sweep))
        | ((with_reducible show LCg.CompEnd ..); (rename News _ _ _ _ => n9); k_dflt (refine LCg.CompEnd.intro (by k_asm) n9 _ (sub_cons (sub_cons sub_self)) (by assumption) (by ((try dsimp only); k_mem)) ?_); (try dsimp only [List.nil_append, List.cons_append])))
      k_steps))
    (rename News h₀ L _ _ => n9)
    first
    | exact kind_tup n9 (by k_mem) (by k_mem) (by repeat (first | exact sub_self | refine sub_cons ?_)) (by k_asm) hret
    | exact kind_124 n9 (by k_mem) (by repeat (first | exact sub_self | refine sub_cons ?_)) (by decide) (by k_asm) hret
    | exact kind_name n9 (by k_mem) (by k_mem) (by repeat (first | exact sub_self | refine sub_cons ?_)) (by decide) (by k_asm) hret
  · obtain ⟨X, e, h1, h2, h3⟩ := max3 _ _ _
    rw [e] at hdp hun
    clear e
    refine wpAny_call ?_
    k_dflt k_enter
    k_steps
    repeat (any_goals (
      (with_reducible refine hold_un ?_)
      (first
        | (k_dflt (refine' kindC_use ?B ?F ?X ?N ?T ?hk ?D ?sub ?C ?hd ?hu ?_; (case B => k_asm); (case F => k_asm); (case X => k_asm); (case N => k_asm); (case T => k_asm); (case hk => exact rfl); (case D => assumption); (case sub => repeat (first | exact sub_self | refine sub_cons ?_)); (case C => assumption); (case hd => ktr_room); (case hu => ktr_units)); intro q' vs' n' b' ws' k' h' tk' F' N' H'; (try k_sweep))
        | ((with_reducible show LCg.CompEnd ..); (rename News _ _ _ _ => n9); k_dflt (refine LCg.CompEnd.intro (by k_asm) n9 _ (sub_cons (sub_cons sub_self)) (by assumption) (by ((try dsimp only); k_mem)) ?_); (try dsimp only [List.nil_append, List.cons_append])))
      k_steps))
    (rename News h₀ L _ _ => n9)
    first
    | exact kind_tup n9 (by k_mem) (by k_mem) (by repeat (first | exact sub_self | refine sub_cons ?_)) (by k_asm) hret
    | exact kind_124 n9 (by k_mem) (by repeat (first | exact sub_self | refine sub_cons ?_)) (by decide) (by k_asm) hret
    | exact kind_name n9 (by k_mem) (by k_mem) (by repeat (first | exact sub_self | refine sub_cons ?_)) (by decide) (by k_asm) hret
  · refine wpAny_call ?_
    k_dflt k_enter
    k_steps
    repeat (any_goals (
      (with_reducible refine hold_un ?_)
      (first
        | (k_dflt (refine' kindC_use ?B ?F ?X ?N ?T ?hk ?D ?sub ?C ?hd ?hu ?_; (case B => k_asm); (case F => k_asm); (case X => k_asm); (case N => k_asm); (case T => k_asm); (case hk => exact rfl); (case D => assumption); (case sub => repeat (first | exact sub_self | refine sub_cons ?_)); (case C => assumption); (case hd => ktr_room); (case hu => ktr_units)); intro q' vs' n' b' ws' k' h' tk' F' N' H'; (try k_sweep))
        | ((with_reducible show LCg.CompEnd ..); (rename News _ _ _ _ => n9); k_dflt (refine LCg.CompEnd.intro (by k_asm) n9 _ (sub_cons (sub_cons sub_self)) (by assumption) (by ((try dsimp only); k_mem)) ?_); (try dsimp only [List.nil_append, List.cons_append])))
      k_steps))
    (rename News h₀ L _ _ => n9)
    first
    | exact kind_tup n9 (by k_mem) (by k_mem) (by repeat (first | exact sub_self | refine sub_cons ?_)) (by k_asm) hret
    | exact kind_124 n9 (by k_mem) (by repeat (first | exact sub_self | refine sub_cons ?_)) (by decide) (by k_asm) hret
    | exact kind_name n9 (by k_mem) (by k_mem) (by repeat (first | exact sub_self | refine sub_cons ?_)) (by decide) (by k_asm) hret
end
end
section
open PySem PySem.Spec PySem.Calls PySem.W PyProof.Rows
/-- the values that are put together, and what they make -/
inductive PartsIn (led : List (Addr × Obj)) : List Value → Dm → Prop where
  | one {u : Value} {d : Dm} : DIn led u d → PartsIn led [u] (.tup1 d)
  | two {u v : Value} {d e : Dm} : DIn led u d → DIn led v e → PartsIn led [u, v] (.tup2 d e)
  | three {u v x : Value} {d e f : Dm} : DIn led u d → DIn led v e → DIn led x f → PartsIn led [u, v, x] (.tup3 d e f)
/-- a tuple value of the program: its parts by identity -/
noncomputable def TupV (led : List (Addr × Obj)) (r : Value) (vs : List Value) : Prop := ∃ a b t n k, r = .ref a ∧ (a, tupO [.str (Str.ofString "tuple") t, .ref b] n) ∈ led ∧ (b, tupO vs k) ∈ led
theorem PartsIn.mono {led led' : List (Addr × Obj)} {vs : List Value} {d : Dm} (h : PartsIn led vs d) (hs : ∀ p ∈ led, p ∈ led') : PartsIn led' vs d := by
  cases h with
  | one a => exact .one (a.mono hs)
  | two a b => exact .two (a.mono hs) (b.mono hs)
  | three a b c => exact .three (a.mono hs) (b.mono hs) (c.mono hs)
theorem PartsIn.din {led : List (Addr × Obj)} {vs : List Value} {d : Dm} {r : Value} (h : PartsIn led vs d) (t : TupV led r vs) : DIn led r d := by
  obtain ⟨a, b, t, n, k, rfl, h1, h2⟩ := t
  cases h with
  | one a => exact .tup1 h1 h2 a
  | two a b => exact .tup2 h1 h2 a b
  | three a b c => exact .tup3 h1 h2 a b c
noncomputable def Holds1 {P : Prop} (h : P) : P := h
theorem c_tuple {w : World} {dp un : Nat} {gd : Option (List Code)} {cn : Str} {cs : Scope} {a : Addr} {ccd : Value} {cl : List (Str × Addr)} {outer : List Env} {A₀ : Around} {base h₀ : Heap} {L : Addr} {m mg mb : Str → Option Value} {mean : ExcName → Option Value} {news : List (Addr × Obj)} {s : Shared} {im : Value} {l : Addr} {n : Nat} {vs : List Value} {d : Dm} {Q E : Value → Shared → Prop}
    (B : Below A₀ base outer h₀) (F : Fr h₀ L s.heap m) (X : (KK w.params).In h₀) (N : News h₀ L s.heap news) (T : Top topProg LL mean mg mb h₀) (hk : cs.kind = .function) (hdp : dp + 130 < recursionLimit) (hun : un + 1200 < cLine)
    (hl : (l, listOf vs.toArray n) ∈ news) (hP : PartsIn news vs d) (hcnt : d.cnt ≤ 4000)
    (ret : ∀ r h' tk' nx, Fr h₀ L h' m → News h₀ L h' nx → (∀ p ∈ news, p ∈ nx) → TupV nx r vs → d.good 1 → Q r { s with heap := h', toks := tk' })
    (err : ∀ e t dx tm nx g₂ h' tk', Fr h₀ L g₂ m → Aloft base g₂ (envX cn cs L a ccd cl :: outer) e t dx tm nx h' → g₂.UpToSlots h' → (∀ p ∈ news, p ∈ nx) → DictV w nx dx → ¬ d.good 1 → E (.ref e) { s with heap := h', toks := tk' }) :
    wpAny (model PySem.Challenge.rw_sf0048_01.row.prog w) (ktrTop dp un gd cn cs L a ccd cl outer) (call (.ref 719) [im, .ref l]) Q E s := by
  revert X; (w_top off; k_fill); intro X
  have hm0 : HC 712 := .mk
  obtain ⟨kind, names, gen, coro, more⟩ := cs
  cases hk
  refine wpAny_call ?_
  cases hP
  · k_dflt k_enter
    k_steps
    (rename News _ _ _ _ => n9)
    refine hold (c_checked (by k_asm) (by k_asm) (by k_asm) n9 (by k_asm) rfl (by ktr_room) (by ktr_units) (d := _) ?_ hcnt ?_ ?_)
    · exact .tup1 (.head _) (.tail _ (.head _)) (DIn.mono (by assumption) (sub_cons (sub_cons sub_self)))
    · intro h' tk' F' N' hg
      k_steps
      (rename News h₀ L _ _ => n8)
      exact ret _ _ _ _ (by k_asm) n8 (by repeat (first | exact sub_self | refine sub_cons ?_)) ⟨_, _, _, _, _, rfl, .head _, .tail _ (.head _)⟩ hg
    · intro e t dx tm nx g₂ h' tk' F' al up sub dv hb
      refine leave_onD (by k_asm) F' al up rfl ?_
      intro h9 al9 up9
      exact err _ _ _ _ _ _ _ _ (by assumption) al9 up9 (fun p hp => sub p (.tail _ (.tail _ hp))) dv hb
  · k_dflt k_enter
    k_steps
    (rename News _ _ _ _ => n9)
    refine hold (c_checked (by k_asm) (by k_asm) (by k_asm) n9 (by k_asm) rfl (by ktr_room) (by ktr_units) (d := _) ?_ hcnt ?_ ?_)
    · exact .tup2 (.head _) (.tail _ (.head _)) (DIn.mono (by assumption) (sub_cons (sub_cons sub_self))) (DIn.mono (by assumption) (sub_cons (sub_cons sub_self)))
    · intro h' tk' F' N' hg
      k_steps
      (rename News h₀ L _ _ => n8)
      exact ret _ _ _ _ (by k_asm) n8 (by repeat (first | exact sub_self | refine sub_cons ?_)) ⟨_, _, _, _, _, rfl, .head _, .tail _ (.head _)⟩ hg
    · intro e t dx tm nx g₂ h' tk' F' al up sub dv hb
      refine leave_onD (by k_asm) F' al up rfl ?_
      intro h9 al9 up9
      exact err _ _ _ _ _ _ _ _ (by assumption) al9 up9 (fun p hp => sub p (.tail _ (.tail _ hp))) dv hb
  · k_dflt k_enter
    k_steps
    (rename News _ _ _ _ => n9)
    refine hold (c_checked (by k_asm) (by k_asm) (by k_asm) n9 (by k_asm) rfl (by ktr_room) (by ktr_units) (d := _) ?_ hcnt ?_ ?_)
    · exact .tup3 (.head _) (.tail _ (.head _)) (DIn.mono (by assumption) (sub_cons (sub_cons sub_self))) (DIn.mono (by assumption) (sub_cons (sub_cons sub_self))) (DIn.mono (by assumption) (sub_cons (sub_cons sub_self)))
    · intro h' tk' F' N' hg
      k_steps
      (rename News h₀ L _ _ => n8)
      exact ret _ _ _ _ (by k_asm) n8 (by repeat (first | exact sub_self | refine sub_cons ?_)) ⟨_, _, _, _, _, rfl, .head _, .tail _ (.head _)⟩ hg
    · intro e t dx tm nx g₂ h' tk' F' al up sub dv hb
      refine leave_onD (by k_asm) F' al up rfl ?_
      intro h9 al9 up9
      exact err _ _ _ _ _ _ _ _ (by assumption) al9 up9 (fun p hp => sub p (.tail _ (.tail _ hp))) dv hb
end
section
open PySem PySem.Spec PySem.Calls PySem.W PyProof.Rows
local macro_rules | `(tactic| walk_at "call type:list") => `(tactic| ((with_unfolding_all refine listK (by k_asm) (by k_asm) (by k_asm) (by k_is) ?_ (by size_fits)); intro D' c' h' F' N' l1; (try k_lt l1); (try k_sweep)))
local macro_rules | `(tactic| walk_at "eval ListComp") => `(tactic| k_dflt (refine comp_nil (by k_asm) (by with_unfolding_all rfl) (by decide) (by rfl) (by decide) (by intro _ _; rfl) ?_))
local macro_rules | `(tactic| walk_at "NilSrc") => `(tactic| ((k_dflt (refine NilSrc.intro (by rfl) (by k_asm) (by k_asm) (by k_mem) ?_)); intro D' h' tk' F' N' l1; (try k_lt l1)))
local macro_rules | `(tactic| ke_read) => `(tactic| exact readsK (by k_asm) (by k_asm) (by k_is) (by ke_reads))
local macro_rules | `(tactic| walk_at "execs cons") => `(tactic| ((show wpAny _ _ _ _ _ _); k_fold))
section
open PySem PySem.Spec PySem.Calls PySem.W PyProof.Rows
local macro_rules | `(tactic| k_all) => `(tactic| exact all_off (by assumption))
section
open PySem PySem.Spec PySem.Calls PySem.W PyProof.Rows
theorem c_fvs {w : World} {dp un : Nat} {gd : Option (List Code)} {cn : Str} {cs : Scope} {a : Addr} {ccd : Value} {cl : List (Str × Addr)} {outer : List Env} {A₀ : Around} {base h₀ : Heap} {L : Addr} {m mg mb : Str → Option Value} {mean : ExcName → Option Value} {news : List (Addr × Obj)} {s : Shared} {Q E : Value → Shared → Prop}
    (B : Below A₀ base outer h₀) (F : Fr h₀ L s.heap m) (X : (KK w.params).In h₀) (N : News h₀ L s.heap news) (T : Top topProg LL mean mg mb h₀) (hk : cs.kind = .function) (hdp : dp + 10 < recursionLimit) (hun : un + 200 < cLine)
    (ret : ∀ l n h' tk', Fr h₀ L h' m → News h₀ L h' ((l, listOf #[] n) :: news) → (∀ p ∈ news, p.1 < l) → Q (.ref l) { s with heap := h', toks := tk' }) :
    wpAny (model PySem.Challenge.rw_sf0048_01.row.prog w) (ktrTop dp un gd cn cs L a ccd cl outer) (call (.ref 176) [.ref 122]) Q E s := by
  revert X; (w_top off; k_fill); intro X
  obtain ⟨kind, names, gen, coro, more⟩ := cs
  cases hk
  refine wpAny_call ?_
  k_dflt k_enter
  k_steps
  (rename News h₀ L _ _ => n9)
  refine ret _ _ _ _ (by k_asm) (news_two n9 (by k_mem) (by repeat (first | exact sub_self | refine sub_cons ?_))) ?_
  first
  | exact tb_ltOf (by assumption)
  | exact tb_ltOf (And.right (by assumption))
end
section
open PySem PySem.Spec PySem.Calls PySem.W PyProof.Rows
section
variable {prog : Program} {w : World} {A : Around} {E : Value → Shared → Prop} {s : Shared} {env : Env} {h₀ : Heap} {target : PySem.Expr} {body : List Stmt} {Q : Flow → Shared → Prop}
theorem iter_nilT {ax : Addr} {n : Nat} {m₀ : Str → Option Value} {news : List (Addr × Obj)}
    (hh : A.handled = none) (F : Fr h₀ env.locals s.heap m₀) (N : News h₀ env.locals s.heap news) (hm : (ax, listOf #[] n) ∈ news)
    (h : ∀ h tk, Fr h₀ env.locals h m₀ → News h₀ env.locals h news → Q .next { s with heap := h, toks := tk }) :
    wpAny (model prog w) A (pyIter (.ref ax)) (fun it s₂ => TurnsAt prog w A h₀ env target body Q E it s₂) E s :=
  iter_listTurns (vs := []) hh F N hm rfl rfl fun _ _ => ItemsRest.zero h
theorem iter_oneT {ax : Addr} {n : Nat} {v : Value} {m₀ : Str → Option Value} {news : List (Addr × Obj)}
    (hh : A.handled = none) (F : Fr h₀ env.locals s.heap m₀) (N : News h₀ env.locals s.heap news) (hm : (ax, listOf #[v] n) ∈ news)
    (h : ∀ I : Addr, (∀ p ∈ news, p.1 < I) → ItemsRest prog w A E h₀ env target body Q s [(I, "list_iterator")] [(ax, listOf #[v] n)] [.val v] m₀ news) :
    wpAny (model prog w) A (pyIter (.ref ax)) (fun it s₂ => TurnsAt prog w A h₀ env target body Q E it s₂) E s :=
  iter_listTurns (vs := [v]) hh F N hm rfl rfl h
end
structure Older (I : Addr) (l : List (Addr × Obj)) : Prop where
  h : ∀ p ∈ l, p.1 < I
theorem unrEnd_one {h₀ : Heap} {L I D : Addr} {o oD : Obj} {rest : (Str → Option Value) → List (Addr × Obj) → Prop} {s₁ : Shared} {h' : Heap} {tk : Nat} {m' : Str → Option Value} {all nx : List (Addr × Obj)} (F : Fr h₀ L h' m') (N : News h₀ L h' all)
    (hI : (I, o) ∈ all) (hD : (D, oD) ∈ all) (sub : ∀ p ∈ nx, p ∈ all) (hDI : D ≠ I) (off : Older I nx) (r : rest m' ((D, oD) :: nx)) : UnrEndW h₀ L s₁ [(I, o)] rest { s₁ with heap := h', toks := tk } :=
  ⟨h', tk, m', (D, oD) :: nx, rfl, F, fun p hp => by
    rcases List.mem_cons.mp hp with rfl | hp
    · exact N _ hI
    · rcases List.mem_cons.mp hp with rfl | hp
      · exact N _ hD
      · exact N _ (sub p hp), fun p hp q hq => by
    rw [List.mem_singleton.mp hq]
    rcases List.mem_cons.mp hp with rfl | hp
    · exact hDI
    · exact Nat.ne_of_lt (off.h p hp), r⟩
theorem subL_one {p : Addr × Obj} {l : List (Addr × Obj)} (h : p ∈ l) : SubL [p] l := And.intro h trivial
structure Apart (d : Addr) (l : List (Addr × Obj)) : Prop where
  h : ∀ q ∈ l, (@Ne Nat q.1 d)
theorem apart_ne {d a : Addr} {o : Obj} {l : List (Addr × Obj)} (z : Apart d l) (h : (a, o) ∈ l) : d ≠ a := fun e => z.h _ h e.symm
/-- the dict of a declaration -/
noncomputable abbrev declO (w : World) (t₁ t₂ t₃ t₄ t₅ t₆ : Tok) (nm : Value) (P : Addr) (sup : Value) (ab : Bool) (G : Addr) : Obj := dictOf [⟨PyData.keyHash w.params (Str.ofString "name"), .str (Str.ofString "name") t₁, nm⟩, ⟨PyData.keyHash w.params (Str.ofString "params"), .str (Str.ofString "params") t₂, .ref P⟩, ⟨PyData.keyHash w.params (Str.ofString "super"), .str (Str.ofString "super") t₃, sup⟩, ⟨PyData.keyHash w.params (Str.ofString "is_abstract"), .str (Str.ofString "is_abstract") t₄, .bool ab⟩, ⟨PyData.keyHash w.params (Str.ofString "is_mutable"), .str (Str.ofString "is_mutable") t₅, .bool false⟩, ⟨PyData.keyHash w.params (Str.ofString "fields"), .str (Str.ofString "fields") t₆, .ref G⟩] 6
noncomputable abbrev kindsO (w : World) (t : Tok) (D : Addr) : Obj := dictOf [⟨PyData.keyHash w.params (Str.ofString "decls"), .str (Str.ofString "decls") t, .ref D⟩] 1
local macro_rules | `(tactic| k_ne) => `(tactic| first | exact apart_ne (by assumption) (by k_mem) | fail)
/-- what a declaration of S reads -/
noncomputable abbrev preS (w : World) (D k dk y dy P G p x dx PA GA : Addr) (td t₁ t₂ t₃ t₄ t₅ t₆ u₁ u₂ u₃ u₄ u₅ u₆ ts tx ta : Tok) (c5 c6 c7 c8 : Nat) (rest : List (Addr × Obj)) : List (Addr × Obj) :=
  (k, instObj 870 dk) :: (dk, kindsO w td D) :: (y, instObj 774 dy) :: (dy, declO w t₁ t₂ t₃ t₄ t₅ t₆ (.str (Str.ofString "S") ts) P (.ref 122) false G) :: (P, listOf #[] c5) :: (G, listOf #[.ref p] c6) :: (p, ({ cls := .type "tuple", data := .seq #[.str (Str.ofString "x") tx, .ref 122] c7 } : Obj)) :: (x, instObj 774 dx) :: (dx, declO w u₁ u₂ u₃ u₄ u₅ u₆ (.str (Str.ofString "Any") ta) PA .none true GA) :: (PA, listOf #[] c8) :: rest
theorem c_declS {w : World} {dp un : Nat} {gd : Option (List Code)} {cn : Str} {cs : Scope} {a : Addr} {ccd : Value} {cl : List (Str × Addr)} {outer : List Env} {A₀ : Around} {base h₀ : Heap} {L : Addr} {m mg mb : Str → Option Value} {mean : ExcName → Option Value} {rest : List (Addr × Obj)} {s : Shared} {Q E : Value → Shared → Prop}
    {D k dk y dy P G p x dx PA GA : Addr} {oD : Obj} {td t₁ t₂ t₃ t₄ t₅ t₆ u₁ u₂ u₃ u₄ u₅ u₆ ts tx ta : Tok} {c5 c6 c7 c8 : Nat}
    (B : Below A₀ base outer h₀) (F : Fr h₀ L s.heap m) (X : (KK w.params).In h₀) (N : News h₀ L s.heap ((D, oD) :: preS w D k dk y dy P G p x dx PA GA td t₁ t₂ t₃ t₄ t₅ t₆ u₁ u₂ u₃ u₄ u₅ u₆ ts tx ta c5 c6 c7 c8 rest)) (ho : ∀ q ∈ rest, q.1 ≠ D) (hlt : (@LT.lt Nat _ k D) ∧ (@LT.lt Nat _ dk D) ∧ (@LT.lt Nat _ D y) ∧ (@LT.lt Nat _ D dy) ∧ (@LT.lt Nat _ D P) ∧ (@LT.lt Nat _ D G) ∧ (@LT.lt Nat _ D p) ∧ (@LT.lt Nat _ D x) ∧ (@LT.lt Nat _ D dx) ∧ (@LT.lt Nat _ D PA)) (T : Top topProg LL mean mg mb h₀) (hk : cs.kind = .function) (hdp : dp + 120 < recursionLimit) (hun : un + 1100 < cLine)
    (lo : (D == sysModules) = false) (hD : oD.IsDictOf (PySem.strKind PySem.Challenge.rw_sf0048_01.row.prog w) [(Str.ofString "Any", .ref x)])
    (ret : ∀ oD' h' tk', Fr h₀ L h' m → News h₀ L h' ((D, oD') :: rest) → oD'.IsDictOf (PySem.strKind PySem.Challenge.rw_sf0048_01.row.prog w) [(Str.ofString "Any", .ref x), (Str.ofString "S", .ref y)] → Q .none { s with heap := h', toks := tk' }) :
    wpAny (model PySem.Challenge.rw_sf0048_01.row.prog w) (ktrTop dp un gd cn cs L a ccd cl outer) (call (.ref 804) [.ref k, .ref y]) Q E s := by
  unfold preS at N
  revert X; (w_top off; k_fill); intro X
  obtain ⟨kind, names, gen, coro, more⟩ := cs
  cases hk
  refine wpAny_call ?_
  k_dflt k_enter
  have hL9 := tb_ltOf (l := rest) (And.right (And.right (And.right (And.right (And.right (And.right (And.right (And.right (And.right (And.right (And.right (by assumption))))))))))))
  have hm0 : HC 176 := .mk
  have hm1 : HKey "exec For Tuple Attribute cons nil" := .mk
  have hm2 : HKey "pyIter ref" := .mk
  have hm3 : HKey "UnrEndW" := .mk
  have hm4 : HKey "call type:dict" := .mk
  k_steps
  repeat (any_goals (
    (with_reducible refine hold_un ?_)
    (first
      | ((with_reducible show wpAny _ _ (pyIter (Value.ref _)) (fun it s₂ => TurnsAt _ _ _ _ _ _ _ _ _ it s₂) _ _); (rename Fr _ _ _ _ => lF'); (rename News _ _ _ _ => lN'); k_dflt (refine iter_oneT (by rfl) lF' lN' (by k_mem) ?_); intro I' l1; (have l9 := Older.mk l1); (try k_lt l1))
      | ((with_reducible show wpAny _ _ (pyIter (Value.ref _)) (fun it s₂ => TurnsAt _ _ _ _ _ _ _ _ _ it s₂) _ _); (rename Fr _ _ _ _ => lF'); (rename News _ _ _ _ => lN'); k_dflt (refine iter_nilT (by rfl) lF' lN' (by k_mem) ?_); intro h' tk' F' N')
      | ((with_reducible show wpAny _ _ (call (Value.ref 176) [Value.ref 122]) _ _ _); k_dflt (refine c_fvs (by k_asm) (by k_asm) (by k_asm) (by k_asm) (by k_asm) rfl (by ktr_room) (by ktr_units) ?_); intro l' n' h' tk' F' N' l1; (try k_lt l1))
      | ((with_reducible show wpAny _ _ (call (Value.type "dict") [Value.ref _]) _ _ _); k_dflt (refine call_dictOne rfl (by ktr_room) (by ktr_units) (by k_asm) (by k_asm) (by k_asm) (by k_mem) (by k_mem) ?_); intro d' o' h' tk' n1 F' N' hd' lo'; (have n2 := Apart.mk n1); clear n1)
      | ((with_reducible show wpAny _ _ (call (Value.type "dict") [Value.ref _]) _ _ _); k_dflt (refine call_dictNil rfl (by ktr_room) (by ktr_units) (by k_asm) (by k_asm) (by k_asm) (by k_mem) ?_); intro d' o' h' tk' n1 F' N' hd' lo'; (have n2 := Apart.mk n1); clear n1)
      | ((with_reducible show wpAny _ _ (exec _ _) _ _ _); (rename Fr _ _ _ _ => lF'); k_dflt (refine' For_turns lF' ?_; k_whole))
      | ((rename News _ _ _ _ => n9); (rename Older _ _ => o9); k_dflt (refine unrEnd_one (by k_asm) n9 (.tail _ (.tail _ (.tail _ (.head _)))) (.head _) (sub_cons (sub_cons (sub_cons (sub_cons sub_self)))) (by k_ne) o9 ⟨subL_one (by k_mem), ?_⟩)))
    k_steps))
  (rename News h₀ L _ _ => n9)
  exact ret _ _ _ (by k_asm) (fun q hq => n9 q (List.forall_mem_cons.mpr ⟨by k_mem, by repeat (first | exact sub_self | refine sub_cons ?_)⟩ q hq)) (by assumption)
/-- what a declaration of Symbol reads -/
noncomputable abbrev preM (w : World) (D k dk y dy P G x dx PA GA : Addr) (td t₁ t₂ t₃ t₄ t₅ t₆ u₁ u₂ u₃ u₄ u₅ u₆ ts ta : Tok) (c5 c6 c8 : Nat) (rest : List (Addr × Obj)) : List (Addr × Obj) :=
  (k, instObj 870 dk) :: (dk, kindsO w td D) :: (y, instObj 774 dy) :: (dy, declO w t₁ t₂ t₃ t₄ t₅ t₆ (.str (Str.ofString "Symbol") ts) P (.ref 122) false G) :: (P, listOf #[] c5) :: (G, listOf #[] c6) :: (x, instObj 774 dx) :: (dx, declO w u₁ u₂ u₃ u₄ u₅ u₆ (.str (Str.ofString "Any") ta) PA .none true GA) :: (PA, listOf #[] c8) :: rest
theorem c_declM {w : World} {dp un : Nat} {gd : Option (List Code)} {cn : Str} {cs : Scope} {a : Addr} {ccd : Value} {cl : List (Str × Addr)} {outer : List Env} {A₀ : Around} {base h₀ : Heap} {L : Addr} {m mg mb : Str → Option Value} {mean : ExcName → Option Value} {rest : List (Addr × Obj)} {s : Shared} {Q E : Value → Shared → Prop}
    {D k dk y dy P G x dx PA GA y0 : Addr} {oD : Obj} {td t₁ t₂ t₃ t₄ t₅ t₆ u₁ u₂ u₃ u₄ u₅ u₆ ts ta : Tok} {c5 c6 c8 : Nat}
    (B : Below A₀ base outer h₀) (F : Fr h₀ L s.heap m) (X : (KK w.params).In h₀) (N : News h₀ L s.heap ((D, oD) :: preM w D k dk y dy P G x dx PA GA td t₁ t₂ t₃ t₄ t₅ t₆ u₁ u₂ u₃ u₄ u₅ u₆ ts ta c5 c6 c8 rest)) (ho : ∀ q ∈ rest, q.1 ≠ D) (hlt : (@LT.lt Nat _ k D) ∧ (@LT.lt Nat _ dk D) ∧ (@LT.lt Nat _ D y) ∧ (@LT.lt Nat _ D dy) ∧ (@LT.lt Nat _ D P) ∧ (@LT.lt Nat _ D G) ∧ (@LT.lt Nat _ D x) ∧ (@LT.lt Nat _ D dx) ∧ (@LT.lt Nat _ D PA)) (T : Top topProg LL mean mg mb h₀) (hk : cs.kind = .function) (hdp : dp + 120 < recursionLimit) (hun : un + 1100 < cLine)
    (lo : (D == sysModules) = false) (hD : oD.IsDictOf (PySem.strKind PySem.Challenge.rw_sf0048_01.row.prog w) [(Str.ofString "Any", .ref x), (Str.ofString "S", .ref y0)])
    (ret : ∀ oD' h' tk', Fr h₀ L h' m → News h₀ L h' ((D, oD') :: rest) → oD'.IsDictOf (PySem.strKind PySem.Challenge.rw_sf0048_01.row.prog w) [(Str.ofString "Any", .ref x), (Str.ofString "S", .ref y0), (Str.ofString "Symbol", .ref y)] → Q .none { s with heap := h', toks := tk' }) :
    wpAny (model PySem.Challenge.rw_sf0048_01.row.prog w) (ktrTop dp un gd cn cs L a ccd cl outer) (call (.ref 804) [.ref k, .ref y]) Q E s := by
  unfold preM at N
  revert X; (w_top off; k_fill); intro X
  obtain ⟨kind, names, gen, coro, more⟩ := cs
  cases hk
  refine wpAny_call ?_
  k_dflt k_enter
  have hL9 := tb_ltOf (l := rest) (And.right (And.right (And.right (And.right (And.right (And.right (And.right (And.right (And.right (And.right (by assumption)))))))))))
  have hm0 : HC 176 := .mk
  have hm1 : HKey "exec For Tuple Attribute cons nil" := .mk
  have hm2 : HKey "pyIter ref" := .mk
  have hm3 : HKey "UnrEndW" := .mk
  have hm4 : HKey "call type:dict" := .mk
  k_steps
  repeat (any_goals (
    (with_reducible refine hold_un ?_)
    (first
      | ((with_reducible show wpAny _ _ (pyIter (Value.ref _)) (fun it s₂ => TurnsAt _ _ _ _ _ _ _ _ _ it s₂) _ _); (rename Fr _ _ _ _ => lF'); (rename News _ _ _ _ => lN'); k_dflt (refine iter_oneT (by rfl) lF' lN' (by k_mem) ?_); intro I' l1; (have l9 := Older.mk l1); (try k_lt l1))
      | ((with_reducible show wpAny _ _ (pyIter (Value.ref _)) (fun it s₂ => TurnsAt _ _ _ _ _ _ _ _ _ it s₂) _ _); (rename Fr _ _ _ _ => lF'); (rename News _ _ _ _ => lN'); k_dflt (refine iter_nilT (by rfl) lF' lN' (by k_mem) ?_); intro h' tk' F' N')
      | ((with_reducible show wpAny _ _ (call (Value.ref 176) [Value.ref 122]) _ _ _); k_dflt (refine c_fvs (by k_asm) (by k_asm) (by k_asm) (by k_asm) (by k_asm) rfl (by ktr_room) (by ktr_units) ?_); intro l' n' h' tk' F' N' l1; (try k_lt l1))
      | ((with_reducible show wpAny _ _ (call (Value.type "dict") [Value.ref _]) _ _ _); k_dflt (refine call_dictOne rfl (by ktr_room) (by ktr_units) (by k_asm) (by k_asm) (by k_asm) (by k_mem) (by k_mem) ?_); intro d' o' h' tk' n1 F' N' hd' lo'; (have n2 := Apart.mk n1); clear n1)
      | ((with_reducible show wpAny _ _ (call (Value.type "dict") [Value.ref _]) _ _ _); k_dflt (refine call_dictNil rfl (by ktr_room) (by ktr_units) (by k_asm) (by k_asm) (by k_asm) (by k_mem) ?_); intro d' o' h' tk' n1 F' N' hd' lo'; (have n2 := Apart.mk n1); clear n1)
      | ((with_reducible show wpAny _ _ (exec _ _) _ _ _); (rename Fr _ _ _ _ => lF'); k_dflt (refine' For_turns lF' ?_; k_whole))
      | ((rename News _ _ _ _ => n9); (rename Older _ _ => o9); k_dflt (refine unrEnd_one (by k_asm) n9 (.tail _ (.tail _ (.tail _ (.head _)))) (.head _) (sub_cons (sub_cons (sub_cons (sub_cons sub_self)))) (by k_ne) o9 ⟨subL_one (by k_mem), ?_⟩)))
    k_steps))
  (rename News h₀ L _ _ => n9)
  exact ret _ _ _ (by k_asm) (fun q hq => n9 q (List.forall_mem_cons.mpr ⟨by k_mem, by repeat (first | exact sub_self | refine sub_cons ?_)⟩ q hq)) (by assumption)
end
section
open PySem PySem.Spec PySem.Calls PySem.W PyProof.Rows
theorem upd_rest {D : Addr} {oD : Obj} {led : List (Addr × Obj)} {g : Obj → List (Addr × Obj)} (U : UpdF D oD led g) : ∃ rest, (∀ q ∈ rest, q.1 ≠ D) ∧ (∀ q ∈ (D, oD) :: rest, q ∈ led) ∧ ∀ o', ∀ q ∈ g o', q ∈ (D, o') :: rest := by
  obtain ⟨pre, post, rfl, hg, a, b⟩ := U.split
  refine ⟨pre ++ post, fun q hq => (List.mem_append.mp hq).elim (a q) (b q), fun q hq => ?_, fun o' q hq => ?_⟩
  · rcases List.mem_cons.mp hq with rfl | hq
    · exact List.mem_append_right _ (.head _)
    · exact (List.mem_append.mp hq).elim (fun h => List.mem_append_left _ h) fun h => List.mem_append_right _ (.tail _ h)
  · rw [hg] at hq
    rcases List.mem_append.mp hq with h | h
    · exact .tail _ (List.mem_append_left _ h)
    · rcases List.mem_cons.mp h with rfl | h
      · exact .head _
      · exact .tail _ (List.mem_append_right _ h)
theorem c_declS' {w : World} {dp un : Nat} {gd : Option (List Code)} {cn : Str} {cs : Scope} {a : Addr} {ccd : Value} {cl : List (Str × Addr)} {outer : List Env} {A₀ : Around} {base h₀ : Heap} {L : Addr} {m mg mb : Str → Option Value} {mean : ExcName → Option Value} {led : List (Addr × Obj)} {g : Obj → List (Addr × Obj)} {s : Shared} {Q E : Value → Shared → Prop}
    {D k dk y dy P G p x dx PA GA : Addr} {oD : Obj} {td t₁ t₂ t₃ t₄ t₅ t₆ u₁ u₂ u₃ u₄ u₅ u₆ ts tx ta : Tok} {c5 c6 c7 c8 : Nat}
    (B : Below A₀ base outer h₀) (F : Fr h₀ L s.heap m) (X : (KK w.params).In h₀) (N : News h₀ L s.heap led) (T : Top topProg LL mean mg mb h₀) (hk : cs.kind = .function) (hdp : dp + 120 < recursionLimit) (hun : un + 1100 < cLine)
    (m1 : (k, instObj 870 dk) ∈ led) (m2 : (dk, kindsO w td D) ∈ led) (U : UpdF D oD led g) (lo : (D == sysModules) = false) (hD : oD.IsDictOf (PySem.strKind PySem.Challenge.rw_sf0048_01.row.prog w) [(Str.ofString "Any", .ref x)])
    (m3 : (y, instObj 774 dy) ∈ led) (m4 : (dy, declO w t₁ t₂ t₃ t₄ t₅ t₆ (.str (Str.ofString "S") ts) P (.ref 122) false G) ∈ led) (m5 : (P, listOf #[] c5) ∈ led) (m6 : (G, listOf #[.ref p] c6) ∈ led)
    (m7 : (p, ({ cls := .type "tuple", data := .seq #[.str (Str.ofString "x") tx, .ref 122] c7 } : Obj)) ∈ led) (m8 : (x, instObj 774 dx) ∈ led) (m9 : (dx, declO w u₁ u₂ u₃ u₄ u₅ u₆ (.str (Str.ofString "Any") ta) PA .none true GA) ∈ led) (m10 : (PA, listOf #[] c8) ∈ led)
    (hlt : (@LT.lt Nat _ k D) ∧ (@LT.lt Nat _ dk D) ∧ (@LT.lt Nat _ D y) ∧ (@LT.lt Nat _ D dy) ∧ (@LT.lt Nat _ D P) ∧ (@LT.lt Nat _ D G) ∧ (@LT.lt Nat _ D p) ∧ (@LT.lt Nat _ D x) ∧ (@LT.lt Nat _ D dx) ∧ (@LT.lt Nat _ D PA))
    (ret : ∀ oD' h' tk', Fr h₀ L h' m → News h₀ L h' (g oD') → oD'.IsDictOf (PySem.strKind PySem.Challenge.rw_sf0048_01.row.prog w) [(Str.ofString "Any", .ref x), (Str.ofString "S", .ref y)] → Q .none { s with heap := h', toks := tk' }) :
    wpAny (model PySem.Challenge.rw_sf0048_01.row.prog w) (ktrTop dp un gd cn cs L a ccd cl outer) (call (.ref 804) [.ref k, .ref y]) Q E s := by
  obtain ⟨rest, r1, r2, r3⟩ := upd_rest U
  have all : ∀ q ∈ (D, oD) :: preS w D k dk y dy P G p x dx PA GA td t₁ t₂ t₃ t₄ t₅ t₆ u₁ u₂ u₃ u₄ u₅ u₆ ts tx ta c5 c6 c7 c8 rest, q ∈ led := by
    unfold preS
    refine List.forall_mem_cons.mpr ⟨r2 _ (.head _), ?_⟩
    exact List.forall_mem_cons.mpr ⟨m1, List.forall_mem_cons.mpr ⟨m2, List.forall_mem_cons.mpr ⟨m3, List.forall_mem_cons.mpr ⟨m4, List.forall_mem_cons.mpr ⟨m5, List.forall_mem_cons.mpr ⟨m6, List.forall_mem_cons.mpr ⟨m7, List.forall_mem_cons.mpr ⟨m8, List.forall_mem_cons.mpr ⟨m9, List.forall_mem_cons.mpr ⟨m10, fun q hq => r2 q (.tail _ hq)⟩⟩⟩⟩⟩⟩⟩⟩⟩⟩
  exact c_declS B F X (fun q hq => N q (all q hq)) r1 hlt T hk hdp hun lo hD fun oD' h' tk' F' N' hd' => ret oD' h' tk' F' (fun q hq => N' q (r3 _ q hq)) hd'
theorem c_declM' {w : World} {dp un : Nat} {gd : Option (List Code)} {cn : Str} {cs : Scope} {a : Addr} {ccd : Value} {cl : List (Str × Addr)} {outer : List Env} {A₀ : Around} {base h₀ : Heap} {L : Addr} {m mg mb : Str → Option Value} {mean : ExcName → Option Value} {led : List (Addr × Obj)} {g : Obj → List (Addr × Obj)} {s : Shared} {Q E : Value → Shared → Prop}
    {D k dk y dy P G x dx PA GA y0 : Addr} {oD : Obj} {td t₁ t₂ t₃ t₄ t₅ t₆ u₁ u₂ u₃ u₄ u₅ u₆ ts ta : Tok} {c5 c6 c8 : Nat}
    (B : Below A₀ base outer h₀) (F : Fr h₀ L s.heap m) (X : (KK w.params).In h₀) (N : News h₀ L s.heap led) (T : Top topProg LL mean mg mb h₀) (hk : cs.kind = .function) (hdp : dp + 120 < recursionLimit) (hun : un + 1100 < cLine)
    (m1 : (k, instObj 870 dk) ∈ led) (m2 : (dk, kindsO w td D) ∈ led) (U : UpdF D oD led g) (lo : (D == sysModules) = false) (hD : oD.IsDictOf (PySem.strKind PySem.Challenge.rw_sf0048_01.row.prog w) [(Str.ofString "Any", .ref x), (Str.ofString "S", .ref y0)])
    (m3 : (y, instObj 774 dy) ∈ led) (m4 : (dy, declO w t₁ t₂ t₃ t₄ t₅ t₆ (.str (Str.ofString "Symbol") ts) P (.ref 122) false G) ∈ led) (m5 : (P, listOf #[] c5) ∈ led) (m6 : (G, listOf #[] c6) ∈ led)
    (m8 : (x, instObj 774 dx) ∈ led) (m9 : (dx, declO w u₁ u₂ u₃ u₄ u₅ u₆ (.str (Str.ofString "Any") ta) PA .none true GA) ∈ led) (m10 : (PA, listOf #[] c8) ∈ led)
    (hlt : (@LT.lt Nat _ k D) ∧ (@LT.lt Nat _ dk D) ∧ (@LT.lt Nat _ D y) ∧ (@LT.lt Nat _ D dy) ∧ (@LT.lt Nat _ D P) ∧ (@LT.lt Nat _ D G) ∧ (@LT.lt Nat _ D x) ∧ (@LT.lt Nat _ D dx) ∧ (@LT.lt Nat _ D PA))
    (ret : ∀ oD' h' tk', Fr h₀ L h' m → News h₀ L h' (g oD') → oD'.IsDictOf (PySem.strKind PySem.Challenge.rw_sf0048_01.row.prog w) [(Str.ofString "Any", .ref x), (Str.ofString "S", .ref y0), (Str.ofString "Symbol", .ref y)] → Q .none { s with heap := h', toks := tk' }) :
    wpAny (model PySem.Challenge.rw_sf0048_01.row.prog w) (ktrTop dp un gd cn cs L a ccd cl outer) (call (.ref 804) [.ref k, .ref y]) Q E s := by
  obtain ⟨rest, r1, r2, r3⟩ := upd_rest U
  have all : ∀ q ∈ (D, oD) :: preM w D k dk y dy P G x dx PA GA td t₁ t₂ t₃ t₄ t₅ t₆ u₁ u₂ u₃ u₄ u₅ u₆ ts ta c5 c6 c8 rest, q ∈ led := by
    unfold preM
    refine List.forall_mem_cons.mpr ⟨r2 _ (.head _), ?_⟩
    exact List.forall_mem_cons.mpr ⟨m1, List.forall_mem_cons.mpr ⟨m2, List.forall_mem_cons.mpr ⟨m3, List.forall_mem_cons.mpr ⟨m4, List.forall_mem_cons.mpr ⟨m5, List.forall_mem_cons.mpr ⟨m6, List.forall_mem_cons.mpr ⟨m8, List.forall_mem_cons.mpr ⟨m9, List.forall_mem_cons.mpr ⟨m10, fun q hq => r2 q (.tail _ hq)⟩⟩⟩⟩⟩⟩⟩⟩⟩
  exact c_declM B F X (fun q hq => N q (all q hq)) r1 hlt T hk hdp hun lo hD fun oD' h' tk' F' N' hd' => ret oD' h' tk' F' (fun q hq => N' q (r3 _ q hq)) hd'
noncomputable abbrev heapO (w : World) (t₁ t₂ t₃ : Tok) (th k im : Addr) : Obj := dictOf [⟨PyData.keyHash w.params (Str.ofString "things"), .str (Str.ofString "things") t₁, .ref th⟩, ⟨PyData.keyHash w.params (Str.ofString "kinds"), .str (Str.ofString "kinds") t₂, .ref k⟩, ⟨PyData.keyHash w.params (Str.ofString "heap"), .str (Str.ofString "heap") t₃, .ref im⟩] 3
/-- what the deeds read of the image -/
noncomputable abbrev imgL (w : World) (im di th k dk D y dy P G p : Addr) (oD : Obj) (r₁ r₂ r₃ td t₁ t₂ t₃ t₄ t₅ t₆ ts tx : Tok) (c4 c5 c6 c7 : Nat) : List (Addr × Obj) :=
  [(im, instObj 662 di), (di, heapO w r₁ r₂ r₃ th k im), (th, listOf #[] c4), (k, instObj 870 dk), (dk, kindsO w td D), (D, oD), (y, instObj 774 dy), (dy, declO w t₁ t₂ t₃ t₄ t₅ t₆ (.str (Str.ofString "S") ts) P (.ref 122) false G), (P, listOf #[] c5), (G, listOf #[.ref p] c6), (p, ({ cls := .type "tuple", data := .seq #[.str (Str.ofString "x") tx, .ref 122] c7 } : Obj))]
inductive ImgIn (w : World) (led : List (Addr × Obj)) (im : Addr) : Prop where
  | mk (di th k dk D y dy P G p x y1 : Addr) (oD : Obj) (r₁ r₂ r₃ td t₁ t₂ t₃ t₄ t₅ t₆ ts tx : Tok) (c4 c5 c6 c7 : Nat) (h1 : (D == sysModules) = false) (h2 : oD.IsDictOf (PySem.strKind PySem.Challenge.rw_sf0048_01.row.prog w) [(Str.ofString "Any", .ref x), (Str.ofString "S", .ref y), (Str.ofString "Symbol", .ref y1)])
    (h3 : ∀ q ∈ imgL w im di th k dk D y dy P G p oD r₁ r₂ r₃ td t₁ t₂ t₃ t₄ t₅ t₆ ts tx c4 c5 c6 c7, q ∈ led) : ImgIn w led im
theorem ImgIn.mono {w : World} {led led' : List (Addr × Obj)} {im : Addr} (h : ImgIn w led im) (hs : ∀ p ∈ led, p ∈ led') : ImgIn w led' im := by
  obtain ⟨di, th, k, dk, D, y, dy, P, G, p, x, y1, oD, r₁, r₂, r₃, td, t₁, t₂, t₃, t₄, t₅, t₆, ts, tx, c4, c5, c6, c7, h1, h2, h3⟩ := h
  exact ⟨di, th, k, dk, D, y, dy, P, G, p, x, y1, oD, r₁, r₂, r₃, td, t₁, t₂, t₃, t₄, t₅, t₆, ts, tx, c4, c5, c6, c7, h1, h2, fun q hq => hs _ (h3 q hq)⟩
theorem ImgIn.of {w : World} {led : List (Addr × Obj)} {im di th k dk D y dy P G p x y1 : Addr} {oD : Obj} {r₁ r₂ r₃ td t₁ t₂ t₃ t₄ t₅ t₆ ts tx : Tok} {c4 c5 c6 c7 : Nat} (h1 : (D == sysModules) = false) (h2 : oD.IsDictOf (PySem.strKind PySem.Challenge.rw_sf0048_01.row.prog w) [(Str.ofString "Any", .ref x), (Str.ofString "S", .ref y), (Str.ofString "Symbol", .ref y1)])
    (m1 : (im, instObj 662 di) ∈ led) (m2 : (di, heapO w r₁ r₂ r₃ th k im) ∈ led) (m3 : (th, listOf #[] c4) ∈ led) (m4 : (k, instObj 870 dk) ∈ led) (m5 : (dk, kindsO w td D) ∈ led) (m6 : (D, oD) ∈ led) (m7 : (y, instObj 774 dy) ∈ led) (m8 : (dy, declO w t₁ t₂ t₃ t₄ t₅ t₆ (.str (Str.ofString "S") ts) P (.ref 122) false G) ∈ led) (m9 : (P, listOf #[] c5) ∈ led) (m10 : (G, listOf #[.ref p] c6) ∈ led) (m11 : (p, ({ cls := .type "tuple", data := .seq #[.str (Str.ofString "x") tx, .ref 122] c7 } : Obj)) ∈ led) : ImgIn w led im :=
  ⟨di, th, k, dk, D, y, dy, P, G, p, x, y1, oD, r₁, r₂, r₃, td, t₁, t₂, t₃, t₄, t₅, t₆, ts, tx, c4, c5, c6, c7, h1, h2, List.forall_mem_cons.mpr ⟨m1, List.forall_mem_cons.mpr ⟨m2, List.forall_mem_cons.mpr ⟨m3, List.forall_mem_cons.mpr ⟨m4, List.forall_mem_cons.mpr ⟨m5, List.forall_mem_cons.mpr ⟨m6, List.forall_mem_cons.mpr ⟨m7, List.forall_mem_cons.mpr ⟨m8, List.forall_mem_cons.mpr ⟨m9, List.forall_mem_cons.mpr ⟨m10, List.forall_mem_cons.mpr ⟨m11, fun _ h => nomatch h⟩⟩⟩⟩⟩⟩⟩⟩⟩⟩⟩⟩
end
section
open PySem PySem.Spec PySem.Calls PySem.W PyProof.Rows
theorem news_4 {h₀ h : Heap} {L : Addr} {q1 q2 q3 q4 : Addr × Obj} {l l' : List (Addr × Obj)} (N : News h₀ L h l') (h1 : q1 ∈ l') (h2 : q2 ∈ l') (h3 : q3 ∈ l') (h4 : q4 ∈ l') (hs : ∀ p ∈ l, p ∈ l') : News h₀ L h (q1 :: q2 :: q3 :: q4 :: l) := fun p hp => by
  rcases List.mem_cons.mp hp with rfl | hp
  · exact N _ h1
  · rcases List.mem_cons.mp hp with rfl | hp
    · exact N _ h2
    · rcases List.mem_cons.mp hp with rfl | hp
      · exact N _ h3
      · rcases List.mem_cons.mp hp with rfl | hp
        · exact N _ h4
        · exact N _ (hs _ hp)
theorem allLt_all {d : Addr} {l : List (Addr × Obj)} (h : AllLt d l) : ∀ p ∈ l, p.1 < d := tb_ltOf h
theorem up1 {a : Addr × Obj} {l l' : List (Addr × Obj)} (h : ∀ q ∈ l, q ∈ l') : ∀ q ∈ a :: l, q ∈ a :: l' := fun q hq => (List.mem_cons.mp hq).elim (fun e => e ▸ .head _) fun hq => .tail _ (h q hq)
theorem up2 {a b : Addr × Obj} {l l' : List (Addr × Obj)} (h : ∀ q ∈ l, q ∈ l') : ∀ q ∈ a :: b :: l, q ∈ a :: b :: l' := up1 (up1 h)
theorem up3 {a b c : Addr × Obj} {l l' : List (Addr × Obj)} (h : ∀ q ∈ l, q ∈ l') : ∀ q ∈ a :: b :: c :: l, q ∈ a :: b :: c :: l' := up1 (up2 h)
theorem up4 {a b c d : Addr × Obj} {l l' : List (Addr × Obj)} (h : ∀ q ∈ l, q ∈ l') : ∀ q ∈ a :: b :: c :: d :: l, q ∈ a :: b :: c :: d :: l' := up1 (up3 h)
theorem c_mk4 {w : World} {dp un : Nat} {gd : Option (List Code)} {cn : Str} {cs : Scope} {a : Addr} {ccd : Value} {cl : List (Str × Addr)} {outer : List Env} {A₀ : Around} {base h₀ : Heap} {L : Addr} {m mg mb : Str → Option Value} {mean : ExcName → Option Value} {rest : List (Addr × Obj)} {s : Shared} {Q E : Value → Shared → Prop} {P : Addr} {c : Nat} {nm : Str} {tn : Tok} {sup : Value} {ab : Bool}
    (B : Below A₀ base outer h₀) (F : Fr h₀ L s.heap m) (X : (KK w.params).In h₀) (N : News h₀ L s.heap ((P, listOf #[] c) :: rest)) (T : Top topProg LL mean mg mb h₀) (hk : cs.kind = .function) (hdp : dp + 10 < recursionLimit) (hun : un + 200 < cLine)
    (ret : ∀ y dy P' G t₁ t₂ t₃ t₄ t₅ t₆ c5 c6 h' tk', (∀ p ∈ (P, listOf #[] c) :: rest, p.1 < dy) → (@LT.lt Nat _ dy y) → (∀ p ∈ (y, instObj 774 dy) :: (dy, instObj 774 dy) :: (P, listOf #[] c) :: rest, p.1 < P') → (∀ p ∈ (P', instObj 774 dy) :: (y, instObj 774 dy) :: (dy, instObj 774 dy) :: (P, listOf #[] c) :: rest, p.1 < G) →
      Fr h₀ L h' m → News h₀ L h' ((y, instObj 774 dy) :: (dy, declO w t₁ t₂ t₃ t₄ t₅ t₆ (.str nm tn) P' sup ab G) :: (P', listOf #[] c5) :: (G, listOf #[] c6) :: (P, listOf #[] c) :: rest) → Q (.ref y) { s with heap := h', toks := tk' }) :
    wpAny (model PySem.Challenge.rw_sf0048_01.row.prog w) (ktrTop dp un gd cn cs L a ccd cl outer) (call (.ref 774) [.str nm tn, .ref P, sup, .bool ab]) Q E s := by
  revert X; (w_top off; k_fill); intro X
  obtain ⟨kind, names, gen, coro, more⟩ := cs
  cases hk
  k_steps
  (rename News h₀ L _ _ => n9)
  (rename @LT.lt Nat _ _ _ => z1)
  refine' ret _ _ _ _ _ _ _ _ _ _ _ _ _ _ ?o1 z1 ?o2 ?o3 (by k_asm) (news_4 n9 ?m1 ?m2 ?m3 ?m4 ?m5)
  case m1 => k_mem
  case m2 => k_mem
  case m3 => k_mem
  case m4 => k_mem
  case m5 => repeat (first | exact sub_self | refine sub_cons ?_)
  case o1 => exact fun p hp => (List.mem_cons.mp hp).elim (fun e => e ▸ And.left (by assumption)) (fun hp => tb_ltOf (And.right (by assumption)) p hp)
  case o2 => exact allLt_all (by assumption)
  case o3 => exact allLt_all (by assumption)
theorem c_mk6 {w : World} {dp un : Nat} {gd : Option (List Code)} {cn : Str} {cs : Scope} {a : Addr} {ccd : Value} {cl : List (Str × Addr)} {outer : List Env} {A₀ : Around} {base h₀ : Heap} {L : Addr} {m mg mb : Str → Option Value} {mean : ExcName → Option Value} {rest : List (Addr × Obj)} {s : Shared} {Q E : Value → Shared → Prop} {P FL pp : Addr} {c d : Nat} {nm : Str} {tn : Tok} {sup : Value} {ab : Bool}
    (B : Below A₀ base outer h₀) (F : Fr h₀ L s.heap m) (X : (KK w.params).In h₀) (N : News h₀ L s.heap ((P, listOf #[] c) :: (FL, listOf #[.ref pp] d) :: rest)) (T : Top topProg LL mean mg mb h₀) (hk : cs.kind = .function) (hdp : dp + 10 < recursionLimit) (hun : un + 200 < cLine)
    (ret : ∀ y dy P' G t₁ t₂ t₃ t₄ t₅ t₆ c5 c6 h' tk', (∀ p ∈ (P, listOf #[] c) :: (FL, listOf #[.ref pp] d) :: rest, p.1 < dy) → (@LT.lt Nat _ dy y) → (∀ p ∈ (y, instObj 774 dy) :: (dy, instObj 774 dy) :: (P, listOf #[] c) :: (FL, listOf #[.ref pp] d) :: rest, p.1 < P') → (∀ p ∈ (P', instObj 774 dy) :: (y, instObj 774 dy) :: (dy, instObj 774 dy) :: (P, listOf #[] c) :: (FL, listOf #[.ref pp] d) :: rest, p.1 < G) →
      Fr h₀ L h' m → News h₀ L h' ((y, instObj 774 dy) :: (dy, declO w t₁ t₂ t₃ t₄ t₅ t₆ (.str nm tn) P' sup ab G) :: (P', listOf #[] c5) :: (G, listOf #[.ref pp] c6) :: (P, listOf #[] c) :: (FL, listOf #[.ref pp] d) :: rest) → Q (.ref y) { s with heap := h', toks := tk' }) :
    wpAny (model PySem.Challenge.rw_sf0048_01.row.prog w) (ktrTop dp un gd cn cs L a ccd cl outer) (call (.ref 774) [.str nm tn, .ref P, sup, .bool ab, .bool false, .ref FL]) Q E s := by
  revert X; (w_top off; k_fill); intro X
  obtain ⟨kind, names, gen, coro, more⟩ := cs
  cases hk
  k_steps
  (rename News h₀ L _ _ => n9)
  (rename @LT.lt Nat _ _ _ => z1)
  refine' ret _ _ _ _ _ _ _ _ _ _ _ _ _ _ ?o1 z1 ?o2 ?o3 (by k_asm) (news_4 n9 ?m1 ?m2 ?m3 ?m4 ?m5)
  case m1 => k_mem
  case m2 => k_mem
  case m3 => k_mem
  case m4 => k_mem
  case m5 => repeat (first | exact sub_self | refine sub_cons ?_)
  case o1 => exact allLt_all (by assumption)
  case o2 => exact allLt_all (by assumption)
  case o3 => exact allLt_all (by assumption)
theorem c_mk4' {w : World} {dp un : Nat} {gd : Option (List Code)} {cn : Str} {cs : Scope} {a : Addr} {ccd : Value} {cl : List (Str × Addr)} {outer : List Env} {A₀ : Around} {base h₀ : Heap} {L : Addr} {m mg mb : Str → Option Value} {mean : ExcName → Option Value} {rest : List (Addr × Obj)} {s : Shared} {Q E : Value → Shared → Prop} {P : Addr} {c : Nat} {nm : Str} {tn : Tok} {sup : Value} {ab : Bool}
    (B : Below A₀ base outer h₀) (F : Fr h₀ L s.heap m) (X : (KK w.params).In h₀) (N : News h₀ L s.heap rest) (T : Top topProg LL mean mg mb h₀) (hk : cs.kind = .function) (hdp : dp + 10 < recursionLimit) (hun : un + 200 < cLine) (m1 : (P, listOf #[] c) ∈ rest)
    (ret : ∀ y dy P' G t₁ t₂ t₃ t₄ t₅ t₆ c5 c6 h' tk', (∀ p ∈ rest, p.1 < dy) → (@LT.lt Nat _ dy y) → (∀ p ∈ (y, instObj 774 dy) :: (dy, instObj 774 dy) :: rest, p.1 < P') → (∀ p ∈ (P', instObj 774 dy) :: (y, instObj 774 dy) :: (dy, instObj 774 dy) :: rest, p.1 < G) →
      Fr h₀ L h' m → News h₀ L h' ((y, instObj 774 dy) :: (dy, declO w t₁ t₂ t₃ t₄ t₅ t₆ (.str nm tn) P' sup ab G) :: (P', listOf #[] c5) :: (G, listOf #[] c6) :: rest) → Q (.ref y) { s with heap := h', toks := tk' }) :
    wpAny (model PySem.Challenge.rw_sf0048_01.row.prog w) (ktrTop dp un gd cn cs L a ccd cl outer) (call (.ref 774) [.str nm tn, .ref P, sup, .bool ab]) Q E s := by
  have all := List.forall_mem_cons.mpr ⟨m1, fun _ h => h⟩
  exact c_mk4 B F X (fun q hq => N q (all q hq)) T hk hdp hun fun y dy P' G t₁ t₂ t₃ t₄ t₅ t₆ c5 c6 h' tk' o1 o2 o3 o4 F' N' => ret y dy P' G t₁ t₂ t₃ t₄ t₅ t₆ c5 c6 h' tk' (fun p hp => o1 p (.tail _ hp)) o2
    (fun p hp => o3 p (up2 (fun q hq => .tail _ hq) p hp)) (fun p hp => o4 p (up3 (fun q hq => .tail _ hq) p hp)) F' (fun q hq => N' q (up4 (fun q hq => .tail _ hq) q hq))
theorem c_mk6' {w : World} {dp un : Nat} {gd : Option (List Code)} {cn : Str} {cs : Scope} {a : Addr} {ccd : Value} {cl : List (Str × Addr)} {outer : List Env} {A₀ : Around} {base h₀ : Heap} {L : Addr} {m mg mb : Str → Option Value} {mean : ExcName → Option Value} {rest : List (Addr × Obj)} {s : Shared} {Q E : Value → Shared → Prop} {P FL pp : Addr} {c d : Nat} {nm : Str} {tn : Tok} {sup : Value} {ab : Bool}
    (B : Below A₀ base outer h₀) (F : Fr h₀ L s.heap m) (X : (KK w.params).In h₀) (N : News h₀ L s.heap rest) (T : Top topProg LL mean mg mb h₀) (hk : cs.kind = .function) (hdp : dp + 10 < recursionLimit) (hun : un + 200 < cLine) (m1 : (P, listOf #[] c) ∈ rest) (m2 : (FL, listOf #[.ref pp] d) ∈ rest)
    (ret : ∀ y dy P' G t₁ t₂ t₃ t₄ t₅ t₆ c5 c6 h' tk', (∀ p ∈ rest, p.1 < dy) → (@LT.lt Nat _ dy y) → (∀ p ∈ (y, instObj 774 dy) :: (dy, instObj 774 dy) :: rest, p.1 < P') → (∀ p ∈ (P', instObj 774 dy) :: (y, instObj 774 dy) :: (dy, instObj 774 dy) :: rest, p.1 < G) →
      Fr h₀ L h' m → News h₀ L h' ((y, instObj 774 dy) :: (dy, declO w t₁ t₂ t₃ t₄ t₅ t₆ (.str nm tn) P' sup ab G) :: (P', listOf #[] c5) :: (G, listOf #[.ref pp] c6) :: rest) → Q (.ref y) { s with heap := h', toks := tk' }) :
    wpAny (model PySem.Challenge.rw_sf0048_01.row.prog w) (ktrTop dp un gd cn cs L a ccd cl outer) (call (.ref 774) [.str nm tn, .ref P, sup, .bool ab, .bool false, .ref FL]) Q E s := by
  have all := List.forall_mem_cons.mpr ⟨m1, List.forall_mem_cons.mpr ⟨m2, fun _ h => h⟩⟩
  exact c_mk6 B F X (fun q hq => N q (all q hq)) T hk hdp hun fun y dy P' G t₁ t₂ t₃ t₄ t₅ t₆ c5 c6 h' tk' o1 o2 o3 o4 F' N' => ret y dy P' G t₁ t₂ t₃ t₄ t₅ t₆ c5 c6 h' tk' (fun p hp => o1 p (.tail _ (.tail _ hp))) o2
    (fun p hp => o3 p (up2 (fun q hq => .tail _ (.tail _ hq)) p hp)) (fun p hp => o4 p (up3 (fun q hq => .tail _ (.tail _ hq)) p hp)) F' (fun q hq => N' q (up4 (fun q hq => .tail _ (.tail _ hq)) q hq))
end
section
open PySem PySem.Spec PySem.Calls PySem.W PyProof.Rows
theorem c_image {w : World} {dp un : Nat} {gd : Option (List Code)} {cn : Str} {cs : Scope} {a : Addr} {ccd : Value} {cl : List (Str × Addr)} {outer : List Env} {A₀ : Around} {base h₀ : Heap} {L : Addr} {m mg mb : Str → Option Value} {mean : ExcName → Option Value} {news : List (Addr × Obj)} {s : Shared} {Q E : Value → Shared → Prop}
    (B : Below A₀ base outer h₀) (F : Fr h₀ L s.heap m) (X : (KK w.params).In h₀) (N : News h₀ L s.heap news) (T : Top topProg LL mean mg mb h₀) (hk : cs.kind = .function) (hdp : dp + 130 < recursionLimit) (hun : un + 1200 < cLine)
    (ret : ∀ im h' tk' nx, Fr h₀ L h' m → News h₀ L h' nx → (∀ p ∈ news, p ∈ nx) → ImgIn w nx im → Q (.ref im) { s with heap := h', toks := tk' }) :
    wpAny (model PySem.Challenge.rw_sf0048_01.row.prog w) (ktrTop dp un gd cn cs L a ccd cl outer) (call (.ref 895) []) Q E s := by
  revert X; (w_top off; k_fill); intro X
  obtain ⟨kind, names, gen, coro, more⟩ := cs
  cases hk
  refine wpAny_call ?_
  k_dflt k_enter
  have hm0 : HC 804 := .mk
  have hm1 : HC 774 := .mk
  k_steps
  repeat (
    (with_reducible refine hold_un ?_)
    (first | ((with_reducible show wpAny _ _ (call (Value.ref 774) [_, _, _, _]) _ _ _); k_dflt (refine' c_mk4' ?B ?F ?X ?N ?T rfl ?hd ?hu ?m1 ?_; (case B => k_asm); (case F => k_asm); (case X => k_asm); (case N => k_asm); (case T => k_asm); (case hd => ktr_room); (case hu => first | ktr_units | (simp only [units_under_make]; ktr_units)); (case m1 => k_mem)); intro y' dy' P' G' u1 u2 u3 u4 u5 u6 c5 c6 h' tk' l1 l2 l3 l4 F' N'; k_lt l1; k_lt l3; k_lt l4; (try dsimp only at N')) | ((with_reducible show wpAny _ _ (call (Value.ref 774) [_, _, _, _, _, _]) _ _ _); k_dflt (refine' c_mk6' ?B ?F ?X ?N ?T rfl ?hd ?hu ?m1 ?m2 ?_; (case B => k_asm); (case F => k_asm); (case X => k_asm); (case N => k_asm); (case T => k_asm); (case hd => ktr_room); (case hu => first | ktr_units | (simp only [units_under_make]; ktr_units)); (case m1 => k_mem); (case m2 => k_mem)); intro y' dy' P' G' u1 u2 u3 u4 u5 u6 c5 c6 h' tk' l1 l2 l3 l4 F' N'; k_lt l1; k_lt l3; k_lt l4; (try dsimp only at N')) | (k_dflt (refine' c_declM' ?B ?F ?X ?N ?T rfl ?hd ?hu ?m1 ?m2 ?U ?lo ?hD ?m3 ?m4 ?m5 ?m6 ?m8 ?m9 ?m10 ?hlt ?_; (case B => k_asm); (case F => k_asm); (case X => k_asm); (case N => k_asm); (case T => k_asm); (case hd => ktr_room); (case hu => ktr_units); (case m1 => k_mem); (case m2 => k_mem); (case U => k_updF); (case lo => assumption); (case hD => assumption); (case m3 => k_mem); (case m4 => k_mem); (case m5 => k_mem); (case m6 => k_mem); (case m8 => k_mem); (case m9 => k_mem); (case m10 => k_mem); (case hlt => refine ⟨?_, ?_, ?_, ?_, ?_, ?_, ?_, ?_, ?_⟩ <;> (first | walk_report | k_slotget | omega))); intro oD' h' tk' F' N' hd'; (try dsimp only at N')) | (k_dflt (refine' c_declS' ?B ?F ?X ?N ?T rfl ?hd ?hu ?m1 ?m2 ?U ?lo ?hD ?m3 ?m4 ?m5 ?m6 ?m7 ?m8 ?m9 ?m10 ?hlt ?_; (case B => k_asm); (case F => k_asm); (case X => k_asm); (case N => k_asm); (case T => k_asm); (case hd => ktr_room); (case hu => ktr_units); (case m1 => k_mem); (case m2 => k_mem); (case U => k_updF); (case lo => assumption); (case hD => assumption); (case m3 => k_mem); (case m4 => k_mem); (case m5 => k_mem); (case m6 => k_mem); (case m7 => k_mem); (case m8 => k_mem); (case m9 => k_mem); (case m10 => k_mem); (case hlt => refine ⟨?_, ?_, ?_, ?_, ?_, ?_, ?_, ?_, ?_, ?_⟩ <;> (first | walk_report | k_slotget | omega))); intro oD' h' tk' F' N' hd'; (try dsimp only at N')))
    k_steps)
  (rename News h₀ L _ _ => n9)
  refine ret _ _ _ _ (by k_asm) n9 (by repeat (first | exact sub_self | refine sub_cons ?_)) ?_
  refine' ImgIn.of ?h1 ?h2 ?m1 ?m2 ?m3 ?m4 ?m5 ?m6 ?m7 ?m8 ?m9 ?m10 ?m11
  case m1 => k_mem
  case m2 => k_mem
  case m3 => k_mem
  case m4 => k_mem
  case m5 => k_mem
  case m6 => k_mem
  case h2 => assumption
  case h1 => assumption
  case m7 => k_mem
  case m8 => k_mem
  case m9 => k_mem
  case m10 => k_mem
  case m11 => k_mem
end
end
section
open PySem PySem.Spec PySem.Calls PySem.W PyProof.Rows
theorem allne_of {b : Addr} {l : List (Addr × Obj)} (h : AllLt b l) : ∀ p ∈ l, p.1 ≠ b + 1 := fun p hp e => by
  have z := tb_ltOf h p hp
  rw [e] at z
  exact Nat.lt_irrefl _ (Nat.lt_of_succ_lt z)
local macro_rules | `(tactic| k_all) => `(tactic| exact allne_of (by x_close))
theorem c_fvS {w : World} {dp un : Nat} {gd : Option (List Code)} {cn : Str} {cs : Scope} {a : Addr} {ccd : Value} {cl : List (Str × Addr)} {outer : List Env} {A₀ : Around} {base h₀ : Heap} {L : Addr} {m mg mb : Str → Option Value} {mean : ExcName → Option Value} {rest : List (Addr × Obj)} {s : Shared} {Q E : Value → Shared → Prop} {c : Addr} {t u : Tok} {x : Str} {j : Nat}
    (B : Below A₀ base outer h₀) (F : Fr h₀ L s.heap m) (X : (KK w.params).In h₀) (N : News h₀ L s.heap ((c, tupO [.str (Str.ofString "name") t, .str x u, .ref 124] j) :: rest)) (T : Top topProg LL mean mg mb h₀) (hk : cs.kind = .function) (hdp : dp + 10 < recursionLimit) (hun : un + 200 < cLine)
    (ret : ∀ l n h' tk', Fr h₀ L h' m → News h₀ L h' ((l, listOf #[] n) :: rest) → (∀ p ∈ rest, p.1 < l) → Q (.ref l) { s with heap := h', toks := tk' }) :
    wpAny (model PySem.Challenge.rw_sf0048_01.row.prog w) (ktrTop dp un gd cn cs L a ccd cl outer) (call (.ref 176) [.ref c]) Q E s := by
  revert X; (w_top off; k_fill); intro X
  have hn0 : HKey "compareOp NotEq ref ref" := .mk
  obtain ⟨kind, names, gen, coro, more⟩ := cs
  cases hk
  refine wpAny_call ?_
  k_dflt k_enter
  k_steps
  repeat (any_goals (
    (with_reducible refine hold_un ?_)
    (first
      | ((with_reducible show wpAny _ _ (compareOp _ _ _) _ _ _); (refine cmp_ofNotEq ?_); k_dflt (refine' PySem.SeqAt.RcNeAt.lists_lengths ?hl ?hb ?hs ?hu _ _ _ _ ?_; (case hl => exact News.isList (by k_asm) (by k_mem)); (case hb => exact News.isList (by k_asm) (by k_mem)); (case hs => rfl); (case hu => ktr_units)))
      | ((with_reducible show wpAny _ _ (compareOp _ _ _) _ _ _); (rename HKey "compareOp NotEq ref ref" => hz9); clear hz9))
    k_steps))
  (rename News h₀ L _ _ => n9)
  refine' ret _ _ _ _ ?f ?n ?l
  case f => k_asm
  case n => exact news_two n9 (by repeat (first | exact List.Mem.head _ | apply List.Mem.tail _)) (by repeat (first | exact sub_self | refine sub_cons ?_))
  case l =>
    first
    | exact tb_ltOf (And.right (by assumption))
    | exact tb_ltOf (And.right (And.right (by assumption)))
    | exact tb_ltOf (And.right (And.right (And.right (by assumption))))
    | exact tb_ltOf (And.right (And.right (And.right (And.right (by assumption)))))
end
end
section
open PySem PySem.Spec PySem.Calls PySem.W PyProof.Rows
theorem c_table {w : World} {dp un : Nat} {gd : Option (List Code)} {cn : Str} {cs : Scope} {a : Addr} {ccd : Value} {cl : List (Str × Addr)} {outer : List Env} {A₀ : Around} {base h₀ : Heap} {L : Addr} {m mg mb : Str → Option Value} {mean : ExcName → Option Value} {rest : List (Addr × Obj)} {s : Shared} {y dy P G : Addr} {c : Nat} {t₁ t₂ t₃ t₄ t₅ t₆ ts : Tok} {Q E : Value → Shared → Prop}
    (B : Below A₀ base outer h₀) (F : Fr h₀ L s.heap m) (X : (KK w.params).In h₀) (N : News h₀ L s.heap ((y, instObj 774 dy) :: (dy, declO w t₁ t₂ t₃ t₄ t₅ t₆ (.str (Str.ofString "S") ts) P (.ref 122) false G) :: (P, W.listOf #[] c) :: rest)) (T : Top topProg LL mean mg mb h₀) (hk : cs.kind = .function) (hdp : dp + 110 < recursionLimit) (hun : un + 1000 < cLine)
    (ret : ∀ d o h' tk', (∀ q ∈ rest, (@Ne Nat q.1 d)) → Fr h₀ L h' m → News h₀ L h' ((d, o) :: rest) → o.IsDictOf (PySem.strKind PySem.Challenge.rw_sf0048_01.row.prog w) [] → (d == sysModules) = false → Q (.ref d) { s with heap := h', toks := tk' }) :
    wpAny (model PySem.Challenge.rw_sf0048_01.row.prog w) (ktrTop dp un gd cn cs L a ccd cl outer) (call (.ref 761) [.ref y, .ref 124]) Q E s := by
  revert X; (w_top off; k_fill); intro X
  have hn0 : HKey "eval ListComp" := .mk
  have hn1 : HKey "call type:zip" := .mk
  have hn2 : HKey "call type:dict" := .mk
  obtain ⟨kind, names, gen, coro, more⟩ := cs
  cases hk
  refine wpAny_call ?_
  k_dflt k_enter
  k_steps
  with_reducible refine hold_un ?_
  k_dflt (refine comp_zip (by k_asm) (by with_unfolding_all rfl) (by decide) (by rfl) (by decide) ?_)
  k_steps
  with_reducible refine hold_un ?_
  k_dflt (refine zip_src rfl (by k_asm) (by k_asm) (by k_mem) (tupK (Frag.In.keeps (by k_asm) (Fr.keep (by k_asm))) (by k_is)) ?_)
  intro D' h' tk' F' N' l1
  k_steps
  with_reducible refine hold_un ?_
  k_dflt (refine call_dictNil rfl (by ktr_room) (by ktr_units) (by k_asm) (by k_asm) (by k_asm) (by k_mem) ?_)
  intro d' o' h' tk' n1 F' N' hd' lo'
  k_steps
  (rename News h₀ L _ _ => n9)
  refine ret _ _ _ _ ?_ (by k_asm) (fun q hq => n9 q ?_) (by assumption) (by assumption)
  · exact fun q hq => n1 q (by repeat (first | exact hq | refine List.mem_cons_of_mem _ ?_))
  · rcases List.mem_cons.mp hq with rfl | hq
    · k_mem
    · repeat (first | exact hq | refine List.mem_cons_of_mem _ ?_)
end
section
open PySem PySem.Spec PySem.Calls PySem.SeqAt PySem.W PyProof.Rows
noncomputable def isText : Value → Bool
  | .str _ _ => true
  | _ => false
noncomputable def isS : Value → Bool
  | .str a _ => a == Str.ofString "S"
  | _ => false
theorem notin_tup {prog : Program} {w : World} {A : Around} {E : Value → Shared → Prop} {s : Shared} {l : Addr} {items : List Value} {u : Tok} {Q : Value → Shared → Prop} (hl : s.heap.IsTuple l items.toArray) (ht : items.all isText = true) (hn : items.any isS = false) (hu : A.units + 5 < cLine) (h : Q (.bool true) s) :
    wpAny (model prog w) A (compareOp .NotIn (.str (Str.ofString "S") u) (.ref l)) Q E s := by
  refine notIn_tupleAt isS hl (fun y hy => ?_) ?_
  · have := List.all_eq_true.mp ht y (by simpa using hy)
    cases y with
    | str a t => exact EqAt.str_str a t _ u
    | _ => exact absurd this (by simp [isText])
  · have e : items.toArray.any isS = false := by simpa using hn
    rw [e]; exact h
theorem op_notin {w : World} {A : Around} {h₀ : Heap} {L : Addr} {m : Str → Option Value} {s : Shared} {u : Tok} {Q E : Value → Shared → Prop}
    (F : Fr h₀ L s.heap m) (hu : A.units + 5 < cLine) : (KK w.params).In h₀ → Q (.bool true) s →
    wpAny (model PySem.Challenge.rw_sf0048_01.row.prog w) A (compareOp .NotIn (.str (Str.ofString "S") u) (.ref 686)) Q E s := by
  (w_top off; k_fill)
  intro X h
  exact notin_tup (tupK (X.keeps F.keep) (by k_is)) (by decide +kernel) (by decide +kernel) hu h
end
section
open PySem PySem.Spec PySem.Calls PySem.W PyProof.Rows
local macro_rules | `(tactic| k_all) => `(tactic| exact allne_of (by x_close))
local macro_rules | `(tactic| k_ne) => `(tactic| first | exact apart_ne (by assumption) (by k_mem) | fail)
local macro_rules | `(tactic| walk_at "execs cons") => `(tactic| ((show wpAny _ _ _ _ _ _); k_fold))
section
open PySem PySem.Spec PySem.Calls PySem.W PyProof.Rows
theorem news_3 {h₀ h : Heap} {L : Addr} {q q' : Addr × Obj} {l l' : List (Addr × Obj)} (N : News h₀ L h l') (hq : q ∈ l') (hq' : q' ∈ l') (hs : ∀ p ∈ l, p ∈ l') : News h₀ L h (q :: q' :: l) := fun p hp => by
  rcases List.mem_cons.mp hp with rfl | hp
  · exact N _ hq
  · rcases List.mem_cons.mp hp with rfl | hp
    · exact N _ hq'
    · exact N _ (hs _ hp)
theorem c_table' {w : World} {dp un : Nat} {gd : Option (List Code)} {cn : Str} {cs : Scope} {a : Addr} {ccd : Value} {cl : List (Str × Addr)} {outer : List Env} {A₀ : Around} {base h₀ : Heap} {L : Addr} {m mg mb : Str → Option Value} {mean : ExcName → Option Value} {rest : List (Addr × Obj)} {s : Shared} {y dy P G : Addr} {c : Nat} {t₁ t₂ t₃ t₄ t₅ t₆ ts : Tok} {Q E : Value → Shared → Prop}
    (B : Below A₀ base outer h₀) (F : Fr h₀ L s.heap m) (X : (KK w.params).In h₀) (N : News h₀ L s.heap rest) (T : Top topProg LL mean mg mb h₀) (hk : cs.kind = .function) (hdp : dp + 110 < recursionLimit) (hun : un + 1000 < cLine) (m1 : (y, instObj 774 dy) ∈ rest) (m2 : (dy, declO w t₁ t₂ t₃ t₄ t₅ t₆ (.str (Str.ofString "S") ts) P (.ref 122) false G) ∈ rest) (m3 : (P, W.listOf #[] c) ∈ rest)
    (ret : ∀ d o h' tk', (∀ q ∈ rest, (@Ne Nat q.1 d)) → Fr h₀ L h' m → News h₀ L h' ((d, o) :: rest) → o.IsDictOf (PySem.strKind PySem.Challenge.rw_sf0048_01.row.prog w) [] → (d == sysModules) = false → Q (.ref d) { s with heap := h', toks := tk' }) :
    wpAny (model PySem.Challenge.rw_sf0048_01.row.prog w) (ktrTop dp un gd cn cs L a ccd cl outer) (call (.ref 761) [.ref y, .ref 124]) Q E s := by
  have all := List.forall_mem_cons.mpr ⟨m1, List.forall_mem_cons.mpr ⟨m2, List.forall_mem_cons.mpr ⟨m3, fun _ h => h⟩⟩⟩
  exact c_table B F X (fun q hq => N q (all q hq)) T hk hdp hun ret
theorem compEnd_keep4 {h₀ : Heap} {L I C D q : Addr} {m : Str → Option Value} {s₁ : Shared} {oI oC oD oq : Obj} {a b c : Addr × Obj} {S : List (Addr × Obj) → Prop} {rest : Value → List (Addr × Obj) → Prop} {y : Value} {h' : Heap} {tk : Nat} {nx : List (Addr × Obj)}
    (F : Fr h₀ L h' m) (N : News h₀ L h' ((q, oq) :: a :: b :: c :: (I, oI) :: (C, oC) :: (D, oD) :: nx)) (hq : (@Ne Nat q I) ∧ (@Ne Nat q C) ∧ (@Ne Nat q D)) (off : LCg.Off3 I C D nx) (hS : S ((q, oq) :: nx)) (r : rest y ((q, oq) :: nx)) :
    LCg.CompEnd h₀ L m s₁ I oI C oC D oD S rest y { s₁ with heap := h', toks := tk } :=
  LCg.CompEnd.intro F N ((q, oq) :: nx) (fun p hp => by
    rcases List.mem_cons.mp hp with rfl | hp
    · exact .tail _ (.tail _ (.tail _ (.tail _ (.head _))))
    · rcases List.mem_cons.mp hp with rfl | hp
      · exact .tail _ (.tail _ (.tail _ (.tail _ (.tail _ (.head _)))))
      · rcases List.mem_cons.mp hp with rfl | hp
        · exact .tail _ (.tail _ (.tail _ (.tail _ (.tail _ (.tail _ (.head _))))))
        · rcases List.mem_cons.mp hp with rfl | hp
          · exact .head _
          · exact .tail _ (.tail _ (.tail _ (.tail _ (.tail _ (.tail _ (.tail _ hp))))))) ⟨hq, off⟩ hS r
local macro_rules | `(tactic| k_mem) => `(tactic| assumption)
theorem c_fields' {w : World} {dp un : Nat} {gd : Option (List Code)} {cn : Str} {cs : Scope} {a : Addr} {ccd : Value} {cl : List (Str × Addr)} {outer : List Env} {A₀ : Around} {base h₀ : Heap} {L : Addr} {m mg mb : Str → Option Value} {mean : ExcName → Option Value} {led : List (Addr × Obj)} {s : Shared} {Q E : Value → Shared → Prop}
    {c im di th k dk D y dy P G p x y1 : Addr} {oD : Obj} {t u r₁ r₂ r₃ td t₁ t₂ t₃ t₄ t₅ t₆ ts tx : Tok} {j c5 c6 c7 : Nat}
    (B : Below A₀ base outer h₀) (F : Fr h₀ L s.heap m) (X : (KK w.params).In h₀) (N : News h₀ L s.heap led) (T : Top topProg LL mean mg mb h₀) (hk : cs.kind = .function) (hdp : dp + 120 < recursionLimit) (hun : un + 1100 < cLine)
    (m1 : (c, tupO [.str (Str.ofString "name") t, .str (Str.ofString "S") u, .ref 124] j) ∈ led) (m3 : (im, instObj 662 di) ∈ led) (m4 : (di, heapO w r₁ r₂ r₃ th k im) ∈ led) (m5 : (k, instObj 870 dk) ∈ led) (m6 : (dk, kindsO w td D) ∈ led) (m7 : (D, oD) ∈ led) (m8 : (y, instObj 774 dy) ∈ led) (m9 : (dy, declO w t₁ t₂ t₃ t₄ t₅ t₆ (.str (Str.ofString "S") ts) P (.ref 122) false G) ∈ led) (m10 : (P, listOf #[] c5) ∈ led) (m11 : (G, listOf #[.ref p] c6) ∈ led) (m12 : (p, ({ cls := .type "tuple", data := .seq #[.str (Str.ofString "x") tx, .ref 122] c7 } : Obj)) ∈ led)
    (lo : (D == sysModules) = false) (hD : oD.IsDictOf (PySem.strKind PySem.Challenge.rw_sf0048_01.row.prog w) [(Str.ofString "Any", .ref x), (Str.ofString "S", .ref y), (Str.ofString "Symbol", .ref y1)])
    (ret : ∀ l q n k' tq h' tk', Fr h₀ L h' m → News h₀ L h' ((l, listOf #[.ref q] n) :: (q, tupO [.str (Str.ofString "x") tq, .ref 122] k') :: led) → Q (.ref l) { s with heap := h', toks := tk' }) :
    wpAny (model PySem.Challenge.rw_sf0048_01.row.prog w) (ktrTop dp un gd cn cs L a ccd cl outer) (call (.ref 700) [.ref im, .ref c]) Q E s := by
  have N1 : News h₀ L s.heap ((D, oD) :: led) := List.forall_mem_cons.mpr ⟨N _ m7, N⟩
  clear N
  revert X; (w_top off; k_fill); intro X
  have hn0 : HC 761 := .mk
  have hn1 : HKey "call type:list" := .mk
  obtain ⟨kind, names, gen, coro, more⟩ := cs
  cases hk
  refine wpAny_call ?_
  k_dflt k_enter
  k_steps
  repeat (any_goals (
    (with_reducible refine hold_un ?_)
    (first
      | ((with_reducible show wpAny _ _ (call (Value.ref 761) _) _ _ _); k_dflt (refine' c_table' ?B ?F ?X ?N ?T rfl ?d ?u ?m1 ?m2 ?m3 ?_; (case B => k_asm); (case d => ktr_room); (case u => ktr_units); (case F => k_asm); (case X => k_asm); (case N => k_asm); (case T => k_asm); (case m1 => k_mem); (case m2 => k_mem); (case m3 => k_mem)); intro d' o' h' tk' n1 F' N' hd' lo'; (have n2 := Apart.mk n1); clear n1)
      | ((with_reducible show wpAny _ _ (call (Value.type _) [Value.ref _]) _ _ _); (with_unfolding_all (refine' list_copyKT ?k1 ?k2 ?k3 ?_ ?z; (case k1 => k_asm); (case k2 => k_asm); (case k3 => exact tupK (Frag.In.keeps (by k_asm) (Fr.keep (by k_asm))) (by k_is)); (case z => size_fits); k_whole)); intro D' c' h' F' N' l1; (try k_lt l1)))
    k_steps))
  (rename News _ _ _ _ => n9)
  show LCg.CompEnd _ _ _ _ _ _ _ _ _ _ _ _ _ _
  refine' compEnd_keep4 ?f n9 ?q ?o ?s ?r
  case f => k_asm
  case q => exact ⟨by k_ne, by k_ne, by k_ne⟩
  case o => assumption
  case s => exact .inr ⟨_, by k_mem, rfl, _, rfl⟩
  case r => 
    k_steps
    repeat (any_goals (
      (with_reducible refine hold_un ?_)
      (first
        | ((with_reducible show wpAny _ _ (call (Value.ref 761) _) _ _ _); k_dflt (refine' c_table' ?B ?F ?X ?N ?T rfl ?d ?u ?m1 ?m2 ?m3 ?_; (case B => k_asm); (case d => ktr_room); (case u => ktr_units); (case F => k_asm); (case X => k_asm); (case N => k_asm); (case T => k_asm); (case m1 => k_mem); (case m2 => k_mem); (case m3 => k_mem)); intro d' o' h' tk' n1 F' N' hd' lo'; (have n2 := Apart.mk n1); clear n1)
        | ((with_reducible show wpAny _ _ (call (Value.type _) [Value.ref _]) _ _ _); (with_unfolding_all (refine' list_copyKT ?k1 ?k2 ?k3 ?_ ?z; (case k1 => k_asm); (case k2 => k_asm); (case k3 => exact tupK (Frag.In.keeps (by k_asm) (Fr.keep (by k_asm))) (by k_is)); (case z => size_fits); k_whole)); intro D' c' h' F' N' l1; (try k_lt l1)))
      k_steps))
    (rename News h₀ L _ _ => n8)
    refine' ret _ _ _ _ _ _ _ ?f2 ?n2
    case f2 => k_asm
    case n2 => exact news_3 n8 (by repeat (first | exact List.Mem.head _ | apply List.Mem.tail _)) (by repeat (first | exact List.Mem.head _ | apply List.Mem.tail _)) (by repeat (first | exact sub_self | refine sub_cons ?_))
end
section
open PySem PySem.Spec PySem.Calls PySem.W PyProof.Rows
theorem c_fvS' {w : World} {dp un : Nat} {gd : Option (List Code)} {cn : Str} {cs : Scope} {a : Addr} {ccd : Value} {cl : List (Str × Addr)} {outer : List Env} {A₀ : Around} {base h₀ : Heap} {L : Addr} {m mg mb : Str → Option Value} {mean : ExcName → Option Value} {led : List (Addr × Obj)} {s : Shared} {Q E : Value → Shared → Prop} {c : Addr} {t u : Tok} {x : Str} {j : Nat}
    (B : Below A₀ base outer h₀) (F : Fr h₀ L s.heap m) (X : (KK w.params).In h₀) (N : News h₀ L s.heap led) (T : Top topProg LL mean mg mb h₀) (hk : cs.kind = .function) (hdp : dp + 10 < recursionLimit) (hun : un + 200 < cLine)
    (m1 : (c, tupO [.str (Str.ofString "name") t, .str x u, .ref 124] j) ∈ led)
    (ret : ∀ l n h' tk', Fr h₀ L h' m → News h₀ L h' ((l, listOf #[] n) :: led) → (∀ p ∈ led, p.1 < l) → Q (.ref l) { s with heap := h', toks := tk' }) :
    wpAny (model PySem.Challenge.rw_sf0048_01.row.prog w) (ktrTop dp un gd cn cs L a ccd cl outer) (call (.ref 176) [.ref c]) Q E s := by
  have all := List.forall_mem_cons.mpr ⟨m1, fun _ h => h⟩
  exact c_fvS B F X (fun q hq => N q (all q hq)) T hk hdp hun ret
local macro_rules | `(tactic| k_mem) => `(tactic| assumption)
theorem c_made' {w : World} {dp un : Nat} {gd : Option (List Code)} {cn : Str} {cs : Scope} {a : Addr} {ccd : Value} {cl : List (Str × Addr)} {outer : List Env} {A₀ : Around} {base h₀ : Heap} {L : Addr} {m mg mb : Str → Option Value} {mean : ExcName → Option Value} {led : List (Addr × Obj)} {s : Shared} {Q E : Value → Shared → Prop}
    {al ty c im di th k dk D y dy P G p x y1 : Addr} {v : Value} {oD : Obj} {tt t u r₁ r₂ r₃ td t₁ t₂ t₃ t₄ t₅ t₆ ts tx : Tok} {na nt j c5 c6 c7 : Nat}
    (B : Below A₀ base outer h₀) (F : Fr h₀ L s.heap m) (X : (KK w.params).In h₀) (N : News h₀ L s.heap led) (T : Top topProg LL mean mg mb h₀) (hk : cs.kind = .function) (hdp : dp + 125 < recursionLimit) (hun : un + 1150 < cLine)
    (m1 : (al, listOf #[.ref ty, v] na) ∈ led) (m2 : (ty, tupO [.str (Str.ofString "type") tt, .ref c] nt) ∈ led) (m3 : (c, tupO [.str (Str.ofString "name") t, .str (Str.ofString "S") u, .ref 124] j) ∈ led) (m5 : (im, instObj 662 di) ∈ led) (m6 : (di, heapO w r₁ r₂ r₃ th k im) ∈ led) (m7 : (k, instObj 870 dk) ∈ led) (m8 : (dk, kindsO w td D) ∈ led) (m9 : (D, oD) ∈ led) (m10 : (y, instObj 774 dy) ∈ led) (m11 : (dy, declO w t₁ t₂ t₃ t₄ t₅ t₆ (.str (Str.ofString "S") ts) P (.ref 122) false G) ∈ led) (m12 : (P, listOf #[] c5) ∈ led) (m13 : (G, listOf #[.ref p] c6) ∈ led) (m14 : (p, ({ cls := .type "tuple", data := .seq #[.str (Str.ofString "x") tx, .ref 122] c7 } : Obj)) ∈ led)
    (lo : (D == sysModules) = false) (hD : oD.IsDictOf (PySem.strKind PySem.Challenge.rw_sf0048_01.row.prog w) [(Str.ofString "Any", .ref x), (Str.ofString "S", .ref y), (Str.ofString "Symbol", .ref y1)])
    (ret : ∀ r l q n k' tq kr h' tk', Fr h₀ L h' m → News h₀ L h' ((r, tupO [.ref c, .ref l] kr) :: (l, listOf #[.ref q] n) :: (q, tupO [.str (Str.ofString "x") tq, .ref 122] k') :: led) → Q (.ref r) { s with heap := h', toks := tk' }) :
    wpAny (model PySem.Challenge.rw_sf0048_01.row.prog w) (ktrTop dp un gd cn cs L a ccd cl outer) (call (.ref 733) [.ref im, .ref al]) Q E s := by
  have N1 : News h₀ L s.heap ((al, listOf #[.ref ty, v] na) :: (ty, tupO [.str (Str.ofString "type") tt, .ref c] nt) :: (c, tupO [.str (Str.ofString "name") t, .str (Str.ofString "S") u, .ref 124] j) :: (D, oD) :: led) := List.forall_mem_cons.mpr ⟨N _ m1, List.forall_mem_cons.mpr ⟨N _ m2, List.forall_mem_cons.mpr ⟨N _ m3, List.forall_mem_cons.mpr ⟨N _ m9, N⟩⟩⟩⟩
  clear N
  revert X; (w_top off; k_fill); intro X
  have hn0 : HC 176 := .mk
  have hn1 : HC 700 := .mk
  have hn2 : HKey "compareOp NotIn str ref" := .mk
  obtain ⟨kind, names, gen, coro, more⟩ := cs
  cases hk
  refine wpAny_call ?_
  k_dflt k_enter
  k_steps
  repeat (any_goals (
    (with_reducible refine hold_un ?_)
    (first
      | ((with_reducible show wpAny _ _ (call (Value.ref 176) _) _ _ _); k_dflt (refine' c_fvS' ?B ?F ?X ?N ?T rfl ?hd ?hu ?m1 ?_; (case B => k_asm); (case F => k_asm); (case X => k_asm); (case N => k_asm); (case T => k_asm); (case hd => ktr_room); (case hu => ktr_units); (case m1 => k_mem)); intro l' n' h' tk' F' N' l1; (try k_lt l1))
      | ((with_reducible show wpAny _ _ (call (Value.ref 700) _) _ _ _); k_dflt (refine' c_fields' ?B ?F ?X ?N ?T rfl ?hd ?hu ?m1 ?m3 ?m4 ?m5 ?m6 ?m7 ?m8 ?m9 ?m10 ?m11 ?m12 ?lo ?hD ?_; (case B => k_asm); (case F => k_asm); (case X => k_asm); (case N => k_asm); (case T => k_asm); (case hd => ktr_room); (case hu => ktr_units); (case m1 => k_mem); (case m3 => k_mem); (case m4 => k_mem); (case m5 => k_mem); (case m6 => k_mem); (case m7 => k_mem); (case hD => assumption); (case lo => assumption); (case m8 => k_mem); (case m9 => k_mem); (case m10 => k_mem); (case m11 => k_mem); (case m12 => k_mem)); intro l' q' n' k' tq' h' tk' F' N')
      | (k_dflt (refine op_notin (by k_asm) (by ktr_units) (by k_asm) ?_))
      | ((with_reducible show wpAny _ _ (compareOp _ _ _) _ _ _); (rename HKey "compareOp NotIn str ref" => hz9); clear hz9))
    k_steps))
  (rename News h₀ L _ _ => n8)
  refine' ret _ _ _ _ _ _ _ _ _ ?f2 ?n2
  case f2 => k_asm
  case n2 =>
    refine fun z hz => n8 z (List.forall_mem_cons.mpr ⟨?_, List.forall_mem_cons.mpr ⟨?_, List.forall_mem_cons.mpr ⟨?_, ?_⟩⟩⟩ z hz)
    · exact .head _
    · k_mem
    · k_mem
    · repeat (first | exact sub_self | refine sub_cons ?_)
end
end
section
open PySem PySem.Spec PySem.Calls PySem.SeqAt PySem.W PyProof.Rows
theorem tup_at {h₀ h : Heap} {L b : Addr} {led : List (Addr × Obj)} {vs : List Value} (h1 : IsTup h 124 vs.toArray) (N : News h₀ L h led) (hb : TupTail led b) : ∃ ws : List Value, h.IsTuple b ws.toArray := by
  rcases hb with rfl | ⟨ws, k, hm⟩
  · exact ⟨_, h1⟩
  · exact ⟨ws, tup_isTuple N hm⟩
theorem eq_any {w : World} {A : Around} {h₀ : Heap} {L q : Addr} {m : Str → Option Value} {led : List (Addr × Obj)} {s : Shared} {vs : List Value} {n : Nat} {Q E : Value → Shared → Prop} (F : Fr h₀ L s.heap m) (N : News h₀ L s.heap led) (hq : (q, tupO vs n) ∈ led) (hK : KHead led vs) (hu : A.units + 5 < cLine) : (KK w.params).In h₀ → Q (.bool false) s →
    wpAny (model PySem.Challenge.rw_sf0048_01.row.prog w) A (compareOp .Eq (.ref q) (.ref 122)) Q E s := by
  (w_top off; k_fill)
  intro X hQ
  have hl := tup_isTuple N hq
  have ha : IsTup s.heap 122 _ := tupK (X.keeps F.keep) (by k_is)
  have h1 : IsTup s.heap 121 _ := tupK (X.keeps F.keep) (by k_is)
  rcases hK with ⟨t, b, rfl, hb⟩ | ⟨t, x, u, b, rfl, hx, hb⟩
  · obtain ⟨ws, hw⟩ := tup_at (tupK (X.keeps F.keep) (by k_is)) N hb
    refine cmp_ofEq (RcAt.tuples (e := fun _ => false) hl ha (by omega) (fun j j1 j2 => ?_) _ _ _ _ ?_)
    · have j3 : j < 3 := j1
      rcases j with _ | _ | _ | j
      · exact EqAt.str_str _ _ _ _
      · exact EqAt.tuple_str _ _ hw (by rw [units_in1]; omega)
      · exact EqAt.none_tuple h1 (by rw [units_in1]; omega)
      · omega
    · exact hQ
  · obtain ⟨ws, hw⟩ := tup_at (tupK (X.keeps F.keep) (by k_is)) N hb
    obtain ⟨r, hr⟩ : ∃ r, EqAt A.in1 s (.ref b) (.ref 121) r := by
      by_cases e : b = 121
      · subst e; exact ⟨true, EqAt.same _⟩
      · exact ⟨_, EqAt.of_refs e (RcAt.tuples (e := fun _ => true) hw h1 (by rw [units_in1]; omega) fun j j1 j2 => absurd j2 (Nat.not_lt_zero _))⟩
    refine cmp_ofEq (RcAt.tuples (e := fun j => match j with | 0 => true | 1 => false | _ => r) hl ha (by omega) (fun j j1 j2 => ?_) _ _ _ _ ?_)
    · have j3 : j < 3 := j1
      rcases j with _ | _ | _ | j
      · have := EqAt.str_str (A := A.in1) (s := s) (Str.ofString "name") t (Str.ofString "name") t
        exact EqAt.str_str _ _ _ _
      · have := EqAt.str_str (A := A.in1) (s := s) x u (Str.ofString "Any") u
        rw [beq_eq_false_iff_ne.mpr hx] at this
        have h2 := EqAt.str_str (A := A.in1) (s := s) x u (Str.ofString "Any")
        rw [beq_eq_false_iff_ne.mpr hx] at h2
        exact h2 _
      · exact hr
      · omega
    · exact hQ
end
section
open PySem PySem.Spec PySem.Calls PySem.W PyProof.Rows
local macro_rules | `(tactic| ke_read) => `(tactic| exact readsK (by k_asm) (by k_asm) (by k_is) (by ke_reads))
theorem eq_any' {w : World} {A : Around} {h₀ : Heap} {L q b : Addr} {m : Str → Option Value} {led rest : List (Addr × Obj)} {s : Shared} {vs ws : List Value} {n k : Nat} {Q E : Value → Shared → Prop} (F : Fr h₀ L s.heap m) (N : News h₀ L s.heap led) (X : (KK w.params).In h₀) (hK : KHead ((b, tupO ws k) :: rest) vs) (hq : (q, tupO vs n) ∈ led) (hb : (b, tupO ws k) ∈ led) (hs : ∀ p ∈ rest, p ∈ led) (hu : A.units + 5 < cLine) (hQ : Q (.bool false) s) :
    wpAny (model PySem.Challenge.rw_sf0048_01.row.prog w) A (compareOp .Eq (.ref q) (.ref 122)) Q E s := by
  refine eq_any F N hq ?_ hu X hQ
  have sub : ∀ p ∈ (b, tupO ws k) :: rest, p ∈ led := List.forall_mem_cons.mpr ⟨hb, hs⟩
  have tt : ∀ {c : Addr}, TupTail ((b, tupO ws k) :: rest) c → TupTail led c := fun z => z.elim .inl fun ⟨a, i, h⟩ => .inr ⟨a, i, sub _ h⟩
  rcases hK with ⟨t, b, e, hb⟩ | ⟨t, x, u, b, e, hx, hb⟩
  · exact .inl ⟨t, b, e, tt hb⟩
  · exact .inr ⟨t, x, u, b, e, hx, tt hb⟩
theorem c_check {w : World} {dp un : Nat} {gd : Option (List Code)} {cn : Str} {cs : Scope} {a : Addr} {ccd : Value} {cl : List (Str × Addr)} {outer : List Env} {A₀ : Around} {base h₀ : Heap} {L : Addr} {m mg mb : Str → Option Value} {mean : ExcName → Option Value} {rest : List (Addr × Obj)} {s : Shared} {Q E : Value → Shared → Prop}
    {im di th k : Addr} {v : Value} {d : Dm} {r₁ r₂ r₃ tn : Tok}
    (B : Below A₀ base outer h₀) (F : Fr h₀ L s.heap m) (X : (KK w.params).In h₀) (N : News h₀ L s.heap ((im, instObj 662 di) :: (di, heapO w r₁ r₂ r₃ th k im) :: rest)) (T : Top topProg LL mean mg mb h₀) (hk : cs.kind = .function) (hdp : dp + 200 < recursionLimit) (hun : un + 2000 < cLine)
    (hD : DIn rest v d) (hlv : d.lv ≤ 60)
    (ret : ∀ h' tk', Fr h₀ L h' m → News h₀ L h' rest → Q .none { s with heap := h', toks := tk' }) :
    wpAny (model PySem.Challenge.rw_sf0048_01.row.prog w) (ktrTop dp un gd cn cs L a ccd cl outer) (call (.ref 707) [.ref im, v, .ref 122, .str (Str.ofString "new") tn]) Q E s := by
  revert X; (w_top off; k_fill); intro X
  have hn0 : HC 685 := .mk
  have hn1 : HKey "compareOp Eq ref ref" := .mk
  obtain ⟨kind, names, gen, coro, more⟩ := cs
  cases hk
  obtain ⟨va, rfl⟩ := hD.handed
  refine wpAny_call ?_
  k_dflt k_enter
  k_steps
  repeat (any_goals (
    (with_reducible refine hold_un ?_)
    (first
      | ((with_reducible show wpAny _ _ (call (Value.ref 685) _) _ _ _); k_dflt (refine' kindC_use ?B ?F ?X ?N ?T ?hk ?D ?sub ?C ?hd ?hu ?_; (case B => k_asm); (case F => k_asm); (case X => k_asm); (case N => k_asm); (case T => k_asm); (case hk => exact rfl); (case D => assumption); (case sub => repeat (first | exact sub_self | refine sub_cons ?_)); (case C => exact k_kind _); (case hd => ktr_room); (case hu => ktr_units)); intro q' vs' n' b' ws' k' h' tk' F' N' H')
      | ((with_reducible show wpAny _ _ (compareOp _ (Value.ref _) (Value.ref 122)) _ _ _); (rename KHead _ _ => hK9); (rename News _ _ _ _ => n9); k_dflt (refine' eq_any' ?F n9 ?X hK9 ?q ?b ?s ?u ?_; (case F => k_asm); (case X => k_asm); (case q => k_mem); (case b => k_mem); (case s => repeat (first | exact sub_self | refine sub_cons ?_)); (case u => ktr_units)))
      | ((with_reducible show wpAny _ _ (compareOp _ _ _) _ _ _); (rename HKey "compareOp Eq ref ref" => hz9); clear hz9))
    k_steps))
  (rename News h₀ L _ _ => n9)
  exact ret _ _ (by k_asm) (fun q hq => n9 q (by repeat (first | exact hq | apply List.Mem.tail)))
end
section
open PySem PySem.Spec PySem.Calls PySem.W PyProof.Rows
section
variable {prog : Program} {w : World} {A : Around} {E : Value → Shared → Prop} {s : Shared} {env : Env} {h₀ : Heap} {body : List Stmt} {Q : Flow → Shared → Prop}
theorem enum_one {elts : List PySem.Expr} {k : Nat} {pos : Pos} {l : Addr} {v : Value} {n : Nat} {m₀ : Str → Option Value} {news : List (Addr × Obj)}
    (hh : A.handled = none) (F : Fr h₀ env.locals s.heap m₀) (N : News h₀ env.locals s.heap news) (hm : (l, listOf #[v] n) ∈ news)
    (rest₀ : ∀ I : Addr, (∀ p ∈ news, p.1 < I) → ItemsRest prog w A E h₀ env (.Tuple elts k pos) body Q s [(I + 1, "enumerate"), (I, "list_iterator")] [(l, listOf #[v] n)] [.pair (fun t => .int ((0 : Nat) : Int) t) v] m₀ news) :
    wpAny (model prog w) A (call (.type "enumerate") [.ref l]) (fun xv s₁ => wpAny (model prog w) A (pyIter xv) (fun it s₂ => TurnsAt prog w A h₀ env (.Tuple elts k pos) body Q E it s₂) E s₁) E s :=
  ktu_enum (vs := [v]) hh F N hm rfl rfl rfl rest₀
end
theorem unrEnd_two {h₀ : Heap} {L I : Addr} {o o1 : Obj} {rest : (Str → Option Value) → List (Addr × Obj) → Prop} {s₁ : Shared} {h' : Heap} {tk : Nat} {m' : Str → Option Value} {all nx : List (Addr × Obj)} (F : Fr h₀ L h' m') (N : News h₀ L h' all)
    (h1 : (I + 1, o1) ∈ all) (hI : (I, o) ∈ all) (sub : ∀ p ∈ nx, p ∈ all) (off : Older I nx) (r : rest m' nx) : UnrEndW h₀ L s₁ [(I + 1, o1), (I, o)] rest { s₁ with heap := h', toks := tk } :=
  ⟨h', tk, m', nx, rfl, F, fun p hp => by
    rcases List.mem_cons.mp hp with rfl | hp
    · exact N _ h1
    · rcases List.mem_cons.mp hp with rfl | hp
      · exact N _ hI
      · exact N _ (sub p hp), fun p hp q hq => by
    have z := off.h p hp
    rcases List.mem_cons.mp hq with rfl | hq
    · exact Nat.ne_of_lt (Nat.lt_succ_of_lt z)
    · rw [List.mem_singleton.mp hq]
      exact Nat.ne_of_lt z, r⟩
/-- a struct of the kind S over one value -/
inductive StV (led : List (Addr × Obj)) (r v : Value) : Prop where
  | mk (a b c : Addr) (t tn ts : Tok) (n k j : Nat) (h0 : r = .ref a) (h1 : (a, tupO [.str (Str.ofString "struct") t, .ref c, .ref b] n) ∈ led) (h2 : (c, tupO [.str (Str.ofString "name") tn, .str (Str.ofString "S") ts, .ref 124] j) ∈ led) (h3 : (b, tupO [v] k) ∈ led) : StV led r v
theorem StV.din {led : List (Addr × Obj)} {r v : Value} {d : Dm} (h : StV led r v) (hd : DIn led v d) : DIn led r (.st d) := by
  obtain ⟨a, b, c, t, tn, ts, n, k, j, rfl, h1, h2, h4⟩ := h
  exact .st h1 h2 h4 hd
theorem c_check' {w : World} {dp un : Nat} {gd : Option (List Code)} {cn : Str} {cs : Scope} {a : Addr} {ccd : Value} {cl : List (Str × Addr)} {outer : List Env} {A₀ : Around} {base h₀ : Heap} {L : Addr} {m mg mb : Str → Option Value} {mean : ExcName → Option Value} {led : List (Addr × Obj)} {s : Shared} {Q E : Value → Shared → Prop}
    {im di th k : Addr} {v : Value} {d : Dm} {r₁ r₂ r₃ tn : Tok}
    (B : Below A₀ base outer h₀) (F : Fr h₀ L s.heap m) (X : (KK w.params).In h₀) (N : News h₀ L s.heap led) (T : Top topProg LL mean mg mb h₀) (hk : cs.kind = .function) (hdp : dp + 200 < recursionLimit) (hun : un + 2000 < cLine)
    (m5 : (im, instObj 662 di) ∈ led) (m6 : (di, heapO w r₁ r₂ r₃ th k im) ∈ led) (hD : DIn led v d) (hlv : d.lv ≤ 60)
    (ret : ∀ h' tk', Fr h₀ L h' m → News h₀ L h' led → Q .none { s with heap := h', toks := tk' }) :
    wpAny (model PySem.Challenge.rw_sf0048_01.row.prog w) (ktrTop dp un gd cn cs L a ccd cl outer) (call (.ref 707) [.ref im, v, .ref 122, .str (Str.ofString "new") tn]) Q E s := by
  have all := List.forall_mem_cons.mpr ⟨m5, List.forall_mem_cons.mpr ⟨m6, fun _ h => h⟩⟩
  exact c_check B F X (fun q hq => N q (all q hq)) T hk hdp hun hD hlv ret
local macro_rules | `(tactic| k_mem) => `(tactic| assumption)
theorem c_new {w : World} {dp un : Nat} {gd : Option (List Code)} {cn : Str} {cs : Scope} {a : Addr} {ccd : Value} {cl : List (Str × Addr)} {outer : List Env} {A₀ : Around} {base h₀ : Heap} {L : Addr} {m mg mb : Str → Option Value} {mean : ExcName → Option Value} {led : List (Addr × Obj)} {s : Shared} {Q E : Value → Shared → Prop}
    {al ty c im di th k dk D y dy P G p x y1 va : Addr} {d : Dm} {oD : Obj} {tt t u r₁ r₂ r₃ td t₁ t₂ t₃ t₄ t₅ t₆ ts tx : Tok} {na nt j c5 c6 c7 : Nat}
    (B : Below A₀ base outer h₀) (F : Fr h₀ L s.heap m) (X : (KK w.params).In h₀) (N : News h₀ L s.heap led) (T : Top topProg LL mean mg mb h₀) (hk : cs.kind = .function) (hdp : dp + 210 < recursionLimit) (hun : un + 2100 < cLine)
    (m1 : (al, listOf #[.ref ty, .ref va] na) ∈ led) (m2 : (ty, tupO [.str (Str.ofString "type") tt, .ref c] nt) ∈ led) (m3 : (c, tupO [.str (Str.ofString "name") t, .str (Str.ofString "S") u, .ref 124] j) ∈ led) (m5 : (im, instObj 662 di) ∈ led) (m6 : (di, heapO w r₁ r₂ r₃ th k im) ∈ led) (m7 : (k, instObj 870 dk) ∈ led) (m8 : (dk, kindsO w td D) ∈ led) (m9 : (D, oD) ∈ led) (m10 : (y, instObj 774 dy) ∈ led) (m11 : (dy, declO w t₁ t₂ t₃ t₄ t₅ t₆ (.str (Str.ofString "S") ts) P (.ref 122) false G) ∈ led) (m12 : (P, listOf #[] c5) ∈ led) (m13 : (G, listOf #[.ref p] c6) ∈ led) (m14 : (p, ({ cls := .type "tuple", data := .seq #[.str (Str.ofString "x") tx, .ref 122] c7 } : Obj)) ∈ led)
    (lo : (D == sysModules) = false) (hD : oD.IsDictOf (PySem.strKind PySem.Challenge.rw_sf0048_01.row.prog w) [(Str.ofString "Any", .ref x), (Str.ofString "S", .ref y), (Str.ofString "Symbol", .ref y1)])
    (hV : DIn led (.ref va) d) (hlv : d.lv ≤ 60) (hinn : d.inn) (hcnt : d.cnt ≤ 3999)
    (ret : ∀ r h' tk' nx, Fr h₀ L h' m → News h₀ L h' nx → (∀ q ∈ led, q ∈ nx) → StV nx r (.ref va) → Q r { s with heap := h', toks := tk' }) :
    wpAny (model PySem.Challenge.rw_sf0048_01.row.prog w) (ktrTop dp un gd cn cs L a ccd cl outer) (call (.ref 726) [.ref im, .ref al]) Q E s := by
  have N1 : News h₀ L s.heap ((al, listOf #[.ref ty, .ref va] na) :: (ty, tupO [.str (Str.ofString "type") tt, .ref c] nt) :: (c, tupO [.str (Str.ofString "name") t, .str (Str.ofString "S") u, .ref 124] j) :: (D, oD) :: led) := List.forall_mem_cons.mpr ⟨N _ m1, List.forall_mem_cons.mpr ⟨N _ m2, List.forall_mem_cons.mpr ⟨N _ m3, List.forall_mem_cons.mpr ⟨N _ m9, N⟩⟩⟩⟩
  clear N
  revert X; (w_top off; k_fill); intro X
  have hn0 : HC 733 := .mk
  have hn1 : HC 707 := .mk
  have hn2 : HKey "exec For Tuple Call cons nil" := .mk
  have hn3 : HKey "call type:enumerate" := .mk
  have hn4 : HKey "UnrEndW" := .mk
  have hm0 : HC 712 := .mk
  obtain ⟨kind, names, gen, coro, more⟩ := cs
  cases hk
  refine wpAny_call ?_
  k_dflt k_enter
  k_steps
  repeat (any_goals (
    (with_reducible refine hold_un ?_)
    (first
      | ((with_reducible show wpAny _ _ (call (Value.ref 733) _) _ _ _); k_dflt (refine' c_made' ?B ?F ?X ?N ?T rfl ?hd ?hu ?m1 ?m2 ?m3 ?m5 ?m6 ?m7 ?m8 ?m9 ?m10 ?m11 ?m12 ?m13 ?m14 ?lo ?hD ?_; (case B => k_asm); (case F => k_asm); (case X => k_asm); (case N => k_asm); (case T => k_asm); (case hd => ktr_room); (case hu => ktr_units); (case m1 => k_mem); (case m2 => k_mem); (case m3 => k_mem); (case m5 => k_mem); (case m6 => k_mem); (case m7 => k_mem); (case m8 => k_mem); (case m9 => k_mem); (case hD => assumption); (case lo => assumption); (case m10 => k_mem); (case m11 => k_mem); (case m12 => k_mem); (case m13 => k_mem); (case m14 => k_mem)); intro r' l' q' n' k' tq' kr' h' tk' F' N')
      | ((with_reducible show wpAny _ _ (call (Value.ref 707) _) _ _ _); k_dflt (refine' c_check' ?B ?F ?X ?N ?T rfl ?hd ?hu ?m5 ?m6 ?hD ?lv ?_; (case B => k_asm); (case F => k_asm); (case X => k_asm); (case N => k_asm); (case T => k_asm); (case hd => ktr_room); (case hu => ktr_units); (case m5 => k_mem); (case m6 => k_mem); (case hD => exact DIn.mono (by assumption) (by repeat (first | exact sub_self | refine sub_cons ?_))); (case lv => assumption)); intro h' tk' F' N')
      | ((with_reducible show wpAny _ _ (exec _ _) _ _ _); (rename Fr _ _ _ _ => lF'); k_dflt (refine' For_turns lF' ?_; k_whole))
      | ((rename Fr _ _ _ _ => lF'); (rename News _ _ _ _ => lN'); k_dflt (refine enum_one (by rfl) lF' lN' (by k_mem) ?_); intro I' l1; (have l9 := Older.mk l1); (try k_lt l1))
      | ((rename News _ _ _ _ => n9); (rename Older _ _ => o9); k_dflt (refine unrEnd_two (by k_asm) n9 (by k_mem) (by k_mem) (by repeat (first | exact sub_self | refine sub_cons ?_)) o9 ⟨subL_one (by k_mem), ?_⟩)))
    k_steps))
  (rename News _ _ _ _ => n9)
  have hgood : (Dm.st d).good 1 := ((Dm.st d).good_iff 1).mpr ⟨⟨hinn, hlv⟩, by simp only [Dm.lv]; omega⟩
  refine hold (c_checked (by k_asm) (by k_asm) (by k_asm) n9 (by k_asm) rfl (by ktr_room) (by ktr_units) (d := .st d) ?_ (by simp only [Dm.cnt]; omega) ?_ ?_)
  · exact .st (.head _) (by k_mem) (.tail _ (.head _)) (DIn.mono hV (by repeat (first | exact sub_self | refine sub_cons ?_)))
  · intro h' tk' F' N' hg
    k_steps
    repeat (any_goals (
      (with_reducible refine hold_un ?_)
      (first
        | ((with_reducible show wpAny _ _ (call (Value.ref 733) _) _ _ _); k_dflt (refine' c_made' ?B ?F ?X ?N ?T rfl ?hd ?hu ?m1 ?m2 ?m3 ?m5 ?m6 ?m7 ?m8 ?m9 ?m10 ?m11 ?m12 ?m13 ?m14 ?lo ?hD ?_; (case B => k_asm); (case F => k_asm); (case X => k_asm); (case N => k_asm); (case T => k_asm); (case hd => ktr_room); (case hu => ktr_units); (case m1 => k_mem); (case m2 => k_mem); (case m3 => k_mem); (case m5 => k_mem); (case m6 => k_mem); (case m7 => k_mem); (case m8 => k_mem); (case m9 => k_mem); (case hD => assumption); (case lo => assumption); (case m10 => k_mem); (case m11 => k_mem); (case m12 => k_mem); (case m13 => k_mem); (case m14 => k_mem)); intro r' l' q' n' k' tq' kr' h' tk' F' N')
        | ((with_reducible show wpAny _ _ (call (Value.ref 707) _) _ _ _); k_dflt (refine' c_check' ?B ?F ?X ?N ?T rfl ?hd ?hu ?m5 ?m6 ?hD ?lv ?_; (case B => k_asm); (case F => k_asm); (case X => k_asm); (case N => k_asm); (case T => k_asm); (case hd => ktr_room); (case hu => ktr_units); (case m5 => k_mem); (case m6 => k_mem); (case hD => exact DIn.mono (by assumption) (by repeat (first | exact sub_self | refine sub_cons ?_))); (case lv => assumption)); intro h' tk' F' N')
        | ((with_reducible show wpAny _ _ (exec _ _) _ _ _); (rename Fr _ _ _ _ => lF'); k_dflt (refine' For_turns lF' ?_; k_whole))
        | ((rename Fr _ _ _ _ => lF'); (rename News _ _ _ _ => lN'); k_dflt (refine enum_one (by rfl) lF' lN' (by k_mem) ?_); intro I' l1; (have l9 := Older.mk l1); (try k_lt l1))
        | ((rename News _ _ _ _ => n9); (rename Older _ _ => o9); k_dflt (refine unrEnd_two (by k_asm) n9 (by k_mem) (by k_mem) (by repeat (first | exact sub_self | refine sub_cons ?_)) o9 ⟨subL_one (by k_mem), ?_⟩)))
      k_steps))
    (rename News h₀ L _ _ => n8)
    exact ret _ _ _ _ (by k_asm) n8 (by repeat (first | exact sub_self | refine sub_cons ?_)) ⟨_, _, _, _, _, _, _, _, _, rfl, .head _, by k_mem, .tail _ (.head _)⟩
  · intro e t dx tm nx g₂ h' tk' F' al up sub dv hb
    exact absurd hgood hb
end
section
open PySem PySem.Spec PySem.Calls PySem.W PyProof.Rows
theorem upd_sub {D : Addr} {oD : Obj} {led : List (Addr × Obj)} {g : Obj → List (Addr × Obj)} (U : UpdF D oD led g) : ∃ rest, (∀ q ∈ rest, q.1 ≠ D) ∧ (∀ q ∈ (D, oD) :: rest, q ∈ led) ∧ (∀ o', ∀ q ∈ g o', q ∈ (D, o') :: rest) ∧ (∀ q ∈ rest, ∀ o', q ∈ g o') ∧ ∀ q ∈ led, q.1 ≠ D → q ∈ rest := by
  obtain ⟨pre, post, rfl, hg, a, b⟩ := U.split
  refine ⟨pre ++ post, fun q hq => (List.mem_append.mp hq).elim (a q) (b q), fun q hq => ?_, fun o' q hq => ?_, fun q hq o' => ?_, fun q hq hn => ?_⟩
  · rcases List.mem_cons.mp hq with rfl | hq
    · exact List.mem_append_right _ (.head _)
    · exact (List.mem_append.mp hq).elim (fun h => List.mem_append_left _ h) fun h => List.mem_append_right _ (.tail _ h)
  · rw [hg] at hq
    rcases List.mem_append.mp hq with h | h
    · exact .tail _ (List.mem_append_left _ h)
    · rcases List.mem_cons.mp h with rfl | h
      · exact .head _
      · exact .tail _ (List.mem_append_right _ h)
  · rw [hg]
    exact (List.mem_append.mp hq).elim (fun h => List.mem_append_left _ h) fun h => List.mem_append_right _ (.tail _ h)
  · rcases List.mem_append.mp hq with h | h
    · exact List.mem_append_left _ h
    · rcases List.mem_cons.mp h with rfl | h
      · exact absurd rfl hn
      · exact List.mem_append_right _ h
theorem c_digit' {w : World} {dp un : Nat} {gd : Option (List Code)} {cn : Str} {cs : Scope} {a : Addr} {ccd : Value} {cl : List (Str × Addr)} {outer : List Env} {A₀ : Around} {base h₀ : Heap} {L : Addr} {m mg mb : Str → Option Value} {mean : ExcName → Option Value} {led : List (Addr × Obj)} {g : Obj → List (Addr × Obj)} {s : Shared} {l : Addr} {x y k : Int} {tx ty tk : Tok} {n : Nat} {Q E : Value → Shared → Prop}
    (B : Below A₀ base outer h₀) (F : Fr h₀ L s.heap m) (X : (KK w.params).In h₀) (N : News h₀ L s.heap led) (T : Top topProg LL mean mg mb h₀) (hk : cs.kind = .function) (hdp : dp + 1 < recursionLimit) (hun : un + 100 < cLine)
    (U : UpdF l (listOf #[.int x tx, .int y ty] n) led g) (hx : 0 ≤ x) (hy : 0 ≤ y) (hy' : y < 2147483700) (hk0 : 2 ≤ k) (hk5 : k ≤ 5)
    (ret : ∀ r tr x' y' tx' ty' n' h' tk', 0 ≤ r → r < k → 0 ≤ x' → 0 ≤ y' → y' < 2147483700 → Fr h₀ L h' m → News h₀ L h' (g (listOf #[.int x' tx', .int y' ty'] n')) → Q (.int r tr) { s with heap := h', toks := tk' }) :
    wpAny (model PySem.Challenge.rw_sf0048_01.row.prog w) (ktrTop dp un gd cn cs L a ccd cl outer) (call (.ref 888) [.ref l, .int k tk]) Q E s := by
  obtain ⟨rest, r1, r2, r3, _⟩ := upd_sub U
  exact c_digit B F X (fun q hq => N q (r2 q hq)) r1 T hk hdp hun hx hy hy' hk0 hk5 fun r tr x' y' tx' ty' n' h' tk' q1 q2 q3 q4 q5 F' N' => ret r tr x' y' tx' ty' n' h' tk' q1 q2 q3 q4 q5 F' fun q hq => N' q (r3 _ q hq)
section
variable {M : Model} {A : Around} {E : Value → Shared → Prop} {s : Shared} {h₀ : Heap} {L a c P : Addr} {m mg mb : Str → Option Value} {cn : Str} {cs : Scope} {ccd : Value} {cl : List (Str × Addr)} {led : List (Addr × Obj)} {g : Obj → List (Addr × Obj)}
  {p : Program} {loose : List Str} {mean : ExcName → Option Value} {name qual : Str} {params : Arguments} {body : PySem.Expr} {scope : Scope} {ps : Array Value} {pos : Pos} {firstLine : Nat} {clos : List (Str × Addr)}
/-- a lambda is made, the table anywhere on the ledger -/
theorem lam_any' {Q : Value → Shared → Prop} (F : Fr h₀ L s.heap m) (N : News h₀ L s.heap led) (U : UpdF P (tabObj ps) led g) (T : Top p loose mean mg mb h₀) (C : CodeHd h₀ c P) (hcd : ccd = .ref c) (ht : TriplesOk ps.toList) (hc : Codes qual led ps.toList)
    (hcl : closureFor scope (envX cn cs L a ccd cl) = pure clos)
    (h : ∀ f c' oc vs t ctv ps' add h' tk, Fr h₀ L h' m → News h₀ L h' ((f, kla_obj name qual params body scope clos ((mg "__name__").getD .none) c' ctv) :: (add ++ g (tabObj ps'))) → f ≠ P → (∀ q ∈ add, q.1 ≠ P) → (∀ q ∈ led, q.1 ≠ P → q.1 < f) → TriplesOk ps'.toList → Codes qual (add ++ g (tabObj ps')) ps'.toList → (c', oc) ∈ add ++ g (tabObj ps') → oc.data = .fields vs → vs[1]? = some (.str qual t) → Q (.ref f) { s with heap := h', toks := tk }) :
    wpAny M A (makeFunction name qual params (.expr body) scope (envX cn cs L a ccd cl) [] [] [] pos firstLine) Q E s := by
  obtain ⟨rest, r1, r2, r3, r4, r5⟩ := upd_sub U
  have hc' : Codes qual rest ps.toList := fun pos cv e => by
    obtain ⟨c', oc, vs, t, h1, h2, h3, h4⟩ := hc pos cv e
    refine ⟨c', oc, vs, t, h1, ?_, h3, h4⟩
    refine r5 _ h2 fun z => ?_
    have z' : c' = P := z
    subst z'
    have g1 := (N _ h2).1
    have g2 := (N _ (r2 _ (.head _))).1
    rw [g1] at g2
    have e2 : oc = tabObj ps := Option.some.inj g2
    rw [e2] at h3
    have e3 : ps = vs := by cases h3; rfl
    subst e3
    cases hps : ps.toList with
    | nil =>
      have : ps = #[] := by simpa using hps
      rw [this] at h4; simp at h4
    | cons x r =>
      rw [hps] at ht
      cases r with
      | nil => simp [TriplesOk] at ht
      | cons x2 r =>
        have h5 : ps[1]? = some x2 := by rw [← Array.getElem?_toList, hps]; rfl
        rw [h5] at h4
        cases h4
        cases r with
        | nil => cases x <;> simp [TriplesOk] at ht
        | cons x3 r => cases x <;> simp [TriplesOk] at ht
  refine lam_any F (fun q hq => N q (r2 q hq)) r1 T C hcd ht hc' hcl fun f c' oc vs t ctv ps' add h' tk F' N' k1 k2 k3 k4 k5 k6 k7 k8 => ?_
  have up : ∀ q ∈ add ++ rest, q ∈ add ++ g (tabObj ps') := fun q hq => (List.mem_append.mp hq).elim (fun z => List.mem_append_left _ z) fun z => List.mem_append_right _ (r4 q z _)
  refine h f c' oc vs t ctv ps' add h' tk F' (fun q hq => N' q ?_) k1 k2 (fun q hq hn => k3 q (r5 q hq hn)) k4 (k5.mono up) (up _ k6) k7 k8
  rcases List.mem_cons.mp hq with rfl | hq
  · exact .tail _ (.head _)
  · rcases List.mem_append.mp hq with hq | hq
    · exact .tail _ (.tail _ (List.mem_append_left _ hq))
    · rcases List.mem_cons.mp (r3 _ q hq) with rfl | hq
      · exact .head _
      · exact .tail _ (.tail _ (List.mem_append_right _ hq))
end
end
section
open PySem PySem.Spec PySem.Calls PySem.W PyProof.Rows
/-- an object that the law turns, or a loop's own -/
noncomputable def Turns (o : Obj) : Prop := (∃ x, o.data = .cell x) ∨ (∃ fs, o.data = .fields fs ∧ ∀ x t, fs[1]? ≠ some (.str x t)) ∨ ∃ x y tx ty n, o = listOf #[.int x tx, .int y ty] n
noncomputable def OwnIter (own : List (Addr × Obj)) : Prop := ∀ p ∈ own, Turns p.2
section
variable {prog : Program} {w : World} {A : Around} {E : Value → Shared → Prop} {s : Shared} {env : Env} {h₀ : Heap} {x : Str} {body : List Stmt} {Q : Flow → Shared → Prop}
/-- a loop over a range; the turn knows what the loop's own object is -/
theorem range_own {r : Addr} {a₀ b₀ : Int} {t₀ u₀ v₀ : Tok} {n : Nat} {m₀ : Str → Option Value} {news : List (Addr × Obj)} (J : Nat → (Str → Option Value) → List (Addr × Obj) → Prop)
    (hh : A.handled = none) (hr : IsRange s.heap r a₀ b₀ 1 t₀ u₀ v₀) (hsmall : Builtin.Range.small a₀ b₀ 1 = true) (hsz : Builtin.Range.rangeSize a₀ b₀ 1 = (n : Int)) (F : Fr h₀ env.locals s.heap m₀) (N : News h₀ env.locals s.heap news) (hj : J 0 m₀ news)
    (turn : ∀ (i : Nat) t m₁ nx h tk own, i < n → OwnOff own (nx.map (·.1)) → OwnIter own → J i m₁ nx → Fr h₀ env.locals h (fun y => if y = x then some (.int (a₀ + (i : Int)) t) else m₁ y) → News h₀ env.locals h (nx ++ own) →
      wpAny (model prog w) A (execs body env) (InvPostG h₀ env.locals (J (i + 1)) own { s with heap := h, toks := tk } Q) E { s with heap := h, toks := tk })
    (done : ∀ m₁ nx h tk, J n m₁ nx → Fr h₀ env.locals h m₁ → News h₀ env.locals h nx → Q .next { s with heap := h, toks := tk }) :
    wpAny (model prog w) A (pyIter (.ref r)) (fun it s₂ => LoopAtV prog w A h₀ env x body Q E it s₂) E s := by
  refine wpAny_pyIter_range hr hsmall ?_
  have W : Walks prog w A s.heap.objs.size [s.heap.objs.size] [s.heap.objs.size] n (fun i v => i < n ∧ ∃ t, v = .int (a₀ + i * 1) t)
      (fun i h => IsRangeIter h s.heap.objs.size (a₀ + (i : Nat) * 1) ((n : Int) - (i : Nat)) 1) := (Walks.range hh _ a₀ 1 n).bound
  refine ⟨s.heap.objs.size, _, _, n, _, _, m₀, news, J, rfl, W, ?_, ?_, ?_, (by show IsRangeIter _ _ _ _ _; rw [hsz]; simpa using Heap.get?_push_size _ rfl), F.push _, (fun p hp => ⟨Heap.get?_push_of_some _ (N p hp).1, (N p hp).2⟩), hj, ?_, ?_⟩
  · intro hm
    exact absurd F.ns.lt ((List.mem_singleton.mp hm) ▸ Nat.lt_irrefl _)
  · intro b hb
    rw [List.mem_singleton.mp hb]
    exact next_is_new F
  · intro p hp hI
    exact absurd (Heap.lt_size (N p hp).1) ((List.mem_singleton.mp hI) ▸ Nat.lt_irrefl _)
  · rintro i v m₁ news₁ s₁ own ⟨h, tk, rfl⟩ hi ⟨_, t, rfl⟩ hJ hoff hown hget hmem hst F₁ N₁
    have e1 : a₀ + (i : Int) * 1 = a₀ + (i : Int) := by omega
    rw [e1] at F₁
    have sep : OwnOff own (news₁.map (·.1)) := by
      intro p hp b hb e
      obtain ⟨q, hq, rfl⟩ := List.mem_map.mp hb
      exact hoff q hq (e ▸ hown p hp)
    have cls : OwnIter own := fun p hp => by
      have e2 := hget p hp
      rw [List.mem_singleton.mp (hown p hp)] at e2
      have e3 : h.get? s.heap.objs.size = some _ := hst
      rw [show h.get? s.heap.objs.size = some _ from e2] at e3
      rw [Option.some.inj e3]
      exact .inr (.inl ⟨_, rfl, fun x t e => by simp [rawInt] at e⟩)
    have N₂ : News h₀ env.locals h (news₁ ++ own) := fun p hp => N₁ p ((List.mem_append.mp hp).elim (fun z => List.mem_append_right _ z) fun z => List.mem_append_left _ z)
    refine wpAny_mono (turn i t m₁ news₁ h tk own hi sep cls hJ F₁ N₂) (fun f s₂ p => ?_) fun _ _ e => e
    have fin : InvEndG h₀ env.locals (J (i + 1)) own { s with heap := h, toks := tk } s₂ → LoopStepU h₀ env.locals [s.heap.objs.size] own (J (i + 1)) { s with heap := h, toks := tk } .next s₂ := by
      rintro ⟨h', tk', m', news', nx, e, F', N', hn, ho, ha, hm⟩
      refine ⟨rfl, h', tk', m', nx, e, F', fun q hq => N' q ((List.mem_append.mp hq).elim (ho q) (hn q)), fun q hq hI => ?_, hm⟩
      exact ha _ (hmem _ (List.mem_singleton.mpr rfl) (next_is_new F) _ hst) q.1 (List.mem_map.mpr ⟨q, hq, rfl⟩) (List.mem_singleton.mp hI).symm
    cases f with
    | ret v => exact .ret p
    | brk => exact .brk p
    | next => exact .next (fin p)
    | cont => exact .cont (fin p)
  · rintro h' tk m' news' F' N' _ hJ
    exact done m' news' h' tk hJ F' N'
end
/-- the entries that the law turns come first; all that stays, apart from them and from the loop's own -/
theorem renorm {h₀ h : Heap} {L : Addr} {nx own mu : List (Addr × Obj)} (N : News h₀ L h nx) (hmu : ∀ q ∈ mu, q ∈ nx) (hown : ∀ q ∈ own, q ∈ nx) :
    ∃ r, News h₀ L h (mu ++ (r ++ own)) ∧ (∀ q ∈ r, q ∈ nx) ∧ (∀ p ∈ mu, ∀ q ∈ r, (@Ne Nat q.1 p.1)) ∧ OwnOff own (r.map (·.1)) ∧
      (∀ q ∈ nx, (∀ p ∈ mu, q.1 ≠ p.1) → (∀ p ∈ own, p.1 ≠ q.1) → q ∈ r) := by
  classical
  refine ⟨nx.filter (fun q => decide ((∀ p ∈ mu, q.1 ≠ p.1) ∧ ∀ p ∈ own, p.1 ≠ q.1)), fun q hq => ?_, fun q hq => (List.mem_filter.mp hq).1, fun p hp q hq => (of_decide_eq_true (List.mem_filter.mp hq).2).1 p hp, fun p hp b hb => ?_, fun q hq a b => List.mem_filter.mpr ⟨hq, decide_eq_true ⟨a, b⟩⟩⟩
  · rcases List.mem_append.mp hq with hq | hq
    · exact N _ (hmu _ hq)
    · rcases List.mem_append.mp hq with hq | hq
      · exact N _ (List.mem_filter.mp hq).1
      · exact N _ (hown _ hq)
  · obtain ⟨q, hq, rfl⟩ := List.mem_map.mp hb
    exact (of_decide_eq_true (List.mem_filter.mp hq).2).2 p hp
theorem differ {h₀ h : Heap} {L a b : Addr} {o o' : Obj} {nx : List (Addr × Obj)} (N : News h₀ L h nx) (h1 : (a, o) ∈ nx) (h2 : (b, o') ∈ nx) (hne : o ≠ o') : a ≠ b := fun e => by
  subst e
  have e1 := (N _ h1).1
  have e2 := (N _ h2).1
  rw [e1] at e2
  exact hne (Option.some.inj e2)
/-- what is shown of the entries that are tuples -/
theorem DIn.tups {news news' : List (Addr × Obj)} {v : Value} {d : Dm} (h : DIn news v d) (hs : ∀ a vs n, (a, tupO vs n) ∈ news → (a, tupO vs n) ∈ news') : DIn news' v d := by
  induction h with
  | sym h => exact .sym (hs _ _ _ h)
  | nothing h => exact .nothing (hs _ _ _ h)
  | tup0 h k => exact .tup0 (hs _ _ _ h) (hs _ _ _ k)
  | tup1 h k _ i => exact .tup1 (hs _ _ _ h) (hs _ _ _ k) i
  | tup2 h k _ _ i j => exact .tup2 (hs _ _ _ h) (hs _ _ _ k) i j
  | tup3 h k _ _ _ i j l => exact .tup3 (hs _ _ _ h) (hs _ _ _ k) i j l
  | st h k l _ i => exact .st (hs _ _ _ h) (hs _ _ _ k) (hs _ _ _ l) i
/-- an object that is none of those that the law turns -/
noncomputable def Stays (o : Obj) : Prop := (∀ x, o.data ≠ .cell x) ∧ (∀ fs, o.data = .fields fs → ∃ x t, fs[1]? = some (.str x t)) ∧ (∀ x y tx ty n, o ≠ listOf #[.int x tx, .int y ty] n)
theorem Stays.ne {o o' : Obj} (h : Stays o) (k : Turns o') : o ≠ o' := fun e => by
  subst e
  rcases k with ⟨x, k⟩ | ⟨x, k, k2⟩ | ⟨x, y, tx, ty, n, k⟩
  · exact h.1 _ k
  · obtain ⟨y, t, e⟩ := h.2.1 _ k
    exact k2 _ _ e
  · exact h.2.2 _ _ _ _ _ k
theorem cls_ne {a b : String} (h : a ≠ b) : Value.type a ≠ Value.type b := fun e => h (Value.type.inj e)
theorem stays_cls {o : Obj} {c : String} (hc : o.cls = .type c) (h1 : ∀ x, o.data ≠ .cell x) (h2 : ∀ fs, o.data = .fields fs → ∃ x t, fs[1]? = some (.str x t)) (hn : c ≠ "list") : Stays o := ⟨h1, h2, fun x y tx ty n e => cls_ne hn (hc.symm.trans (by rw [e]))⟩
theorem stays_tup (vs : List Value) (n : Nat) : Stays (tupO vs n) := stays_cls rfl (fun x e => (by cases e)) (fun x e => (by cases e)) (by decide)
theorem stays_inst (C d : Addr) : Stays (instObj C d) := ⟨fun x e => (by cases e), fun x e => (by cases e), fun x y tx ty n e => (by cases e)⟩
theorem stays_dict (es : List DictEntry) (n : Nat) : Stays (dictOf es n) := stays_cls rfl (fun x e => (by cases e)) (fun x e => (by cases e)) (by decide)
theorem stays_tup' (vs : Array Value) (n : Nat) : Stays ({ cls := .type "tuple", data := .seq vs n } : Obj) := stays_cls rfl (fun x e => (by cases e)) (fun x e => (by cases e)) (by decide)
theorem stays_nil (n : Nat) : Stays (listOf #[] n) := ⟨fun x e => (by cases e), fun x e => (by cases e), fun x y tx ty n e => by
  have := congrArg (fun o : Obj => match o.data with | .seq a _ => a.size | _ => 0) e
  cases this⟩
theorem stays_one (v : Value) (n : Nat) : Stays (listOf #[v] n) := ⟨fun x e => (by cases e), fun x e => (by cases e), fun x y tx ty n e => by
  have := congrArg (fun o : Obj => match o.data with | .seq a _ => a.size | _ => 0) e
  cases this⟩
theorem stays_isDict {prog : Program} {w : World} {o : Obj} {kvs : List (Str × Value)} (h : o.IsDictOf (PySem.strKind prog w) kvs) : Stays o := by
  obtain ⟨es, ep, _, hd, _⟩ := h
  refine ⟨fun x e => ?_, fun x e => ?_, fun x y tx ty n e => ?_⟩
  · rw [hd] at e; cases e
  · rw [hd] at e; cases e
  · rw [e] at hd; cases hd
theorem ImgIn.stay {w : World} {led led' : List (Addr × Obj)} {im : Addr} (h : ImgIn w led im) (hs : ∀ q ∈ led, Stays q.2 → q ∈ led') : ImgIn w led' im := by
  obtain ⟨di, th, k, dk, D, y, dy, P, G, p, x, y1, oD, r₁, r₂, r₃, td, t₁, t₂, t₃, t₄, t₅, t₆, ts, tx, c4, c5, c6, c7, h1, h2, h3⟩ := h
  simp only [imgL, List.forall_mem_cons] at h3
  obtain ⟨a1, a2, a3, a4, a5, a6, a7, a8, a9, a10, a11, _⟩ := h3
  exact .of h1 h2 (hs _ a1 (stays_inst _ _)) (hs _ a2 (stays_dict _ _)) (hs _ a3 (stays_nil _)) (hs _ a4 (stays_inst _ _)) (hs _ a5 (stays_dict _ _)) (hs _ a6 (stays_isDict h2)) (hs _ a7 (stays_inst _ _)) (hs _ a8 (stays_dict _ _)) (hs _ a9 (stays_nil _)) (hs _ a10 (stays_one _ _)) (hs _ a11 (stays_tup' _ _))
theorem renormT {h₀ h : Heap} {L : Addr} {nx own mu : List (Addr × Obj)} (N : News h₀ L h nx) (hmu : ∀ q ∈ mu, q ∈ nx) (hT : ∀ q ∈ mu, Turns q.2) (hown : ∀ q ∈ own, q ∈ nx) (hi : OwnIter own) :
    ∃ r, News h₀ L h (mu ++ (r ++ own)) ∧ (∀ p ∈ mu, ∀ q ∈ r, (@Ne Nat q.1 p.1)) ∧ OwnOff own (r.map (·.1)) ∧
      (∀ q ∈ nx, Stays q.2 → q ∈ r) := by
  obtain ⟨r, a, b, c, d, e⟩ := renorm N hmu hown
  exact ⟨r, a, c, d, fun q hq st => e q hq (fun p hp => differ N hq (hmu p hp) (st.ne (hT p hp))) fun p hp z => differ N hq (hown p hp) (st.ne (hi p hp)) z.symm⟩
theorem DIn.stay {led led' : List (Addr × Obj)} {v : Value} {d : Dm} (h : DIn led v d) (hs : ∀ q ∈ led, Stays q.2 → q ∈ led') : DIn led' v d :=
  h.tups fun a vs n z => hs _ z (stays_tup _ _)
theorem tup_stay {led led' : List (Addr × Obj)} {a : Addr} {vs : List Value} {n : Nat} (h : (a, tupO vs n) ∈ led) (hs : ∀ q ∈ led, Stays q.2 → q ∈ led') : (a, tupO vs n) ∈ led' := hs _ h (stays_tup _ _)
theorem own_nil : OwnIter [] := fun _ h => nomatch h
theorem turns_cell {o : Obj} {x : Option Value} (h : o.data = .cell x) : Turns o := .inl ⟨x, h⟩
theorem triples_str : ∀ {l : List Value}, TriplesOk l → ∀ (ps : Array Value), ps.toList = l → ∀ x t, ps[1]? ≠ some (.str x t)
  | [], _, ps, e, x, t, h => by
    have : ps = #[] := by simpa using e
    rw [this] at h; simp at h
  | [a], h1, _, _, _, _, _ => by simp [TriplesOk] at h1
  | a :: b :: r, h1, ps, e, x, t, h => by
    have h5 : ps[1]? = some b := by rw [← Array.getElem?_toList, e]; rfl
    rw [h5] at h
    cases h
    cases r with
    | nil => cases a <;> simp [TriplesOk] at h1
    | cons c r => cases a <;> simp [TriplesOk] at h1
theorem turns_tab {ps : Array Value} (h : TriplesOk ps.toList) : Turns (tabObj ps) := .inr (.inl ⟨ps, rfl, triples_str h ps rfl⟩)
theorem turns_src (x y : Int) (tx ty : Tok) (n : Nat) : Turns (listOf #[.int x tx, .int y ty] n) := .inr (.inr ⟨x, y, tx, ty, n, rfl⟩)
theorem stays_code {o : Obj} {vs : Array Value} {x : Str} {t : Tok} (h : o.data = .fields vs) (h1 : vs[1]? = some (.str x t)) : Stays o := by
  refine ⟨fun y e => ?_, fun fs e => ?_, fun x y tx ty n e => ?_⟩
  · rw [h] at e; cases e
  · rw [h] at e
    cases e
    exact ⟨x, t, h1⟩
  · rw [e] at h; cases h
theorem Codes.stay {qual : Str} {led led' : List (Addr × Obj)} {ps : List Value} (h : Codes qual led ps) (hs : ∀ q ∈ led, Stays q.2 → q ∈ led') : Codes qual led' ps := fun pos cv e => by
  obtain ⟨c', oc, vs, t, h1, h2, h3, h4⟩ := h pos cv e
  exact ⟨c', oc, vs, t, h1, hs _ h2 (stays_code h3 h4), h3, h4⟩
theorem all_app {r own : List (Addr × Obj)} {b : Addr} (h : ∀ q ∈ r, (@Ne Nat q.1 b)) (k : ∀ q ∈ own, (@Ne Nat q.1 b)) : ∀ q ∈ r ++ own, (@Ne Nat q.1 b) := fun q hq => (List.mem_append.mp hq).elim (h q) (k q)
/-- the frame of the law, as far as it is known at a turn's start -/
noncomputable def LwM (l tx : Addr) (k : Int) (tk : Tok) (u : Str → Option Value) : Str → Option Value := fun y => if y = Str.ofString "source" then some (.ref l) else if y = Str.ofString "text" then some (.ref tx) else if y = Str.ofString "levels" then some (.int k tk) else u y
theorem lwM_of {l tx : Addr} {k : Int} {tk : Tok} {m : Str → Option Value} (h1 : m (Str.ofString "source") = some (.ref l)) (h2 : m (Str.ofString "text") = some (.ref tx)) (h3 : m (Str.ofString "levels") = some (.int k tk)) : m = LwM l tx k tk m := by
  funext y
  unfold LwM
  split
  · subst_vars; exact h1
  · split
    · subst_vars; exact h2
    · split
      · subst_vars; exact h3
      · rfl
noncomputable abbrev txtB' : Array UInt8 := #[116, 111, 111, 32, 108, 97, 114, 103, 101, 32, 97, 32, 118, 97, 108, 117, 101]
/-- between the turns -/
inductive LwJ (w : World) (qual : Str) (L l im tx : Addr) (oI : Obj) (i : Nat) (m : Str → Option Value) (nx : List (Addr × Obj)) : Prop where
  | mk (va : Addr) (d : Dm) (oV oP : Obj) (xP : Option Value) (ps : Array Value) (x y : Int) (tx₁ ty : Tok) (n : Nat) (tk : Tok) (u : Str → Option Value) (r : List (Addr × Obj)) (t1 t2 : Tok) (nt : Nat)
    (hm : m = LwM l tx ((Dm.lv d : Nat) : Int) tk u) (hn : nx = (L + 1 + 1 + 1, oV) :: (L + 1 + 1, oP) :: (L + 1, oI) :: (911, tabObj ps) :: (l, listOf #[.int x tx₁, .int y ty] n) :: r)
    (h1 : oV.data = .cell (some (.ref va))) (h2 : oP.data = .cell xP) (h3 : 0 ≤ x) (h4 : 0 ≤ y) (h5 : y < 2147483700) (h6 : DIn r (.ref va) d) (h7 : d.lv ≤ 60) (h8 : d.inn) (h9 : d.cnt ≤ 200 + 4 * i) (h10 : ImgIn w r im) (h11 : (tx, tupO [.str (Str.ofString "text") t1, .bytes txtB' t2] nt) ∈ r) (h12 : TriplesOk ps.toList) (h13 : Codes qual r ps.toList)
    (k1 : ∀ q ∈ r, (@Ne Nat q.1 (L + 1 + 1 + 1))) (k2 : ∀ q ∈ r, (@Ne Nat q.1 (L + 1 + 1))) (k3 : ∀ q ∈ r, (@Ne Nat q.1 (L + 1))) (k4 : ∀ q ∈ r, (@Ne Nat q.1 911)) (k5 : ∀ q ∈ r, (@Ne Nat q.1 l)) : LwJ w qual L l im tx oI i m nx
end
section
open PySem PySem.Spec PySem.Calls PySem.W PyProof.Rows
theorem c_new' {w : World} {dp un : Nat} {gd : Option (List Code)} {cn : Str} {cs : Scope} {a : Addr} {ccd : Value} {cl : List (Str × Addr)} {outer : List Env} {A₀ : Around} {base h₀ : Heap} {L : Addr} {m mg mb : Str → Option Value} {mean : ExcName → Option Value} {led : List (Addr × Obj)} {s : Shared} {Q E : Value → Shared → Prop}
    {al ty c im va : Addr} {d : Dm} {tt t u : Tok} {na nt j : Nat}
    (B : Below A₀ base outer h₀) (F : Fr h₀ L s.heap m) (X : (KK w.params).In h₀) (N : News h₀ L s.heap led) (T : Top topProg LL mean mg mb h₀) (hk : cs.kind = .function) (hdp : dp + 210 < recursionLimit) (hun : un + 2100 < cLine)
    (m1 : (al, listOf #[.ref ty, .ref va] na) ∈ led) (m2 : (ty, tupO [.str (Str.ofString "type") tt, .ref c] nt) ∈ led) (m3 : (c, tupO [.str (Str.ofString "name") t, .str (Str.ofString "S") u, .ref 124] j) ∈ led) (I : ImgIn w led im)
    (hV : DIn led (.ref va) d) (hlv : d.lv ≤ 60) (hinn : d.inn) (hcnt : d.cnt ≤ 3999)
    (ret : ∀ r h' tk' nx, Fr h₀ L h' m → News h₀ L h' nx → (∀ q ∈ led, q ∈ nx) → StV nx r (.ref va) → Q r { s with heap := h', toks := tk' }) :
    wpAny (model PySem.Challenge.rw_sf0048_01.row.prog w) (ktrTop dp un gd cn cs L a ccd cl outer) (call (.ref 726) [.ref im, .ref al]) Q E s := by
  obtain ⟨di, th, k, dk, D, y, dy, P, G, p, x, y1, oD, r₁, r₂, r₃, td, t₁, t₂, t₃, t₄, t₅, t₆, ts, tx, c4, c5, c6, c7, i1, i2, i3⟩ := I
  simp only [imgL, List.forall_mem_cons] at i3
  obtain ⟨a1, a2, _, a4, a5, a6, a7, a8, a9, a10, a11, _⟩ := i3
  exact c_new B F X N T hk hdp hun m1 m2 m3 a1 a2 a4 a5 a6 a7 a8 a9 a10 a11 i1 i2 hV hlv hinn hcnt ret
end
section
open PySem PySem.Spec PySem.Calls PySem.W PyProof.Rows
section
variable {prog : Program} {w : World} {A : Around} {E : Value → Shared → Prop} {s : Shared} {h₀ : Heap} {L : Addr} {led : List (Addr × Obj)} {Q : Value → Shared → Prop}
theorem din_tup {v : Value} {d : Dm} (h : DIn led v d) : ∃ a vs n, v = .ref a ∧ (a, tupO vs n) ∈ led := by
  cases h with
  | sym h => exact ⟨_, _, _, rfl, h⟩
  | nothing h => exact ⟨_, _, _, rfl, h⟩
  | tup0 h _ => exact ⟨_, _, _, rfl, h⟩
  | tup1 h _ _ => exact ⟨_, _, _, rfl, h⟩
  | tup2 h _ _ _ => exact ⟨_, _, _, rfl, h⟩
  | tup3 h _ _ _ _ => exact ⟨_, _, _, rfl, h⟩
  | st h _ _ _ => exact ⟨_, _, _, rfl, h⟩
theorem ne_same {va : Addr} {d : Dm} (N : News h₀ L s.heap led) (h : DIn led (.ref va) d) (hu : A.units + 10 < cLine) (hQ : Q (.bool false) s) : wpAny (model prog w) A (compareOp .NotEq (.ref va) (.ref va)) Q E s := by
  obtain ⟨a, vs, n, e, hm⟩ := din_tup h
  cases e
  exact ne_allAlike (n := 0) (tup_isTuple N hm) (tup_isTuple N hm) (AllAlike.same vs) (by omega) hQ
theorem ne_struct {r v : Value} {a b c e : Addr} {t tn ts : Tok} {n k j : Nat} (N : News h₀ L s.heap led) (h : StV led r v) (h1 : (a, tupO [.str (Str.ofString "struct") t, .ref c, .ref b] n) ∈ led) (h2 : (c, tupO [.str (Str.ofString "name") tn, .str (Str.ofString "S") ts, .ref e] j) ∈ led) (he : e = 124) (h4 : (b, tupO [v] k) ∈ led) (hu : A.units + 10 < cLine) (hQ : Q (.bool false) s) :
    wpAny (model prog w) A (compareOp .NotEq r (.ref a)) Q E s := by
  subst he
  obtain ⟨a', b', c', t', tn', ts', n', k', j', rfl, g1, g2, g4⟩ := h
  refine ne_allAlike (n := 1) (tup_isTuple N g1) (tup_isTuple N h1) ?_ (by omega) hQ
  exact .cons (.str _ _ _) (.cons (.of (tup_isTuple N g2) (tup_isTuple N h2) (.cons (.str _ _ _) (.cons (.str _ _ _) (.cons (.self _) .nil)))) (.cons (.of (tup_isTuple N g4) (tup_isTuple N h4) (.cons (.self _) .nil)) .nil))
theorem ne_tuple {r : Value} {vs : List Value} {a b : Addr} {t : Tok} {n k : Nat} (N : News h₀ L s.heap led) (h : TupV led r vs) (h1 : (a, tupO [.str (Str.ofString "tuple") t, .ref b] n) ∈ led) (h4 : (b, tupO vs k) ∈ led) (hu : A.units + 10 < cLine) (hQ : Q (.bool false) s) :
    wpAny (model prog w) A (compareOp .NotEq r (.ref a)) Q E s := by
  obtain ⟨a', b', t', n', k', rfl, g1, g2⟩ := h
  refine ne_allAlike (n := 1) (tup_isTuple N g1) (tup_isTuple N h1) ?_ (by omega) hQ
  exact .cons (.str _ _ _) (.cons (.of (tup_isTuple N g2) (tup_isTuple N h4) (AllAlike.same vs)) .nil)
/-- the refusal is just the one that is told -/
theorem ne_refused {r : Value} {a D b c p : Addr} {t tr tn te ts tt : Tok} {n₀ n₁ n₂ n₄ n₅ : Nat} {e : Addr} {ws : List Value} (N : News h₀ L s.heap led) (h : RefusedV led r) (h0 : (a, tupO [.str (Str.ofString "refused") tr, .ref D] n₀) ∈ led) (h1 : (D, tupO [.str (Str.ofString "struct") t, .ref c, .ref b] n₁) ∈ led) (h2 : (c, tupO [.str (Str.ofString "name") tn, .str (Str.ofString "ErrorException") te, .ref e] n₂) ∈ led)
    (h3 : s.heap.IsTuple e ws.toArray) (hws : ws = []) (h4 : (b, tupO [.ref p] n₄) ∈ led) (h5 : (p, tupO (txtT ts tt) n₅) ∈ led) (hu : A.units + 10 < cLine) (hQ : Q (.bool false) s) :
    wpAny (model prog w) A (compareOp .NotEq r (.ref a)) Q E s := by
  subst hws
  obtain ⟨a', t', n', v, rfl, g0, D', b', c', e', p', u, un, ue, us, ut, m1, m2, m3, m4, m5, rfl, g1, g2, g3, g4, g5⟩ := h
  refine ne_allAlike (n := 3) (tup_isTuple N g0) (tup_isTuple N h0) ?_ (by omega) hQ
  exact .cons (.str _ _ _) (.cons (.of (tup_isTuple N g1) (tup_isTuple N h1) (.cons (.str _ _ _) (.cons (.of (tup_isTuple N g2) (tup_isTuple N h2) (.cons (.str _ _ _) (.cons (.str _ _ _) (.cons (.of (tup_isTuple N g3) h3 .nil) .nil)))) (.cons (.of (tup_isTuple N g4) (tup_isTuple N h4) (.cons (.of (tup_isTuple N g5) (tup_isTuple N h5) (.cons (.str _ _ _) (.cons (.bytes _ _ _) .nil))) .nil)) .nil)))) .nil)
end
theorem StV.mono {led led' : List (Addr × Obj)} {r v : Value} (h : StV led r v) (hs : ∀ p ∈ led, p ∈ led') : StV led' r v := by
  obtain ⟨a', b', c', t', tn', ts', n', k', j', rfl, g1, g2, g4⟩ := h
  exact ⟨a', b', c', t', tn', ts', n', k', j', rfl, hs _ g1, hs _ g2, hs _ g4⟩
theorem TupV.mono {led led' : List (Addr × Obj)} {r : Value} {vs : List Value} (h : TupV led r vs) (hs : ∀ p ∈ led, p ∈ led') : TupV led' r vs := by
  obtain ⟨a', b', t', n', k', rfl, g1, g2⟩ := h
  exact ⟨a', b', t', n', k', rfl, hs _ g1, hs _ g2⟩
theorem RefusedV.mono {led led' : List (Addr × Obj)} {r : Value} (h : RefusedV led r) (hs : ∀ p ∈ led, p ∈ led') : RefusedV led' r := by
  obtain ⟨a', t', n', v, rfl, g0, g1⟩ := h
  exact ⟨a', t', n', v, rfl, hs _ g0, g1.mono hs⟩
theorem StV.stay {led led' : List (Addr × Obj)} {r v : Value} (h : StV led r v) (hs : ∀ q ∈ led, Stays q.2 → q ∈ led') : StV led' r v := by
  obtain ⟨a', b', c', t', tn', ts', n', k', j', rfl, g1, g2, g4⟩ := h
  exact ⟨a', b', c', t', tn', ts', n', k', j', rfl, hs _ g1 (stays_tup _ _), hs _ g2 (stays_tup _ _), hs _ g4 (stays_tup _ _)⟩
theorem TupV.stay {led led' : List (Addr × Obj)} {r : Value} {vs : List Value} (h : TupV led r vs) (hs : ∀ q ∈ led, Stays q.2 → q ∈ led') : TupV led' r vs := by
  obtain ⟨a', b', t', n', k', rfl, g1, g2⟩ := h
  exact ⟨a', b', t', n', k', rfl, hs _ g1 (stays_tup _ _), hs _ g2 (stays_tup _ _)⟩
theorem RefusedV.stay {led led' : List (Addr × Obj)} {r : Value} (h : RefusedV led r) (hs : ∀ q ∈ led, Stays q.2 → q ∈ led') : RefusedV led' r := by
  obtain ⟨a', t', n', v, rfl, g0, D', b', c', e', p', u, un, ue, us, ut, m1, m2, m3, m4, m5, rfl, g1, g2, g3, g4, g5⟩ := h
  exact ⟨a', t', n', _, rfl, hs _ g0 (stays_tup _ _), D', b', c', e', p', u, un, ue, us, ut, m1, m2, m3, m4, m5, rfl, hs _ g1 (stays_tup _ _), hs _ g2 (stays_tup _ _), hs _ g3 (stays_tup _ _), hs _ g4 (stays_tup _ _), hs _ g5 (stays_tup _ _)⟩
end
section
open PySem PySem.Spec PySem.Calls PySem.W PyProof.Rows
/-- what the law gives to _law_told: the body of the n-th lambda, as the row has it -/
noncomputable def lawBody : List Stmt := match PySem.Challenge.pw_sf0048_01.main.body.getLast? with
  | some (.FunctionDef _ _ body _ _ _ _ _ _ _) => body
  | _ => []
noncomputable def lawTurn : List Stmt := match (lawBody[3]? : Option Stmt) with
  | some (.For _ _ body _ _) => body
  | _ => []
noncomputable def lawArms : List Stmt × List Stmt := match (lawTurn[1]? : Option Stmt) with
  | some (.If _ a b _) => (a, b)
  | _ => ([], [])
noncomputable def lamOf (s : Option Stmt) : PySem.Expr × Scope := match s with
  | some (.Assign _ (.Tuple (.Call _ [.Lambda _ b sc _] _ _ :: _) _ _) _) => (b, sc)
  | _ => (.Constant .none 0 ⟨0, 0, 0, 0⟩, default)
noncomputable def lamA : PySem.Expr × Scope := lamOf lawArms.1[0]?
noncomputable def lamB : PySem.Expr × Scope := lamOf lawArms.2[2]?
local macro_rules | `(tactic| k_mem) => `(tactic| assumption)
local macro_rules | `(tactic| walk_at "eval Name") => `(tactic| (kc_free; k_dflt (refine nameF (by rfl) (by rfl) (by k_asm) (by rfl) (by k_mem) (by assumption) ?_)))
theorem body_new {w : World} {mean : ExcName → Option Value} {mg mb : Str → Option Value} {qual : Str} {L0 f c' im va : Addr} {news₀ : List (Addr × Obj)} {oI oV : Obj} {d : Dm}
    (mI : (L0 + 1, oI) ∈ news₀) (mV : (L0 + 1 + 1 + 1, oV) ∈ news₀) (dI : oI.data = .cell (some (.ref im))) (dV : oV.data = .cell (some (.ref va))) (I3 : ImgIn w news₀ im) (D3 : DIn news₀ (.ref va) d) (hlv : d.lv ≤ 60) (hinn : d.inn) (hcnt : d.cnt ≤ 3999) :
    BodyC w mean mg mb qual lamA.2 f c' [(Str.ofString "value", L0 + 1 + 1 + 1), (Str.ofString "image", L0 + 1)] lamA.1 news₀ (fun nx z => StV nx z (.ref va)) True := by
  unfold BodyC
  intro dp un gd outer A₀ base h₀ L news s Q E B F X N T sub hdp hun rt er
  clear er
  have cI := sub _ mI
  have cV := sub _ mV
  have Ib := I3.mono sub
  have Db := D3.mono sub
  clear mI mV I3 D3
  generalize hb : lamA.1 = b
  generalize hsc : lamA.2 = sc
  conv at hb => lhs; whnf
  conv at hsc => lhs; whnf
  subst hb hsc
  revert X
  (w_top off; k_fill)
  intro X
  have hm0 : HC 726 := .mk
  have hm1 : HC 719 := .mk
  k_steps
  (rename News _ _ _ _ => nb9)
  refine hold (c_new' (by k_asm) (by k_asm) (by k_asm) nb9 (by k_asm) rfl (by ktr_room) (by ktr_units) (by k_mem) (by k_mem) (by k_mem) (Ib.mono (by repeat (first | exact sub_self | refine sub_cons ?_))) (Db.mono (by repeat (first | exact sub_self | refine sub_cons ?_))) hlv hinn hcnt ?_)
  intro rz hz tkz nz Fz Nz subz sz
  exact rt rz hz tkz nz _ Fz Nz (fun q hq => subz q (by repeat (first | exact hq | apply List.Mem.tail))) sz trivial
theorem body_tuple {w : World} {mean : ExcName → Option Value} {mg mb : Str → Option Value} {qual : Str} {L0 f c' im lp : Addr} {news₀ : List (Addr × Obj)} {oI oP : Obj} {vs : List Value} {n : Nat} {d : Dm}
    (mI : (L0 + 1, oI) ∈ news₀) (mP : (L0 + 1 + 1, oP) ∈ news₀) (dI : oI.data = .cell (some (.ref im))) (dP : oP.data = .cell (some (.ref lp))) (hl : (lp, listOf vs.toArray n) ∈ news₀) (hP : PartsIn news₀ vs d) (hcnt : d.cnt ≤ 4000) :
    BodyC w mean mg mb qual lamB.2 f c' [(Str.ofString "parts", L0 + 1 + 1), (Str.ofString "image", L0 + 1)] lamB.1 news₀ (fun nx z => TupV nx z vs) (d.good 1) := by
  unfold BodyC
  intro dp un gd outer A₀ base h₀ L news s Q E B F X N T sub hdp hun rt er
  have cI := sub _ mI
  have cP := sub _ mP
  have cl := sub _ hl
  have Pb := hP.mono sub
  clear mI mP hP hl
  generalize hb : lamB.1 = b
  generalize hsc : lamB.2 = sc
  conv at hb => lhs; whnf
  conv at hsc => lhs; whnf
  subst hb hsc
  revert X
  (w_top off; k_fill)
  intro X
  have hm0 : HC 726 := .mk
  have hm1 : HC 719 := .mk
  k_steps
  (rename News _ _ _ _ => nb9)
  refine hold (c_tuple (by k_asm) (by k_asm) (by k_asm) nb9 (by k_asm) rfl (by ktr_room) (by ktr_units) (by k_mem) (Pb.mono (by repeat (first | exact sub_self | refine sub_cons ?_))) hcnt ?_ ?_)
  · intro rz hz tkz nz Fz Nz subz sz gz
    exact rt rz hz tkz nz _ Fz Nz (fun q hq => subz q (by repeat (first | exact hq | apply List.Mem.tail))) sz gz
  · intro e t dx tm nx g₂ h' tk' F2 al up sub2 dv hb
    exact er e t dx tm nx g₂ h' tk' _ F2 al up (fun q hq => sub2 q (by repeat (first | exact hq | apply List.Mem.tail))) dv hb
end
section
open PySem PySem.Spec PySem.Calls PySem.W PyProof.Rows
noncomputable abbrev lawQ : Str := (Str.ofString "law" ++ ".<locals>.") ++ "<lambda>"
noncomputable def lawScope : Scope := match PySem.Challenge.pw_sf0048_01.main.body.getLast? with
  | some (.FunctionDef _ _ _ _ _ _ sc _ _ _) => sc
  | _ => default
theorem up_of {h₀ h : Heap} {L : Addr} {a : Addr × Obj} {add mu : List (Addr × Obj)} (_N : News h₀ L h (a :: (add ++ mu))) : ∀ q ∈ mu, q ∈ a :: (add ++ mu) := fun _ hq => .tail _ (List.mem_append_right _ hq)
theorem mem3 {P : Addr × Obj → Prop} {a b c : Addr × Obj} (h1 : P a) (h2 : P b) (h3 : P c) : ∀ q ∈ [a, b, c], P q := List.forall_mem_cons.mpr ⟨h1, List.forall_mem_cons.mpr ⟨h2, List.forall_mem_cons.mpr ⟨h3, fun _ h => nomatch h⟩⟩⟩
theorem mem5 {P : Addr × Obj → Prop} {a b c d e : Addr × Obj} (h1 : P a) (h2 : P b) (h3 : P c) (h4 : P d) (h5 : P e) : ∀ q ∈ [a, b, c, d, e], P q := List.forall_mem_cons.mpr ⟨h1, List.forall_mem_cons.mpr ⟨h2, mem3 h3 h4 h5⟩⟩
theorem turn_end {w : World} {L l im tx : Addr} {oI : Obj} {i : Nat} {own : List (Addr × Obj)} {h₀ h' : Heap} {m' : Str → Option Value} {led : List (Addr × Obj)} {s₁ : Shared} {tk' : Nat} {ra : Addr} {d : Dm} {oV oP : Obj} {xP : Option Value} {ps : Array Value} {x y k : Int} {tx₁ ty tk : Tok} {n : Nat} {r : List (Addr × Obj)} {t1 t2 : Tok} {nt : Nat}
    (F : Fr h₀ L h' m') (N : News h₀ L h' led) (mV : (L + 1 + 1 + 1, oV) ∈ led) (mP : (L + 1 + 1, oP) ∈ led) (mI : (L + 1, oI) ∈ led) (mT : (911, tabObj ps) ∈ led) (mL : (l, listOf #[.int x tx₁, .int y ty] n) ∈ led) (mr : ∀ q ∈ r, q ∈ led) (mo : ∀ q ∈ own, q ∈ led)
    (h1 : m' (Str.ofString "source") = some (.ref l)) (h2 : m' (Str.ofString "text") = some (.ref tx)) (h3 : m' (Str.ofString "levels") = some (.int k tk)) (hk : k = ((Dm.lv d : Nat) : Int)) (dV : oV.data = .cell (some (.ref ra))) (dP : oP.data = .cell xP) (x0 : 0 ≤ x) (y0 : 0 ≤ y) (y1 : y < 2147483700)
    (hD : DIn r (.ref ra) d) (hlv : d.lv ≤ 60) (hinn : d.inn) (hcnt : d.cnt ≤ 200 + 4 * (i + 1)) (I : ImgIn w r im) (hT : (tx, tupO [.str (Str.ofString "text") t1, .bytes txtB' t2] nt) ∈ r) (hps : TriplesOk ps.toList) (hco : Codes lawQ r ps.toList)
    (r1 : ∀ q ∈ r, (@Ne Nat q.1 (L + 1 + 1 + 1))) (r2 : ∀ q ∈ r, (@Ne Nat q.1 (L + 1 + 1))) (r3 : ∀ q ∈ r, (@Ne Nat q.1 (L + 1))) (r4 : ∀ q ∈ r, (@Ne Nat q.1 911)) (r5 : ∀ q ∈ r, (@Ne Nat q.1 l))
    (ho : OwnOff own [L + 1 + 1 + 1, L + 1 + 1, L + 1, 911, l]) (hoff : OwnOff own (r.map (·.1))) : InvEndG h₀ L (LwJ w lawQ L l im tx oI (i + 1)) own s₁ { s₁ with heap := h', toks := tk' } := by
  subst hk
  refine InvEndG.intro F N (nx := (L + 1 + 1 + 1, oV) :: (L + 1 + 1, oP) :: (L + 1, oI) :: (911, tabObj ps) :: (l, listOf #[.int x tx₁, .int y ty] n) :: r) ⟨ra, d, oV, oP, xP, ps, x, y, tx₁, ty, n, tk, m', r, t1, t2, nt, lwM_of h1 h2 h3, rfl, dV, dP, x0, y0, y1, hD, hlv, hinn, hcnt, I, hT, hps, hco, r1, r2, r3, r4, r5⟩ ?_ ?_ mo
  · exact own_cons (ho.ne (.head _)) (own_cons (ho.ne (.tail _ (.head _))) (own_cons (ho.ne (.tail _ (.tail _ (.head _)))) (own_cons (ho.ne (.tail _ (.tail _ (.tail _ (.head _))))) (own_cons (ho.ne (.tail _ (.tail _ (.tail _ (.tail _ (.head _)))))) hoff))))
  · exact List.forall_mem_cons.mpr ⟨mV, List.forall_mem_cons.mpr ⟨mP, List.forall_mem_cons.mpr ⟨mI, List.forall_mem_cons.mpr ⟨mT, List.forall_mem_cons.mpr ⟨mL, mr⟩⟩⟩⟩⟩
theorem own5 {own r : List (Addr × Obj)} {a b c d e : Addr × Obj} (ho : OwnOff own ((a :: b :: c :: d :: e :: r).map (·.1))) : OwnOff own [a.1, b.1, c.1, d.1, e.1] := fun p hp b' hb => ho p hp b' (by
  rcases List.mem_cons.mp hb with rfl | hb
  · exact .head _
  · rcases List.mem_cons.mp hb with rfl | hb
    · exact .tail _ (.head _)
    · rcases List.mem_cons.mp hb with rfl | hb
      · exact .tail _ (.tail _ (.head _))
      · rcases List.mem_cons.mp hb with rfl | hb
        · exact .tail _ (.tail _ (.tail _ (.head _)))
        · rw [List.mem_singleton.mp hb]
          exact .tail _ (.tail _ (.tail _ (.tail _ (.head _)))))
end
section
open PySem PySem.Spec PySem.Calls PySem.W PyProof.Rows
local macro_rules | `(tactic| walk_at "call ref") => `(tactic| with_reducible refine hold_dig (by assumption) ?_)
section
open PySem PySem.Spec PySem.Calls PySem.W PyProof.Rows
/-- the list some: as far as it is cut -/
inductive SsIn (ext : List (Addr × Obj)) : List Value → Prop where
  | zero : SsIn ext []
  | one {b : Addr} {x : Str} : DIn ext (.ref b) (.sym x) → SsIn ext [.ref b]
  | two {b c : Addr} {x y : Str} : DIn ext (.ref b) (.sym x) → DIn ext (.ref c) (.tup1 (.sym y)) → SsIn ext [.ref b, .ref c]
theorem SsIn.len {ext : List (Addr × Obj)} {ss : List Value} (h : SsIn ext ss) : ss.length ≤ 2 := by
  cases h <;> simp
theorem SsIn.refs {ext : List (Addr × Obj)} {ss : List Value} (h : SsIn ext ss) : ∀ v ∈ ss, ∃ a, v = .ref a := by
  cases h with
  | zero => exact fun _ h => nomatch h
  | one _ => exact List.forall_mem_cons.mpr ⟨⟨_, rfl⟩, fun _ h => nomatch h⟩
  | two _ _ => exact List.forall_mem_cons.mpr ⟨⟨_, rfl⟩, List.forall_mem_cons.mpr ⟨⟨_, rfl⟩, fun _ h => nomatch h⟩⟩
/-- what the tuple of the parts counts -/
theorem SsIn.parts {ext led : List (Addr × Obj)} {ss vs : List Value} {va : Value} {d : Dm} (h : SsIn ext ss) (D : DIn led va d) (hs : ∀ q ∈ ext, q ∈ led) (hv : vs = ss ++ [va] ∨ vs = [va] ++ ss) :
    ∃ d' : Dm, PartsIn led vs d' ∧ d'.lv = 1 + max d.lv ss.length ∧ (d'.inn ↔ d.inn) ∧ d'.cnt ≤ d.cnt + 4 := by
  have h1 := d.lv_pos
  cases h with
  | zero =>
    refine ⟨.tup1 d, ?_, ?_, ?_, ?_⟩
    · rcases hv with rfl | rfl <;> exact .one D
    · simp only [Dm.lv, List.length_nil]; rw [Nat.max_zero]; exact Nat.add_comm _ _
    · simp only [Dm.inn]
    · simp only [Dm.cnt]; omega
  | one b =>
    rcases hv with rfl | rfl
    · refine ⟨.tup2 (.sym _) d, .two (b.mono hs) D, ?_, ?_, ?_⟩
      · simp only [Dm.lv, List.length_cons, List.length_nil]; rw [Nat.max_comm 1]; exact Nat.add_comm _ _
      · simp only [Dm.inn, true_and]
      · simp only [Dm.cnt]; omega
    · refine ⟨.tup2 d (.sym _), .two D (b.mono hs), ?_, ?_, ?_⟩
      · simp only [Dm.lv, List.length_cons, List.length_nil]; exact Nat.add_comm _ _
      · simp only [Dm.inn, and_true]
      · simp only [Dm.cnt]; omega
  | two b c =>
    rcases hv with rfl | rfl
    · refine ⟨.tup3 (.sym _) (.tup1 (.sym _)) d, .three (b.mono hs) (c.mono hs) D, ?_, ?_, ?_⟩
      · simp only [Dm.lv, List.length_cons, List.length_nil]; rw [Nat.max_eq_right (Nat.le_trans (by decide) (Nat.le_max_left (1 + 1) d.lv)), Nat.max_comm (1 + 1)]; exact Nat.add_comm _ _
      · simp only [Dm.inn, true_and]
      · simp only [Dm.cnt]; omega
    · refine ⟨.tup3 d (.sym _) (.tup1 (.sym _)), .three D (b.mono hs) (c.mono hs), ?_, ?_, ?_⟩
      · simp only [Dm.lv, List.length_cons, List.length_nil]; exact Nat.add_comm _ _
      · simp only [Dm.inn, and_true]
      · simp only [Dm.cnt]; omega
theorem news_S {h₀ h : Heap} {L : Addr} {a b t1 t2 t3 t4 m1 m2 m3 m4 m5 : Addr × Obj} {z : List (Addr × Obj)} (N : News h₀ L h (a :: b :: t1 :: t2 :: t3 :: t4 :: m1 :: m2 :: m3 :: m4 :: m5 :: z)) : News h₀ L h (a :: m1 :: m2 :: m3 :: m4 :: m5 :: ([t1, t2, t3, t4] ++ z)) := by
  obtain ⟨na, N⟩ := List.forall_mem_cons.mp N
  obtain ⟨n1, N⟩ := List.forall_mem_cons.mp (List.forall_mem_cons.mp N).2
  obtain ⟨n2, N⟩ := List.forall_mem_cons.mp N
  obtain ⟨n3, N⟩ := List.forall_mem_cons.mp N
  obtain ⟨n4, N⟩ := List.forall_mem_cons.mp N
  obtain ⟨k1, N⟩ := List.forall_mem_cons.mp N
  obtain ⟨k2, N⟩ := List.forall_mem_cons.mp N
  obtain ⟨k3, N⟩ := List.forall_mem_cons.mp N
  obtain ⟨k4, N⟩ := List.forall_mem_cons.mp N
  obtain ⟨k5, N⟩ := List.forall_mem_cons.mp N
  exact List.forall_mem_cons.mpr ⟨na, List.forall_mem_cons.mpr ⟨k1, List.forall_mem_cons.mpr ⟨k2, List.forall_mem_cons.mpr ⟨k3, List.forall_mem_cons.mpr ⟨k4, List.forall_mem_cons.mpr ⟨k5, List.forall_mem_cons.mpr ⟨n1, List.forall_mem_cons.mpr ⟨n2, List.forall_mem_cons.mpr ⟨n3, List.forall_mem_cons.mpr ⟨n4, N⟩⟩⟩⟩⟩⟩⟩⟩⟩⟩
theorem news_T {h₀ h : Heap} {L : Addr} {a b c m1 m2 m3 m4 m5 : Addr × Obj} {z : List (Addr × Obj)} (N : News h₀ L h (a :: b :: c :: m1 :: m2 :: m3 :: m4 :: m5 :: z)) : News h₀ L h (a :: c :: m1 :: m2 :: m3 :: m4 :: m5 :: z) := by
  obtain ⟨na, N⟩ := List.forall_mem_cons.mp N
  exact List.forall_mem_cons.mpr ⟨na, (List.forall_mem_cons.mp N).2⟩
theorem ext_ne {ext : List (Addr × Obj)} {l a : Addr} (hx : ∀ q ∈ ext, @LT.lt Nat _ l q.1) (h : @LE.le Nat _ a l) : ∀ q ∈ ext, (@Ne Nat q.1 a) := fun q hq e => absurd (hx q hq) (by rw [e]; exact Nat.not_lt.mpr h)
noncomputable def lawSomeB : Stmt := match (lawArms.2[0]? : Option Stmt) with
  | some s => s
  | _ => .Pass ⟨0, 0, 0, 0⟩
noncomputable def lawPartsB : Stmt := match (lawArms.2[1]? : Option Stmt) with
  | some s => s
  | _ => .Pass ⟨0, 0, 0, 0⟩
theorem c_someB {w : World} {dp un : Nat} {gd : Option (List Code)} {fa L l tx va : Addr} {A₀ : Around} {h₀ : Heap} {mg mb : Str → Option Value} {mean : ExcName → Option Value} {oI oV oP : Obj} {n : Nat} {x y kt kd : Int} {t tk tx₁ ty : Tok} {ps : Array Value} {u : Str → Option Value} {z : List (Addr × Obj)} {s₀ : Shared} {h : Heap} {tk₀ : Nat} {Q : Flow → Shared → Prop} {E : Value → Shared → Prop}
    (B : Below A₀ h₀ [] h₀) (X : (KK w.params).In h₀) (T : Top topProg LL mean mg mb h₀) (hdp : dp + 260 < recursionLimit) (hun : un + 2600 < cLine) (h911 : @LT.lt Nat _ 911 L) (hl : @LT.lt Nat _ (L + 1 + 1 + 1) l) (x0 : 0 ≤ x) (y0 : 0 ≤ y) (y1 : y < 2147483700) (o5 : ∀ q ∈ z, (@Ne Nat q.1 l))
    (F : Fr h₀ L h (fun y => if y = Str.ofString "elder" then some (.ref va) else if y = Str.ofString "turn" then some (.int kt t) else LwM l tx kd tk u y))
    (N : News h₀ L h ((L + 1 + 1 + 1, oV) :: (L + 1 + 1, oP) :: (L + 1, oI) :: (911, tabObj ps) :: (l, listOf #[.int x tx₁, .int y ty] n) :: z))
    (ret : ∀ ss ext ls ns x' y' tx' ty' n' h' tk', SsIn ext ss → (∀ q ∈ ext, @LT.lt Nat _ l q.1) → @LT.lt Nat _ l ls → 0 ≤ x' → 0 ≤ y' → y' < 2147483700 →
      Fr h₀ L h' (fun y => if y = Str.ofString "some" then some (.ref ls) else if y = Str.ofString "elder" then some (.ref va) else if y = Str.ofString "turn" then some (.int kt t) else LwM l tx kd tk u y) →
      News h₀ L h' ((ls, listOf (List.toArray ss) ns) :: (L + 1 + 1 + 1, oV) :: (L + 1 + 1, oP) :: (L + 1, oI) :: (911, tabObj ps) :: (l, listOf #[.int x' tx', .int y' ty'] n') :: (ext ++ z)) → Q .next { s₀ with heap := h', toks := tk' }) :
    wpAny (model PySem.Challenge.rw_sf0048_01.row.prog w) (ktrTop dp un gd (Str.ofString "law") lawScope L fa (.ref 915) (cellsFrom (L + 1) lawScope.names []) []) (exec lawSomeB (envX (Str.ofString "law") lawScope L fa (.ref 915) (cellsFrom (L + 1) lawScope.names []))) Q E { s₀ with heap := h, toks := tk₀ } := by
  generalize hb : lawSomeB = b
  generalize hsc : lawScope = sc
  conv at hb => lhs; whnf
  conv at hsc => lhs; whnf
  subst hb hsc
  revert X
  (w_top off; k_fill)
  intro X
  have hm0 : HI 3 := .mk
  have hm9 : HC 888 := .mk
  k_steps
  repeat (any_goals ((with_reducible refine hold_un ?_); (fail_if_success (with_reducible show wpAny _ _ (call (Value.ref 888) [_, Value.int 3 _]) _ _ _)); (fail_if_success (with_reducible show wpAny _ _ (call (Value.ref 888) [_, Value.int 4 _]) _ _ _)); (with_reducible show wpAny _ _ (call (Value.ref 888) [_, Value.int _ _]) _ _ _); k_dflt (refine' c_digit' ?B ?F ?X ?N ?T rfl ?hd ?hu ?U ?x ?y ?z ?k0 ?k5 ?_; (case B => k_asm); (case F => k_asm); (case X => k_asm); (case N => k_asm); (case T => k_asm); (case hd => ktr_room); (case hu => ktr_units); (case U => k_updF); (case x => assumption); (case y => assumption); (case z => assumption); (case k0 => decide); (case k5 => decide)); intro r' tr' x' y' tx' ty' n' h' tk' r0 r1 x0 y0 y1 F' N'; (try dsimp only at N'); k_steps))
  refine hold (c_digit' (by k_asm) (by k_asm) (by k_asm) (by k_asm) (by k_asm) rfl (by ktr_room) (by ktr_units) (by k_updF) (by assumption) (by assumption) (by assumption) (by decide) (by decide) ?_)
  intro r3 tr3 x3 y3 tx3 ty3 n3 hp3 tk3 q0 q1 q2 q3 q4 F3 N3
  try dsimp only at N3
  have h3 : r3 = 0 ∨ r3 = 1 ∨ r3 = 2 := by first | walk_report | k_slotget | omega
  rcases h3 with rfl | rfl | rfl
  all_goals k_steps
  repeat (any_goals ((with_reducible refine hold_un ?_); (fail_if_success (with_reducible show wpAny _ _ (call (Value.ref 888) [_, Value.int 3 _]) _ _ _)); (fail_if_success (with_reducible show wpAny _ _ (call (Value.ref 888) [_, Value.int 4 _]) _ _ _)); (with_reducible show wpAny _ _ (call (Value.ref 888) [_, Value.int _ _]) _ _ _); k_dflt (refine' c_digit' ?B ?F ?X ?N ?T rfl ?hd ?hu ?U ?x ?y ?z ?k0 ?k5 ?_; (case B => k_asm); (case F => k_asm); (case X => k_asm); (case N => k_asm); (case T => k_asm); (case hd => ktr_room); (case hu => ktr_units); (case U => k_updF); (case x => assumption); (case y => assumption); (case z => assumption); (case k0 => decide); (case k5 => decide)); intro r' tr' x' y' tx' ty' n' h' tk' r0 r1 x0 y0 y1 F' N'; (try dsimp only at N'); k_steps))
  · (rename Fr _ _ _ _ => f9)
    (rename News _ _ _ _ => n9)
    exact ret [] [_, _, _, _] _ _ _ _ _ _ _ _ _ .zero (List.forall_mem_cons.mpr ⟨by first | k_ne | ((try dsimp only); with_reducible first | assumption | (apply And.left; (iterate 30 (first | done | assumption | apply And.right)); done)) | ((try dsimp only); omega), List.forall_mem_cons.mpr ⟨by first | k_ne | ((try dsimp only); with_reducible first | assumption | (apply And.left; (iterate 30 (first | done | assumption | apply And.right)); done)) | ((try dsimp only); omega), List.forall_mem_cons.mpr ⟨by first | k_ne | ((try dsimp only); with_reducible first | assumption | (apply And.left; (iterate 30 (first | done | assumption | apply And.right)); done)) | ((try dsimp only); omega), List.forall_mem_cons.mpr ⟨by first | k_ne | ((try dsimp only); with_reducible first | assumption | (apply And.left; (iterate 30 (first | done | assumption | apply And.right)); done)) | ((try dsimp only); omega), List.forall_mem_nil _⟩⟩⟩⟩) (by first | walk_report | k_slotget | omega) q2 q3 q4 f9 (news_S n9)
  · (rename Fr _ _ _ _ => f9)
    (rename News _ _ _ _ => n9)
    exact ret [_] [_, _, _, _] _ _ _ _ _ _ _ _ _ (.one (.sym (.tail _ (.tail _ (.tail _ (.head _)))))) (List.forall_mem_cons.mpr ⟨by first | k_ne | ((try dsimp only); with_reducible first | assumption | (apply And.left; (iterate 30 (first | done | assumption | apply And.right)); done)) | ((try dsimp only); omega), List.forall_mem_cons.mpr ⟨by first | k_ne | ((try dsimp only); with_reducible first | assumption | (apply And.left; (iterate 30 (first | done | assumption | apply And.right)); done)) | ((try dsimp only); omega), List.forall_mem_cons.mpr ⟨by first | k_ne | ((try dsimp only); with_reducible first | assumption | (apply And.left; (iterate 30 (first | done | assumption | apply And.right)); done)) | ((try dsimp only); omega), List.forall_mem_cons.mpr ⟨by first | k_ne | ((try dsimp only); with_reducible first | assumption | (apply And.left; (iterate 30 (first | done | assumption | apply And.right)); done)) | ((try dsimp only); omega), List.forall_mem_nil _⟩⟩⟩⟩) (by first | walk_report | k_slotget | omega) q2 q3 q4 f9 (news_S n9)
  · (rename Fr _ _ _ _ => f9)
    (rename News _ _ _ _ => n9)
    exact ret [_, _] [_, _, _, _] _ _ _ _ _ _ _ _ _ (.two (.sym (.tail _ (.tail _ (.tail _ (.head _))))) (.tup1 (.head _) (.tail _ (.head _)) (.sym (.tail _ (.tail _ (.head _)))))) (List.forall_mem_cons.mpr ⟨by first | k_ne | ((try dsimp only); with_reducible first | assumption | (apply And.left; (iterate 30 (first | done | assumption | apply And.right)); done)) | ((try dsimp only); omega), List.forall_mem_cons.mpr ⟨by first | k_ne | ((try dsimp only); with_reducible first | assumption | (apply And.left; (iterate 30 (first | done | assumption | apply And.right)); done)) | ((try dsimp only); omega), List.forall_mem_cons.mpr ⟨by first | k_ne | ((try dsimp only); with_reducible first | assumption | (apply And.left; (iterate 30 (first | done | assumption | apply And.right)); done)) | ((try dsimp only); omega), List.forall_mem_cons.mpr ⟨by first | k_ne | ((try dsimp only); with_reducible first | assumption | (apply And.left; (iterate 30 (first | done | assumption | apply And.right)); done)) | ((try dsimp only); omega), List.forall_mem_nil _⟩⟩⟩⟩) (by first | walk_report | k_slotget | omega) q2 q3 q4 f9 (news_S n9)
theorem c_partsB {w : World} {dp un : Nat} {gd : Option (List Code)} {fa L l tx va ls : Addr} {A₀ : Around} {h₀ : Heap} {mg mb : Str → Option Value} {mean : ExcName → Option Value} {oI oV oP : Obj} {xP : Option Value} {n ns : Nat} {x y kt kd : Int} {t tk tx₁ ty : Tok} {ps : Array Value} {u : Str → Option Value} {ss : List Value} {z : List (Addr × Obj)} {s₀ : Shared} {h : Heap} {tk₀ : Nat} {Q : Flow → Shared → Prop} {E : Value → Shared → Prop}
    (B : Below A₀ h₀ [] h₀) (X : (KK w.params).In h₀) (T : Top topProg LL mean mg mb h₀) (hdp : dp + 260 < recursionLimit) (hun : un + 2600 < cLine) (h911 : @LT.lt Nat _ 911 L) (hl : @LT.lt Nat _ (L + 1 + 1 + 1) l) (hls : @LT.lt Nat _ l ls) (dV : oV.data = .cell (some (.ref va))) (dP : oP.data = .cell xP) (hss : ss.length ≤ 2) (x0 : 0 ≤ x) (y0 : 0 ≤ y) (y1 : y < 2147483700)
    (o2 : ∀ q ∈ z, (@Ne Nat q.1 (L + 1 + 1))) (o5 : ∀ q ∈ z, (@Ne Nat q.1 l))
    (F : Fr h₀ L h (fun y => if y = Str.ofString "some" then some (.ref ls) else if y = Str.ofString "elder" then some (.ref va) else if y = Str.ofString "turn" then some (.int kt t) else LwM l tx kd tk u y))
    (N : News h₀ L h ((ls, listOf ss.toArray ns) :: (L + 1 + 1 + 1, oV) :: (L + 1 + 1, oP) :: (L + 1, oI) :: (911, tabObj ps) :: (l, listOf #[.int x tx₁, .int y ty] n) :: z))
    (ret : ∀ vs oP' lp np x' y' tx' ty' n' h' tk', (vs = ss ++ [.ref va] ∨ vs = [.ref va] ++ ss) → oP'.data = .cell (some (.ref lp)) → @LT.lt Nat _ l lp → 0 ≤ x' → 0 ≤ y' → y' < 2147483700 →
      Fr h₀ L h' (fun y => if y = Str.ofString "some" then some (.ref ls) else if y = Str.ofString "elder" then some (.ref va) else if y = Str.ofString "turn" then some (.int kt t) else LwM l tx kd tk u y) →
      News h₀ L h' ((lp, listOf (List.toArray vs) np) :: (ls, listOf ss.toArray ns) :: (L + 1 + 1 + 1, oV) :: (L + 1 + 1, oP') :: (L + 1, oI) :: (911, tabObj ps) :: (l, listOf #[.int x' tx', .int y' ty'] n') :: z) → Q .next { s₀ with heap := h', toks := tk' }) :
    wpAny (model PySem.Challenge.rw_sf0048_01.row.prog w) (ktrTop dp un gd (Str.ofString "law") lawScope L fa (.ref 915) (cellsFrom (L + 1) lawScope.names []) []) (exec lawPartsB (envX (Str.ofString "law") lawScope L fa (.ref 915) (cellsFrom (L + 1) lawScope.names []))) Q E { s₀ with heap := h, toks := tk₀ } := by
  have hsz : ss.length + 1 ≤ sizeLine := by simp only [sizeLine_eq]; omega
  have hsz' : 1 + ss.length ≤ sizeLine := by simp only [sizeLine_eq]; omega
  generalize hb : lawPartsB = b
  generalize hsc : lawScope = sc
  conv at hb => lhs; whnf
  conv at hsc => lhs; whnf
  subst hb hsc
  revert X
  (w_top off; k_fill)
  intro X
  have hm0 : HI 3 := .mk
  have hm9 : HC 888 := .mk
  have hm1 : HKey "binaryOp Add ref ref" := .mk
  k_steps
  repeat (any_goals ((with_reducible refine hold_un ?_); (fail_if_success (with_reducible show wpAny _ _ (call (Value.ref 888) [_, Value.int 3 _]) _ _ _)); (fail_if_success (with_reducible show wpAny _ _ (call (Value.ref 888) [_, Value.int 4 _]) _ _ _)); (with_reducible show wpAny _ _ (call (Value.ref 888) [_, Value.int _ _]) _ _ _); k_dflt (refine' c_digit' ?B ?F ?X ?N ?T rfl ?hd ?hu ?U ?x ?y ?z ?k0 ?k5 ?_; (case B => k_asm); (case F => k_asm); (case X => k_asm); (case N => k_asm); (case T => k_asm); (case hd => ktr_room); (case hu => ktr_units); (case U => k_updF); (case x => assumption); (case y => assumption); (case z => assumption); (case k0 => decide); (case k5 => decide)); intro r' tr' x' y' tx' ty' n' h' tk' r0 r1 x0 y0 y1 F' N'; (try dsimp only at N'); k_steps))
  · (rename Fr _ _ _ _ => f9)
    (rename News _ _ _ _ => n9)
    refine hold (kmk_add_lit (its := ss.toArray) (its2 := #[.ref va]) (zs := ss ++ [.ref va]) f9 n9 (by kmk_list) (by kmk_list) rfl ?_ hsz)
    clear f9 n9
    intro D h' F' N' l1
    k_lt l1
    k_steps
    repeat (any_goals ((with_reducible refine hold_un ?_); (fail_if_success (with_reducible show wpAny _ _ (call (Value.ref 888) [_, Value.int 3 _]) _ _ _)); (fail_if_success (with_reducible show wpAny _ _ (call (Value.ref 888) [_, Value.int 4 _]) _ _ _)); (with_reducible show wpAny _ _ (call (Value.ref 888) [_, Value.int _ _]) _ _ _); k_dflt (refine' c_digit' ?B ?F ?X ?N ?T rfl ?hd ?hu ?U ?x ?y ?z ?k0 ?k5 ?_; (case B => k_asm); (case F => k_asm); (case X => k_asm); (case N => k_asm); (case T => k_asm); (case hd => ktr_room); (case hu => ktr_units); (case U => k_updF); (case x => assumption); (case y => assumption); (case z => assumption); (case k0 => decide); (case k5 => decide)); intro r' tr' x' y' tx' ty' n' h' tk' r0 r1 x0 y0 y1 F' N'; (try dsimp only at N'); k_steps))
    (rename Fr _ _ _ _ => f9)
    (rename News _ _ _ _ => n9)
    refine ret _ _ _ _ _ _ _ _ _ _ _ (.inl rfl) ?_ ?_ ?_ ?_ ?_ f9 (news_T n9)
    · assumption
    · omega
    · assumption
    · assumption
    · assumption
  · (rename Fr _ _ _ _ => f9)
    (rename News _ _ _ _ => n9)
    refine hold (kmk_add_lit (its := #[.ref va]) (its2 := ss.toArray) (zs := [.ref va] ++ ss) f9 n9 (by kmk_list) (by kmk_list) rfl ?_ hsz')
    clear f9 n9
    intro D h' F' N' l1
    k_lt l1
    k_steps
    repeat (any_goals ((with_reducible refine hold_un ?_); (fail_if_success (with_reducible show wpAny _ _ (call (Value.ref 888) [_, Value.int 3 _]) _ _ _)); (fail_if_success (with_reducible show wpAny _ _ (call (Value.ref 888) [_, Value.int 4 _]) _ _ _)); (with_reducible show wpAny _ _ (call (Value.ref 888) [_, Value.int _ _]) _ _ _); k_dflt (refine' c_digit' ?B ?F ?X ?N ?T rfl ?hd ?hu ?U ?x ?y ?z ?k0 ?k5 ?_; (case B => k_asm); (case F => k_asm); (case X => k_asm); (case N => k_asm); (case T => k_asm); (case hd => ktr_room); (case hu => ktr_units); (case U => k_updF); (case x => assumption); (case y => assumption); (case z => assumption); (case k0 => decide); (case k5 => decide)); intro r' tr' x' y' tx' ty' n' h' tk' r0 r1 x0 y0 y1 F' N'; (try dsimp only at N'); k_steps))
    (rename Fr _ _ _ _ => f9)
    (rename News _ _ _ _ => n9)
    refine ret _ _ _ _ _ _ _ _ _ _ _ (.inr rfl) ?_ ?_ ?_ ?_ ?_ f9 (news_T n9)
    · assumption
    · omega
    · assumption
    · assumption
    · assumption
end
section
open PySem PySem.Spec PySem.Calls PySem.W PyProof.Rows
theorem c_tailG {w : World} {dp un : Nat} {gd : Option (List Code)} {fa L l im tx va ra da db ls : Addr} {A₀ : Around} {h₀ : Heap} {mg mb : Str → Option Value} {mean : ExcName → Option Value} {oI oV oP : Obj} {xP : Option Value} {i n nt nd nb : Nat} {x y kk kt : Int} {t tk tkk td tx₁ ty t1 t2 : Tok} {ps : Array Value} {u : Str → Option Value} {d d' : Dm} {vs : List Value} {r own : List (Addr × Obj)} {s₀ : Shared} {h : Heap} {tk₀ : Nat} {Q : Flow → Shared → Prop} {E : Value → Shared → Prop}
    (B : Below A₀ h₀ [] h₀) (X : (KK w.params).In h₀) (T : Top topProg LL mean mg mb h₀) (hdp : dp + 260 < recursionLimit) (hun : un + 2600 < cLine) (h911 : @LT.lt Nat _ 911 L) (hl : @LT.lt Nat _ (L + 1 + 1 + 1) l) (dI : oI.data = .cell (some (.ref im))) (dV : oV.data = .cell (some (.ref va))) (dP : oP.data = .cell xP)
    (ho : OwnOff own [L + 1 + 1 + 1, L + 1 + 1, L + 1, 911, l]) (hoff : OwnOff own (r.map (·.1))) (x0 : 0 ≤ x) (y0 : 0 ≤ y) (y1 : y < 2147483700) (D3 : DIn r (.ref va) d) (hlv : d.lv ≤ 60) (hinn : d.inn) (hcnt : d.cnt ≤ 200 + 4 * i) (I3 : ImgIn w r im) (hT : (tx, tupO [.str (Str.ofString "text") t1, .bytes txtB' t2] nt) ∈ r) (hps : TriplesOk ps.toList) (hco : Codes lawQ r ps.toList)
    (r1 : ∀ q ∈ r, (@Ne Nat q.1 (L + 1 + 1 + 1))) (r2 : ∀ q ∈ r, (@Ne Nat q.1 (L + 1 + 1))) (r3 : ∀ q ∈ r, (@Ne Nat q.1 (L + 1))) (r4 : ∀ q ∈ r, (@Ne Nat q.1 911)) (r5 : ∀ q ∈ r, (@Ne Nat q.1 l))
    (F : Fr h₀ L h (fun y => if y = Str.ofString "told" then some (.ref ra) else if y = Str.ofString "due" then some (.ref da) else if y = Str.ofString "later" then some (.int kk tkk) else if y = Str.ofString "some" then some (.ref ls) else if y = Str.ofString "elder" then some (.ref va) else if y = Str.ofString "turn" then some (.int kt t) else LwM l tx ((Dm.lv d : Nat) : Int) tk u y))
    (N : News h₀ L h ((da, tupO [.str (Str.ofString "tuple") td, .ref db] nd) :: (db, tupO vs nb) :: (L + 1 + 1 + 1, oV) :: (L + 1 + 1, oP) :: (L + 1, oI) :: (911, tabObj ps) :: (l, listOf #[.int x tx₁, .int y ty] n) :: (r ++ own)))
    (hda : @LT.lt Nat _ l da ∧ @LT.lt Nat _ l db) (eQ : ∀ f s', InvEndG h₀ L (LwJ w lawQ L l im tx oI (i + 1)) own s₀ s' → f = .next ∨ f = .cont → Q f s')
    (hV : TupV r (.ref ra) vs) (hP : PartsIn r vs d') (hkk : kk = ((Dm.lv d' : Nat) : Int)) (hg : d'.good 1) (hcnt' : d'.cnt ≤ 200 + 4 * (i + 1)) :
    wpAny (model PySem.Challenge.rw_sf0048_01.row.prog w) (ktrTop dp un gd (Str.ofString "law") lawScope L fa (.ref 915) (cellsFrom (L + 1) lawScope.names []) []) (execs (lawTurn.drop 2) (envX (Str.ofString "law") lawScope L fa (.ref 915) (cellsFrom (L + 1) lawScope.names []))) Q E { s₀ with heap := h, toks := tk₀ } := by
  have hg2 := (d'.good_iff 1).mp hg
  have hk60 : kk ≤ 60 := by first | walk_report | k_slotget | omega
  have o1 := all_app r1 (ho.ne (.head _))
  have o2 := all_app r2 (ho.ne (.tail _ (.head _)))
  have o3 := all_app r3 (ho.ne (.tail _ (.tail _ (.head _))))
  have o4 := all_app r4 (ho.ne (.tail _ (.tail _ (.tail _ (.head _)))))
  have o5 := all_app r5 (ho.ne (.tail _ (.tail _ (.tail _ (.tail _ (.head _))))))
  generalize hb : lawTurn.drop 2 = b
  generalize hsc : lawScope = sc
  conv at hb => lhs; whnf
  conv at hsc => lhs; whnf
  subst hb hsc
  revert X
  (w_top off; k_fill)
  intro X
  have hm0 : HKey "compareOp NotEq ref ref" := .mk
  have hm1 : HKey "eval Lambda" := .mk
  have hm2 : HC 909 := .mk
  have hm3 : HI 3 := .mk
  k_steps
  (rename News _ _ _ _ => n7)
  refine hold (ne_tuple n7 (hV.mono (by repeat (first | exact (fun q hq => List.mem_append_left _ hq) | refine sub_cons ?_))) (by k_mem) (by k_mem) (by ktr_units) ?_)
  k_steps
  (rename News _ _ _ _ => n6)
  refine hold (ne_same n6 (D3.mono (by repeat (first | exact (fun q hq => List.mem_append_left _ hq) | refine sub_cons ?_))) (by ktr_units) ?_)
  k_steps
  (rename Fr _ _ _ _ => f5)
  (rename News _ _ _ _ => n5)
  (rename Obj.data _ = Data.cell (some (Value.ref ra)) => dV')
  refine eQ _ _ ?_ (.inl rfl)
  refine' turn_end (r := r) (d := d') f5 n5 ?e1 ?e2 ?e3 ?e4 ?e5 ?e6 ?e7 rfl rfl rfl hkk dV' dP x0 y0 y1 (hP.din hV) ?e11 hg2.1 ?e12 I3 hT hps hco r1 r2 r3 r4 r5 ho hoff
  case e1 => k_mem
  case e2 => k_mem
  case e3 => k_mem
  case e4 => k_mem
  case e5 => k_mem
  case e6 => repeat (first | exact (fun q hq => List.mem_append_left _ hq) | refine sub_cons ?_)
  case e7 => repeat (first | exact (fun q hq => List.mem_append_right _ hq) | refine sub_cons ?_)
  case e11 => omega
  case e12 => omega
theorem c_tailR {w : World} {dp un : Nat} {gd : Option (List Code)} {fa L l im tx va ra da db ls : Addr} {A₀ : Around} {h₀ : Heap} {mg mb : Str → Option Value} {mean : ExcName → Option Value} {oI oV oP : Obj} {xP : Option Value} {i n nt nd nb : Nat} {x y kk kt : Int} {t tk tkk td tx₁ ty t1 t2 : Tok} {ps : Array Value} {u : Str → Option Value} {d d' : Dm} {vs : List Value} {r own : List (Addr × Obj)} {s₀ : Shared} {h : Heap} {tk₀ : Nat} {Q : Flow → Shared → Prop} {E : Value → Shared → Prop}
    (B : Below A₀ h₀ [] h₀) (X : (KK w.params).In h₀) (T : Top topProg LL mean mg mb h₀) (hdp : dp + 260 < recursionLimit) (hun : un + 2600 < cLine) (h911 : @LT.lt Nat _ 911 L) (hl : @LT.lt Nat _ (L + 1 + 1 + 1) l) (dI : oI.data = .cell (some (.ref im))) (dV : oV.data = .cell (some (.ref va))) (dP : oP.data = .cell xP)
    (ho : OwnOff own [L + 1 + 1 + 1, L + 1 + 1, L + 1, 911, l]) (hoff : OwnOff own (r.map (·.1))) (x0 : 0 ≤ x) (y0 : 0 ≤ y) (y1 : y < 2147483700) (D3 : DIn r (.ref va) d) (hlv : d.lv ≤ 60) (hinn : d.inn) (hcnt : d.cnt ≤ 200 + 4 * i) (I3 : ImgIn w r im) (hT : (tx, tupO [.str (Str.ofString "text") t1, .bytes txtB' t2] nt) ∈ r) (hps : TriplesOk ps.toList) (hco : Codes lawQ r ps.toList)
    (r1 : ∀ q ∈ r, (@Ne Nat q.1 (L + 1 + 1 + 1))) (r2 : ∀ q ∈ r, (@Ne Nat q.1 (L + 1 + 1))) (r3 : ∀ q ∈ r, (@Ne Nat q.1 (L + 1))) (r4 : ∀ q ∈ r, (@Ne Nat q.1 911)) (r5 : ∀ q ∈ r, (@Ne Nat q.1 l))
    (F : Fr h₀ L h (fun y => if y = Str.ofString "told" then some (.ref ra) else if y = Str.ofString "due" then some (.ref da) else if y = Str.ofString "later" then some (.int kk tkk) else if y = Str.ofString "some" then some (.ref ls) else if y = Str.ofString "elder" then some (.ref va) else if y = Str.ofString "turn" then some (.int kt t) else LwM l tx ((Dm.lv d : Nat) : Int) tk u y))
    (N : News h₀ L h ((da, tupO [.str (Str.ofString "tuple") td, .ref db] nd) :: (db, tupO vs nb) :: (L + 1 + 1 + 1, oV) :: (L + 1 + 1, oP) :: (L + 1, oI) :: (911, tabObj ps) :: (l, listOf #[.int x tx₁, .int y ty] n) :: (r ++ own)))
    (hda : @LT.lt Nat _ l da ∧ @LT.lt Nat _ l db) (eQ : ∀ f s', InvEndG h₀ L (LwJ w lawQ L l im tx oI (i + 1)) own s₀ s' → f = .next ∨ f = .cont → Q f s')
    (hV : RefusedV r (.ref ra)) (hk61 : 60 < kk) :
    wpAny (model PySem.Challenge.rw_sf0048_01.row.prog w) (ktrTop dp un gd (Str.ofString "law") lawScope L fa (.ref 915) (cellsFrom (L + 1) lawScope.names []) []) (execs (lawTurn.drop 2) (envX (Str.ofString "law") lawScope L fa (.ref 915) (cellsFrom (L + 1) lawScope.names []))) Q E { s₀ with heap := h, toks := tk₀ } := by
  have o1 := all_app r1 (ho.ne (.head _))
  have o2 := all_app r2 (ho.ne (.tail _ (.head _)))
  have o3 := all_app r3 (ho.ne (.tail _ (.tail _ (.head _))))
  have o4 := all_app r4 (ho.ne (.tail _ (.tail _ (.tail _ (.head _)))))
  have o5 := all_app r5 (ho.ne (.tail _ (.tail _ (.tail _ (.tail _ (.head _))))))
  generalize hb : lawTurn.drop 2 = b
  generalize hsc : lawScope = sc
  conv at hb => lhs; whnf
  conv at hsc => lhs; whnf
  subst hb hsc
  revert X
  (w_top off; k_fill)
  intro X
  have hm0 : HKey "compareOp NotEq ref ref" := .mk
  have hm1 : HKey "eval Lambda" := .mk
  have hm2 : HC 909 := .mk
  have hm3 : HI 3 := .mk
  k_steps
  (rename News _ _ _ _ => n7)
  refine hold (ne_refused n7 (hV.mono (by repeat (first | exact (fun q hq => List.mem_append_left _ hq) | refine sub_cons ?_))) (by k_mem) (by k_mem) (by k_mem) (tupK (Frag.In.keeps (by k_asm) (Fr.keep (by k_asm))) (by k_is)) rfl (by k_mem) (by repeat (first | exact List.mem_append_left _ hT | apply List.Mem.tail)) (by ktr_units) ?_)
  k_steps
  (rename Fr _ _ _ _ => f5)
  (rename News _ _ _ _ => n5)
  refine eQ _ _ ?_ (.inr rfl)
  refine' turn_end (r := r) (d := d) f5 n5 ?e1 ?e2 ?e3 ?e4 ?e5 ?e6 ?e7 rfl rfl rfl rfl dV dP x0 y0 y1 D3 ?e11 hinn ?e12 I3 hT hps hco r1 r2 r3 r4 r5 ho hoff
  case e1 => k_mem
  case e2 => k_mem
  case e3 => k_mem
  case e4 => k_mem
  case e5 => k_mem
  case e6 => repeat (first | exact (fun q hq => List.mem_append_left _ hq) | refine sub_cons ?_)
  case e7 => repeat (first | exact (fun q hq => List.mem_append_right _ hq) | refine sub_cons ?_)
  case e11 => omega
  case e12 => omega
end
section
open PySem PySem.Spec PySem.Calls PySem.W PyProof.Rows
local macro_rules | `(tactic| walk_at "callWith ref") => `(tactic| k_dflt (refine callWith_K (by k_asm) (by k_is) ?_))
section
open PySem PySem.Spec PySem.Calls PySem.W PyProof.Rows
noncomputable def lawAsB : Stmt := match (lawArms.2[2]? : Option Stmt) with
  | some s => s
  | _ => .Pass ⟨0, 0, 0, 0⟩
theorem parts_refs {led : List (Addr × Obj)} {vs : List Value} {d : Dm} (h : PartsIn led vs d) : ∀ v ∈ vs, ∃ a, v = .ref a := by
  cases h with
  | one a => exact List.forall_mem_cons.mpr ⟨a.handed, fun _ h => nomatch h⟩
  | two a b => exact List.forall_mem_cons.mpr ⟨a.handed, List.forall_mem_cons.mpr ⟨b.handed, fun _ h => nomatch h⟩⟩
  | three a b c => exact List.forall_mem_cons.mpr ⟨a.handed, List.forall_mem_cons.mpr ⟨b.handed, List.forall_mem_cons.mpr ⟨c.handed, fun _ h => nomatch h⟩⟩⟩
theorem stays_refs {vs : List Value} {n : Nat} (h : ∀ v ∈ vs, ∃ a, v = .ref a) : Stays (listOf vs.toArray n) := ⟨fun x e => (by cases e), fun x e => (by cases e), fun x y tx ty m e => by
  have e2 := congrArg (fun o : Obj => match o.data with | .seq a _ => a.toList | _ => []) e
  have e3 : vs = [.int x tx, .int y ty] := e2
  obtain ⟨a, ha⟩ := h (.int x tx) (by rw [e3]; exact .head _)
  cases ha⟩
theorem PartsIn.stay {led led' : List (Addr × Obj)} {vs : List Value} {d : Dm} (h : PartsIn led vs d) (hs : ∀ q ∈ led, Stays q.2 → q ∈ led') : PartsIn led' vs d := by
  cases h with
  | one a => exact .one (a.stay hs)
  | two a b => exact .two (a.stay hs) (b.stay hs)
  | three a b c => exact .three (a.stay hs) (b.stay hs) (c.stay hs)
theorem mx1 {a n : Nat} {k : Int} (e : k = (n : Int)) (h : k > (a : Int)) : 1 + k = 1 + ((max a n : Nat) : Int) := by
  subst e; rw [Nat.max_eq_right (Nat.le_of_lt (Int.ofNat_lt.mp h))]
theorem mx2 {a n : Nat} {k : Int} (e : k = (n : Int)) (h : ¬ k > (a : Int)) : 1 + (a : Int) = 1 + ((max a n : Nat) : Int) := by
  subst e; rw [Nat.max_eq_left (Int.ofNat_le.mp (Int.not_lt.mp h))]
theorem c_assignB {w : World} {dp un : Nat} {gd : Option (List Code)} {fa L l im tx va lp ls : Addr} {A₀ : Around} {h₀ : Heap} {mg mb : Str → Option Value} {mean : ExcName → Option Value} {oI oV oP : Obj} {i n nt np ns : Nat} {x y kt : Int} {t tk tx₁ ty t1 t2 : Tok} {ps : Array Value} {u : Str → Option Value} {d d' : Dm} {vs ss : List Value} {r own ext : List (Addr × Obj)} {s₀ : Shared} {h : Heap} {tk₀ : Nat} {Q : Flow → Shared → Prop} {E : Value → Shared → Prop}
    (B : Below A₀ h₀ [] h₀) (X : (KK w.params).In h₀) (T : Top topProg LL mean mg mb h₀) (C : CodeHd h₀ 915 911) (hdp : dp + 260 < recursionLimit) (hun : un + 2600 < cLine) (h911 : @LT.lt Nat _ 911 L) (hl : @LT.lt Nat _ (L + 1 + 1 + 1) l) (hlp : @LT.lt Nat _ l lp) (hls : @LT.lt Nat _ l ls) (dI : oI.data = .cell (some (.ref im))) (dV : oV.data = .cell (some (.ref va))) (dP : oP.data = .cell (some (.ref lp)))
    (ho : OwnOff own [L + 1 + 1 + 1, L + 1 + 1, L + 1, 911, l]) (hown : OwnIter own) (D3 : DIn r (.ref va) d) (I3 : ImgIn w r im) (hT : (tx, tupO [.str (Str.ofString "text") t1, .bytes txtB' t2] nt) ∈ r) (hps : TriplesOk ps.toList) (hco : Codes lawQ r ps.toList) (r4 : ∀ q ∈ r, (@Ne Nat q.1 911)) (x4 : ∀ q ∈ ext, (@Ne Nat q.1 911))
    (hP : PartsIn (ext ++ (r ++ own)) vs d') (hss : ss.length + 1 = vs.length) (hsr : ∀ v ∈ ss, ∃ a, v = .ref a) (hcd : d'.cnt ≤ 4000)
    (F : Fr h₀ L h (fun y => if y = Str.ofString "some" then some (.ref ls) else if y = Str.ofString "elder" then some (.ref va) else if y = Str.ofString "turn" then some (.int kt t) else LwM l tx ((Dm.lv d : Nat) : Int) tk u y))
    (N : News h₀ L h ((lp, listOf vs.toArray np) :: (ls, listOf ss.toArray ns) :: (L + 1 + 1 + 1, oV) :: (L + 1 + 1, oP) :: (L + 1, oI) :: (911, tabObj ps) :: (l, listOf #[.int x tx₁, .int y ty] n) :: (ext ++ (r ++ own))))
    (ret : ∀ told h' tk' tkk td da db nd nb kk ps' r', (d'.good 1 ∧ TupV r' (.ref told) vs) ∨ (¬ d'.good 1 ∧ RefusedV r' (.ref told)) → PartsIn r' vs d' → kk = 1 + ((max d.lv ss.length : Nat) : Int) → OwnOff own (r'.map (·.1)) → DIn r' (.ref va) d → ImgIn w r' im → (tx, tupO [.str (Str.ofString "text") t1, .bytes txtB' t2] nt) ∈ r' → TriplesOk ps'.toList → Codes lawQ r' ps'.toList →
      (∀ p ∈ [(L + 1 + 1 + 1, oV), (L + 1 + 1, oP), (L + 1, oI), (911, tabObj ps'), (l, listOf #[.int x tx₁, .int y ty] n)], ∀ q ∈ r', (@Ne Nat q.1 p.1)) →
      Fr h₀ L h' (fun y => if y = Str.ofString "told" then some (.ref told) else if y = Str.ofString "due" then some (.ref da) else if y = Str.ofString "later" then some (.int kk tkk) else if y = Str.ofString "some" then some (.ref ls) else if y = Str.ofString "elder" then some (.ref va) else if y = Str.ofString "turn" then some (.int kt t) else LwM l tx ((Dm.lv d : Nat) : Int) tk u y) →
      News h₀ L h' ((da, tupO [.str (Str.ofString "tuple") td, .ref db] nd) :: (db, tupO vs nb) :: (L + 1 + 1 + 1, oV) :: (L + 1 + 1, oP) :: (L + 1, oI) :: (911, tabObj ps') :: (l, listOf #[.int x tx₁, .int y ty] n) :: (r' ++ own)) → (@LT.lt Nat _ l da ∧ @LT.lt Nat _ l db) → Q .next { s₀ with heap := h', toks := tk' }) :
    wpAny (model PySem.Challenge.rw_sf0048_01.row.prog w) (ktrTop dp un gd (Str.ofString "law") lawScope L fa (.ref 915) (cellsFrom (L + 1) lawScope.names []) []) (exec lawAsB (envX (Str.ofString "law") lawScope L fa (.ref 915) (cellsFrom (L + 1) lawScope.names []))) Q E { s₀ with heap := h, toks := tk₀ } := by
  have x4' := all_app x4 (all_app r4 (ho.ne (.tail _ (.tail _ (.tail _ (.head _))))))
  generalize hb : lawAsB = b
  generalize hsc : lawScope = sc
  conv at hb => lhs; whnf
  conv at hsc => lhs; whnf
  subst hb hsc
  revert X
  (w_top off; k_fill)
  intro X
  have hm0 : HKey "compareOp NotEq ref ref" := .mk
  have hm1 : HKey "eval Lambda" := .mk
  have hm2 : HC 909 := .mk
  have hm3 : HI 3 := .mk
  have XB := X
  have TB := T
  k_steps
  (rename Fr _ _ _ _ => f9)
  (rename News _ _ _ _ => n9)
  refine hold (kla_eval rfl (lam_any' (P := 911) f9 n9 (by k_updF) (by k_asm) C rfl hps (hco.mono (by repeat (first | exact (fun q hq => List.mem_append_right _ (List.mem_append_left _ hq)) | refine sub_cons ?_))) rfl ?_))
  clear f9 n9
  intro f c' oc vs9 t9 ctv ps' add h' tk' F' N' k1 k2 k3 k4 k5 k6 k7 k8
  clear k1 k2 k3
  try dsimp only at N'
  try dsimp only at k5
  try dsimp only at k6
  k_steps
  (rename News _ _ _ _ => n8)
  have up := up_of n8
  have mlp := up _ (.head _)
  have mls := up _ (.tail _ (.head _))
  have mV := up _ (.tail _ (.tail _ (.head _)))
  have mP := up _ (.tail _ (.tail _ (.tail _ (.head _))))
  have mI := up _ (.tail _ (.tail _ (.tail _ (.tail _ (.head _)))))
  have mT := up _ (.tail _ (.tail _ (.tail _ (.tail _ (.tail _ (.head _))))))
  have mL := up _ (.tail _ (.tail _ (.tail _ (.tail _ (.tail _ (.tail _ (.head _)))))))
  have me : ∀ q ∈ ext ++ (r ++ own), q ∈ _ := fun q hq => up q (.tail _ (.tail _ (.tail _ (.tail _ (.tail _ (.tail _ (.tail _ hq)))))))
  have mr : ∀ q ∈ r, q ∈ _ := fun q hq => me q (List.mem_append_right _ (List.mem_append_left _ hq))
  have mo : ∀ q ∈ own, q ∈ _ := fun q hq => me q (List.mem_append_right _ (List.mem_append_right _ hq))
  clear up
  refine hold (c_told (V := fun nx z => TupV nx z vs) (Good := d'.good 1) (by k_asm) (by k_asm) (by k_asm) (by k_asm) n8 (by k_asm) (by k_asm) rfl (by ktr_room) (by ktr_units) ⟨_, _, _, .head _⟩ (work_lam (.head _) (.tail _ k6) k7 k8 rfl rfl rfl rfl (by decide) ?_) ?_)
  · exact body_tuple mI mP dI dP mlp (hP.mono me) hcd
  · intro r9 h9 tk9 nx9 F9 N9 sub9 hv9
    have hPr := parts_refs hP
    obtain ⟨r', Nr, rne, hoff, rin⟩ := renormT (own := own) N9 (mem5 (sub9 _ mV) (sub9 _ mP) (sub9 _ mI) (sub9 _ mT) (sub9 _ mL)) (mem5 (turns_cell dV) (turns_cell dP) (turns_cell dI) (turns_tab k4) (turns_src _ _ _ _ _)) (fun q hq => sub9 q (mo q hq)) hown
    have I4 := (I3.mono fun q hq => sub9 q (mr q hq)).stay rin
    have D4 := (D3.mono fun q hq => sub9 q (mr q hq)).stay rin
    have T4 := tup_stay (sub9 _ (mr _ hT)) rin
    have C4 := (k5.mono fun q hq => sub9 q (.tail _ hq)).stay rin
    have P4 := (hP.mono fun q hq => sub9 q (me q hq)).stay rin
    have lpr := rin _ (sub9 _ mlp) (stays_refs hPr)
    have lsr := rin _ (sub9 _ mls) (stays_refs hsr)
    have hv4 : (d'.good 1 ∧ TupV r' r9 vs) ∨ (¬ d'.good 1 ∧ RefusedV r' r9) := hv9.elim (fun z => .inl ⟨z.1, z.2.stay rin⟩) fun z => .inr ⟨z.1, z.2.stay rin⟩
    obtain ⟨ra, rfl⟩ : ∃ a, r9 = .ref a := by
      rcases hv4 with ⟨_, a, _, _, _, _, e, _⟩ | ⟨_, a, _, _, _, e, _⟩
      · exact ⟨a, e⟩
      · exact ⟨a, e⟩
    simp only [List.cons_append, List.nil_append] at Nr
    have N4 := news_3 Nr (.tail _ (.tail _ (.tail _ (.tail _ (.tail _ (List.mem_append_left _ lpr)))))) (.tail _ (.tail _ (.tail _ (.tail _ (.tail _ (List.mem_append_left _ lsr)))))) sub_self
    clear N9 n8 mlp mls mV mP mI mT mL me mr mo sub9 hv9 k5 k6 k7 k8 I3 D3 hT hco Nr lpr lsr rin hP hPr x4 x4' r4
    have P5 := P4
    cases P4
    all_goals (
      rcases ss with _ | ⟨sa, _ | ⟨sb, _ | ⟨sc, sz⟩⟩⟩ <;> first | (exfalso; simp at hss; done) | skip)
    all_goals k_steps
    all_goals (
      (rename Fr _ _ _ _ => f5)
      (rename News _ _ _ _ => n5)
      exact ret _ _ _ _ _ _ _ _ _ _ _ _ hv4 P5 (by simp only [List.length_nil, List.length_cons]; split <;> rename_i h9 <;> first | exact mx1 rfl h9 | exact mx2 rfl h9 | omega) hoff D4 I4 T4 k4 C4 rne f5 (fun q hq => n5 q (List.forall_mem_cons.mpr ⟨by k_mem, List.forall_mem_cons.mpr ⟨by k_mem, List.forall_mem_cons.mpr ⟨by k_mem, List.forall_mem_cons.mpr ⟨by k_mem, List.forall_mem_cons.mpr ⟨by k_mem, List.forall_mem_cons.mpr ⟨by k_mem, List.forall_mem_cons.mpr ⟨by k_mem, by repeat (first | exact sub_self | refine sub_cons ?_)⟩⟩⟩⟩⟩⟩⟩ q hq)) ⟨by first | walk_report | k_slotget | omega, by first | walk_report | k_slotget | omega⟩)
end
section
open PySem PySem.Spec PySem.Calls PySem.W PyProof.Rows
theorem c_turn {w : World} {dp un : Nat} {gd : Option (List Code)} {fa L l im tx : Addr} {A₀ : Around} {h₀ : Heap} {mg mb : Str → Option Value} {mean : ExcName → Option Value} {oI : Obj} {i : Nat} {t : Tok} {m₁ : Str → Option Value} {nx own : List (Addr × Obj)} {h : Heap} {tk₁ : Nat} {s : Shared} {Q : Flow → Shared → Prop} {E : Value → Shared → Prop}
    (B : Below A₀ h₀ [] h₀) (X : (KK w.params).In h₀) (T : Top topProg LL mean mg mb h₀) (C : CodeHd h₀ 915 911) (hdp : dp + 260 < recursionLimit) (hun : un + 2600 < cLine) (h911 : @LT.lt Nat _ 911 L) (hl : @LT.lt Nat _ (L + 1 + 1 + 1) l) (dI : oI.data = .cell (some (.ref im)))
    (hi : i < 4) (ho : OwnOff own (nx.map (·.1))) (hown : OwnIter own) (J : LwJ w lawQ L l im tx oI i m₁ nx) (F : Fr h₀ L h (fun y => if y = Str.ofString "turn" then some (.int (0 + (i : Int)) t) else m₁ y)) (N : News h₀ L h (nx ++ own)) :
    wpAny (model PySem.Challenge.rw_sf0048_01.row.prog w) (ktrTop dp un gd (Str.ofString "law") lawScope L fa (.ref 915) (cellsFrom (L + 1) lawScope.names []) []) (execs lawTurn (envX (Str.ofString "law") lawScope L fa (.ref 915) (cellsFrom (L + 1) lawScope.names [])))
      (InvPostG h₀ L (LwJ w lawQ L l im tx oI (i + 1)) own { s with heap := h, toks := tk₁ } Q) E { s with heap := h, toks := tk₁ } := by
  obtain ⟨va, d, oV, oP, xP, ps, x, y, tx₁, ty, n, tk, u, r, t1, t2, nt, rfl, rfl, dV, dP, x0, y0, y1, D3, hlv, hinn, hcnt, I3, hT, hps, hco, hr1, hr2, hr3, hr4, hr5⟩ := J
  have o1 := all_app hr1 (ho.ne (.head _))
  have o2 := all_app hr2 (ho.ne (.tail _ (.head _)))
  have o3 := all_app hr3 (ho.ne (.tail _ (.tail _ (.head _))))
  have o4 := all_app hr4 (ho.ne (.tail _ (.tail _ (.tail _ (.head _)))))
  have o5 := all_app hr5 (ho.ne (.tail _ (.tail _ (.tail _ (.tail _ (.head _))))))
  simp only [List.cons_append] at N
  generalize hb : lawTurn = b
  generalize hsc : lawScope = sc
  conv at hb => lhs; whnf
  conv at hsc => lhs; whnf
  subst hb hsc
  revert X
  (w_top off; k_fill)
  intro X
  have hm0 : HKey "compareOp NotEq ref ref" := .mk
  have hm1 : HKey "eval Lambda" := .mk
  have hm2 : HC 909 := .mk
  have hm3 : HI 3 := .mk
  have hm4 : HI 4 := .mk
  have hm5 : HKey "exec Assign cons Subscript" := .mk
  have hm6 : HKey "exec Assign cons IfExp" := .mk
  have XB := X
  have TB := T
  k_steps
  repeat (any_goals ((with_reducible refine hold_un ?_); (fail_if_success (with_reducible show wpAny _ _ (call (Value.ref 888) [_, Value.int 3 _]) _ _ _)); (fail_if_success (with_reducible show wpAny _ _ (call (Value.ref 888) [_, Value.int 4 _]) _ _ _)); (with_reducible show wpAny _ _ (call (Value.ref 888) [_, Value.int _ _]) _ _ _); k_dflt (refine' c_digit' ?B ?F ?X ?N ?T rfl ?hd ?hu ?U ?x ?y ?z ?k0 ?k5 ?_; (case B => k_asm); (case F => k_asm); (case X => k_asm); (case N => k_asm); (case T => k_asm); (case hd => ktr_room); (case hu => ktr_units); (case U => k_updF); (case x => assumption); (case y => assumption); (case z => assumption); (case k0 => decide); (case k5 => decide)); intro r' tr' x' y' tx' ty' n' h' tk' r0 r1 x0 y0 y1 F' N'; (try dsimp only at N'); k_steps))
  refine hold (c_digit' (by k_asm) (by k_asm) (by k_asm) (by k_asm) (by k_asm) rfl (by ktr_room) (by ktr_units) (by k_updF) x0 y0 y1 (by decide) (by decide) ?_)
  intro r4 tr4 x4 y4 tx4 ty4 n4 h4 tk4 r40 r41 x40 y40 y41 F4 N4
  try dsimp only at N4
  k_steps
  repeat (any_goals ((with_reducible refine hold_un ?_); (fail_if_success (with_reducible show wpAny _ _ (call (Value.ref 888) [_, Value.int 3 _]) _ _ _)); (fail_if_success (with_reducible show wpAny _ _ (call (Value.ref 888) [_, Value.int 4 _]) _ _ _)); (with_reducible show wpAny _ _ (call (Value.ref 888) [_, Value.int _ _]) _ _ _); k_dflt (refine' c_digit' ?B ?F ?X ?N ?T rfl ?hd ?hu ?U ?x ?y ?z ?k0 ?k5 ?_; (case B => k_asm); (case F => k_asm); (case X => k_asm); (case N => k_asm); (case T => k_asm); (case hd => ktr_room); (case hu => ktr_units); (case U => k_updF); (case x => assumption); (case y => assumption); (case z => assumption); (case k0 => decide); (case k5 => decide)); intro r' tr' x' y' tx' ty' n' h' tk' r0 r1 x0 y0 y1 F' N'; (try dsimp only at N'); k_steps))
  · (rename Fr _ _ _ _ => f9)
    (rename News _ _ _ _ => n9)
    refine hold (kla_eval rfl (lam_any' (P := 911) f9 n9 (by k_updF) (by k_asm) (by assumption) rfl hps (hco.mono (by repeat (first | exact (fun q hq => List.mem_append_left _ hq) | refine sub_cons ?_))) rfl ?_))
    clear f9 n9
    intro f c' oc vs t ctv ps' add h' tk' F' N' k1 k2 k3 k4 k5 k6 k7 k8
    clear k1 k2 k3
    try dsimp only at N'
    try dsimp only at k5
    try dsimp only at k6
    k_steps
    repeat (any_goals ((with_reducible refine hold_un ?_); (fail_if_success (with_reducible show wpAny _ _ (call (Value.ref 888) [_, Value.int 3 _]) _ _ _)); (fail_if_success (with_reducible show wpAny _ _ (call (Value.ref 888) [_, Value.int 4 _]) _ _ _)); (with_reducible show wpAny _ _ (call (Value.ref 888) [_, Value.int _ _]) _ _ _); k_dflt (refine' c_digit' ?B ?F ?X ?N ?T rfl ?hd ?hu ?U ?x ?y ?z ?k0 ?k5 ?_; (case B => k_asm); (case F => k_asm); (case X => k_asm); (case N => k_asm); (case T => k_asm); (case hd => ktr_room); (case hu => ktr_units); (case U => k_updF); (case x => assumption); (case y => assumption); (case z => assumption); (case k0 => decide); (case k5 => decide)); intro r' tr' x' y' tx' ty' n' h' tk' r0 r1 x0 y0 y1 F' N'; (try dsimp only at N'); k_steps))
    (rename News _ _ _ _ => n8)
    have up := up_of n8
    have mV := up _ (.head _)
    have mP := up _ (.tail _ (.head _))
    have mI := up _ (.tail _ (.tail _ (.head _)))
    have mT := up _ (.tail _ (.tail _ (.tail _ (.head _))))
    have mL := up _ (.tail _ (.tail _ (.tail _ (.tail _ (.head _)))))
    have mr : ∀ q ∈ r, q ∈ _ := fun q hq => up q (.tail _ (.tail _ (.tail _ (.tail _ (.tail _ (List.mem_append_left _ hq))))))
    have mo : ∀ q ∈ own, q ∈ _ := fun q hq => up q (.tail _ (.tail _ (.tail _ (.tail _ (.tail _ (List.mem_append_right _ hq))))))
    clear up
    refine hold (c_told (V := fun nx z => StV nx z (.ref va)) (Good := True) (by k_asm) (by k_asm) (by k_asm) (by k_asm) n8 (by k_asm) (by k_asm) rfl (by ktr_room) (by ktr_units) ⟨_, _, _, .head _⟩ (work_lam (.head _) (.tail _ k6) k7 k8 rfl rfl rfl rfl (by decide) ?_) ?_)
    · exact body_new mI mV dI dV (I3.mono mr) (D3.mono mr) hlv hinn (by first | walk_report | k_slotget | omega)
    · intro r9 h9 tk9 nx9 F9 N9 sub9 hv9
      rcases hv9 with ⟨_, hv9⟩ | ⟨hb, _⟩
      · obtain ⟨r', Nr, rne, hoff, rin⟩ := renormT (own := own) N9 (mem5 (sub9 _ mV) (sub9 _ mP) (sub9 _ mI) (sub9 _ mT) (sub9 _ mL)) (mem5 (turns_cell dV) (turns_cell dP) (turns_cell dI) (turns_tab k4) (turns_src _ _ _ _ _)) (fun q hq => sub9 q (mo q hq)) hown
        have I4 := (I3.mono fun q hq => sub9 q (mr q hq)).stay rin
        have D4 := (D3.mono fun q hq => sub9 q (mr q hq)).stay rin
        have S4 := hv9.stay rin
        have E4 := S4.din D4
        have T4 := tup_stay (sub9 _ (mr _ hT)) rin
        have C4 := (k5.mono fun q hq => sub9 q (.tail _ hq)).stay rin
        have p1 := all_app (rne _ (.head _)) (ho.ne (.head _))
        have p2 := all_app (rne _ (.tail _ (.head _))) (ho.ne (.tail _ (.head _)))
        have p3 := all_app (rne _ (.tail _ (.tail _ (.head _)))) (ho.ne (.tail _ (.tail _ (.head _))))
        have p4 := all_app (rne _ (.tail _ (.tail _ (.tail _ (.head _))))) (ho.ne (.tail _ (.tail _ (.tail _ (.head _)))))
        have p5 := all_app (rne _ (.tail _ (.tail _ (.tail _ (.tail _ (.head _)))))) (ho.ne (.tail _ (.tail _ (.tail _ (.tail _ (.head _))))))
        simp only [List.cons_append, List.nil_append] at Nr
        obtain ⟨ra, rfl⟩ := E4.handed
        clear N9 n8 mV mP mI mT mL mr mo sub9 hv9 k5 k6 k7 k8 I3 D3 hT hco o1 o2 o3 o4 o5
        k_steps
        repeat (any_goals ((with_reducible refine hold_un ?_); (fail_if_success (with_reducible show wpAny _ _ (call (Value.ref 888) [_, Value.int 3 _]) _ _ _)); (fail_if_success (with_reducible show wpAny _ _ (call (Value.ref 888) [_, Value.int 4 _]) _ _ _)); (with_reducible show wpAny _ _ (call (Value.ref 888) [_, Value.int _ _]) _ _ _); k_dflt (refine' c_digit' ?B ?F ?X ?N ?T rfl ?hd ?hu ?U ?x ?y ?z ?k0 ?k5 ?_; (case B => k_asm); (case F => k_asm); (case X => k_asm); (case N => k_asm); (case T => k_asm); (case hd => ktr_room); (case hu => ktr_units); (case U => k_updF); (case x => assumption); (case y => assumption); (case z => assumption); (case k0 => decide); (case k5 => decide)); intro r' tr' x' y' tx' ty' n' h' tk' r0 r1 x0 y0 y1 F' N'; (try dsimp only at N'); k_steps))
        (rename News _ _ _ _ => n7)
        refine hold (ne_struct n7 (S4.mono (by repeat (first | exact (fun q hq => List.mem_append_left _ hq) | refine sub_cons ?_))) (by k_mem) (by k_mem) rfl (by k_mem) (by ktr_units) ?_)
        k_steps
        repeat (any_goals ((with_reducible refine hold_un ?_); (fail_if_success (with_reducible show wpAny _ _ (call (Value.ref 888) [_, Value.int 3 _]) _ _ _)); (fail_if_success (with_reducible show wpAny _ _ (call (Value.ref 888) [_, Value.int 4 _]) _ _ _)); (with_reducible show wpAny _ _ (call (Value.ref 888) [_, Value.int _ _]) _ _ _); k_dflt (refine' c_digit' ?B ?F ?X ?N ?T rfl ?hd ?hu ?U ?x ?y ?z ?k0 ?k5 ?_; (case B => k_asm); (case F => k_asm); (case X => k_asm); (case N => k_asm); (case T => k_asm); (case hd => ktr_room); (case hu => ktr_units); (case U => k_updF); (case x => assumption); (case y => assumption); (case z => assumption); (case k0 => decide); (case k5 => decide)); intro r' tr' x' y' tx' ty' n' h' tk' r0 r1 x0 y0 y1 F' N'; (try dsimp only at N'); k_steps))
        (rename News _ _ _ _ => n6)
        refine hold (ne_same n6 (D4.mono (by repeat (first | exact (fun q hq => List.mem_append_left _ hq) | refine sub_cons ?_))) (by ktr_units) ?_)
        k_steps
        repeat (any_goals ((with_reducible refine hold_un ?_); (fail_if_success (with_reducible show wpAny _ _ (call (Value.ref 888) [_, Value.int 3 _]) _ _ _)); (fail_if_success (with_reducible show wpAny _ _ (call (Value.ref 888) [_, Value.int 4 _]) _ _ _)); (with_reducible show wpAny _ _ (call (Value.ref 888) [_, Value.int _ _]) _ _ _); k_dflt (refine' c_digit' ?B ?F ?X ?N ?T rfl ?hd ?hu ?U ?x ?y ?z ?k0 ?k5 ?_; (case B => k_asm); (case F => k_asm); (case X => k_asm); (case N => k_asm); (case T => k_asm); (case hd => ktr_room); (case hu => ktr_units); (case U => k_updF); (case x => assumption); (case y => assumption); (case z => assumption); (case k0 => decide); (case k5 => decide)); intro r' tr' x' y' tx' ty' n' h' tk' r0 r1 x0 y0 y1 F' N'; (try dsimp only at N'); k_steps))
        (rename Fr _ _ _ _ => f5)
        (rename News _ _ _ _ => n5)
        (rename Obj.data _ = Data.cell (some (Value.ref ra)) => dV')
        refine' turn_end (r := r') (d := .st d) f5 n5 ?e1 ?e2 ?e3 ?e4 ?e5 ?e6 ?e7 rfl rfl rfl rfl dV' dP ?e8 ?e9 ?e10 E4 ?e11 ⟨hinn, hlv⟩ ?e12 I4 T4 k4 C4 (rne _ (.head _)) (rne _ (.tail _ (.head _))) (rne _ (.tail _ (.tail _ (.head _)))) (rne _ (.tail _ (.tail _ (.tail _ (.head _))))) (rne _ (.tail _ (.tail _ (.tail _ (.tail _ (.head _)))))) (own5 ho) hoff
        case e1 => k_mem
        case e2 => k_mem
        case e3 => k_mem
        case e4 => k_mem
        case e5 => k_mem
        case e6 => repeat (first | exact (fun q hq => List.mem_append_left _ hq) | refine sub_cons ?_)
        case e7 => repeat (first | exact (fun q hq => List.mem_append_right _ hq) | refine sub_cons ?_)
        case e8 => assumption
        case e9 => assumption
        case e10 => assumption
        case e11 => simp only [Dm.lv]; omega
        case e12 => simp only [Dm.cnt]; omega
      · exact absurd trivial hb
  · (rename Fr _ _ _ _ => f9)
    (rename News _ _ _ _ => n9)
    refine hold ?_
    show wpAny _ (ktrTop dp un gd (Str.ofString "law") lawScope L fa (.ref 915) (cellsFrom (L + 1) lawScope.names []) []) (exec lawSomeB (envX (Str.ofString "law") lawScope L fa (.ref 915) (cellsFrom (L + 1) lawScope.names []))) _ _ _
    refine @c_someB w dp un gd fa L l tx va A₀ h₀ mg mb mean oI oV oP n4 x4 y4 _ _ _ _ tx4 ty4 ps u (r ++ own) _ _ _ _ _ B X T hdp hun h911 hl x40 y40 y41 o5 f9 n9 ?_
    clear f9 n9
    intro ss ext ls ns x5 y5 tx5 ty5 n5 h5 tk5 hS hx hls x50 y50 y51 F5 N5
    try dsimp only
    k_steps
    repeat (any_goals ((with_reducible refine hold_un ?_); (fail_if_success (with_reducible show wpAny _ _ (call (Value.ref 888) [_, Value.int 3 _]) _ _ _)); (fail_if_success (with_reducible show wpAny _ _ (call (Value.ref 888) [_, Value.int 4 _]) _ _ _)); (with_reducible show wpAny _ _ (call (Value.ref 888) [_, Value.int _ _]) _ _ _); k_dflt (refine' c_digit' ?B ?F ?X ?N ?T rfl ?hd ?hu ?U ?x ?y ?z ?k0 ?k5 ?_; (case B => k_asm); (case F => k_asm); (case X => k_asm); (case N => k_asm); (case T => k_asm); (case hd => ktr_room); (case hu => ktr_units); (case U => k_updF); (case x => assumption); (case y => assumption); (case z => assumption); (case k0 => decide); (case k5 => decide)); intro r' tr' x' y' tx' ty' n' h' tk' r0 r1 x0 y0 y1 F' N'; (try dsimp only at N'); k_steps))
    (rename Fr _ _ _ _ => f9)
    (rename News _ _ _ _ => n9)
    refine hold ?_
    show wpAny _ (ktrTop dp un gd (Str.ofString "law") lawScope L fa (.ref 915) (cellsFrom (L + 1) lawScope.names []) []) (exec lawPartsB (envX (Str.ofString "law") lawScope L fa (.ref 915) (cellsFrom (L + 1) lawScope.names []))) _ _ _
    refine c_partsB B (by k_asm) T hdp hun h911 hl hls dV dP hS.len x50 y50 y51 (all_app (ext_ne hx (by first | walk_report | k_slotget | omega)) o2) (all_app (ext_ne hx (by first | walk_report | k_slotget | omega)) o5) f9 n9 ?_
    clear f9 n9
    intro vs oP' lp np x6 y6 tx6 ty6 n6 h6 tk6 hv dP' hlp x60 y60 y61 F6 N6
    obtain ⟨d', hP, hlv', hinn', hcnt'⟩ := hS.parts (led := ext ++ (r ++ own)) (D3.mono fun q hq => List.mem_append_right _ (List.mem_append_left _ hq)) (fun q hq => List.mem_append_left _ hq) hv
    have hss : ss.length + 1 = vs.length := by rcases hv with rfl | rfl <;> simp [Nat.add_comm]
    have hm : HKey "exec Assign cons Tuple" := .mk
    try dsimp only
    k_steps
    repeat (any_goals ((with_reducible refine hold_un ?_); (fail_if_success (with_reducible show wpAny _ _ (call (Value.ref 888) [_, Value.int 3 _]) _ _ _)); (fail_if_success (with_reducible show wpAny _ _ (call (Value.ref 888) [_, Value.int 4 _]) _ _ _)); (with_reducible show wpAny _ _ (call (Value.ref 888) [_, Value.int _ _]) _ _ _); k_dflt (refine' c_digit' ?B ?F ?X ?N ?T rfl ?hd ?hu ?U ?x ?y ?z ?k0 ?k5 ?_; (case B => k_asm); (case F => k_asm); (case X => k_asm); (case N => k_asm); (case T => k_asm); (case hd => ktr_room); (case hu => ktr_units); (case U => k_updF); (case x => assumption); (case y => assumption); (case z => assumption); (case k0 => decide); (case k5 => decide)); intro r' tr' x' y' tx' ty' n' h' tk' r0 r1 x0 y0 y1 F' N'; (try dsimp only at N'); k_steps))
    (rename HKey "exec Assign cons Tuple" => hm8; clear hm8)
    (rename Fr _ _ _ _ => f9)
    (rename News _ _ _ _ => n9)
    refine hold ?_
    show wpAny _ (ktrTop dp un gd (Str.ofString "law") lawScope L fa (.ref 915) (cellsFrom (L + 1) lawScope.names []) []) (exec lawAsB (envX (Str.ofString "law") lawScope L fa (.ref 915) (cellsFrom (L + 1) lawScope.names []))) _ _ _
    refine c_assignB (i := i) (vs := vs) (ss := ss) (d' := d') B (by k_asm) T C hdp hun h911 hl hlp hls dI dV dP' (own5 ho) hown D3 I3 hT hps hco hr4 (ext_ne hx (by first | walk_report | k_slotget | omega)) hP hss hS.refs (by first | walk_report | k_slotget | omega) f9 n9 ?_
    clear f9 n9
    intro told h' tk' tkk td da db nd nb kk ps' r' hv P5 hk hoff D4 I4 T4 k4 C4 rne F4 N4 hda
    refine wpAny_execs_nil ?_
    try dsimp only
    show wpAny _ (ktrTop dp un gd (Str.ofString "law") lawScope L fa (.ref 915) (cellsFrom (L + 1) lawScope.names []) []) (execs (lawTurn.drop 2) (envX (Str.ofString "law") lawScope L fa (.ref 915) (cellsFrom (L + 1) lawScope.names []))) _ _ _
    rcases hv with ⟨hg, hV⟩ | ⟨hb, hV⟩
    · exact c_tailG B (by k_asm) T hdp hun h911 hl dI dV dP' (own5 ho) hoff x60 y60 y61 D4 hlv hinn hcnt I4 T4 k4 C4 (rne _ (.head _)) (rne _ (.tail _ (.head _))) (rne _ (.tail _ (.tail _ (.head _)))) (rne _ (.tail _ (.tail _ (.tail _ (.head _))))) (rne _ (.tail _ (.tail _ (.tail _ (.tail _ (.head _)))))) F4 N4 hda (fun f s' hI hf => by rcases hf with rfl | rfl <;> exact hI) hV P5 (by rw [hk, hlv']; exact (Int.natCast_add 1 _).symm) hg (by first | walk_report | k_slotget | omega)
    · have hn : 60 < kk := by
        have h1 := mt (d'.good_iff 1).mpr hb
        have : ¬ 1 + d'.lv ≤ 61 := fun z => h1 ⟨hinn'.mpr hinn, z⟩
        rw [hlv'] at this
        generalize max d.lv ss.length = M at this hk
        clear h1 hlv' hcnt' hcnt hlv
        omega
      exact c_tailR (d' := d) (vs := vs) B (by k_asm) T hdp hun h911 hl dI dV dP' (own5 ho) hoff x60 y60 y61 D4 hlv hinn hcnt I4 T4 k4 C4 (rne _ (.head _)) (rne _ (.tail _ (.head _))) (rne _ (.tail _ (.tail _ (.head _)))) (rne _ (.tail _ (.tail _ (.tail _ (.head _))))) (rne _ (.tail _ (.tail _ (.tail _ (.tail _ (.head _)))))) F4 N4 hda (fun f s' hI hf => by rcases hf with rfl | rfl <;> exact hI) hV hn
end
end
section
open PySem PySem.Spec PySem.Calls PySem.W PyProof.Rows
theorem ghosts_all {w : World} {h₁ h : Heap} {L : Addr} {m mg mb : Str → Option Value} {news : List (Addr × Obj)} {p : Program} {loose : List Str} {mean : ExcName → Option Value} (hT : TabsAt [(915, 911)] h₁) (N : News h₁ L h news) (X : (KH w.params).In h₁) (F : Fr h₁ L h m) (T : Top p loose mean mg mb h₁) :
    (∀ q ∈ tabNews [(915, 911)], q.1 < L) ∧ CodeAll [(915, 911)] (ghostOf h₁ [(915, 911)]) ∧ (KK w.params).In (ghostOf h₁ [(915, 911)]) ∧ Top topProg (loose ++ (recsOf p).map (·.name) ++ (litsOf p).map (·.1) ++ (clssOf p loose).map (·.name)) mean mg mb (ghostOf h₁ [(915, 911)]) ∧
      Below callerA (ghostOf h₁ [(915, 911)]) [] (ghostOf h₁ [(915, 911)]) ∧ News (ghostOf h₁ [(915, 911)]) L h (news ++ tabNews [(915, 911)]) ∧ Fr (ghostOf h₁ [(915, 911)]) L h m :=
  ⟨ghost_lt hT F, ghost_code hT, kk_in X, ghost_top hT T, ghost_below hT, ghost_news hT F N, ghost_fr hT F⟩
local macro_rules | `(tactic| kn_ghosts $F:ident $T:ident) => `(tactic| (
    rename TabsAt _ _ => hT
    rename News _ _ _ _ => N
    rename Frag.In _ _ => X
    obtain ⟨l0, C', X', T', K', N', F'⟩ := ghosts_all hT N X $F $T
    kn_lists hT
    kn_codes C'
    simp only [tabNews, List.map_cons, List.map_nil, List.nil_append, List.cons_append] at N' l0
    k_lt l0
    clear N X $F C'))
theorem news_rot {h₀ h : Heap} {L : Addr} {d a b c e l : Addr × Obj} {r : List (Addr × Obj)} (N : News h₀ L h (d :: a :: b :: c :: e :: l :: r)) : News h₀ L h (l :: a :: b :: c :: e :: r) := fun q hq => N q (by
  rcases List.mem_cons.mp hq with rfl | hq
  · exact .tail _ (.tail _ (.tail _ (.tail _ (.tail _ (.head _)))))
  · rcases List.mem_cons.mp hq with rfl | hq
    · exact .tail _ (.head _)
    · rcases List.mem_cons.mp hq with rfl | hq
      · exact .tail _ (.tail _ (.head _))
      · rcases List.mem_cons.mp hq with rfl | hq
        · exact .tail _ (.tail _ (.tail _ (.head _)))
        · rcases List.mem_cons.mp hq with rfl | hq
          · exact .tail _ (.tail _ (.tail _ (.tail _ (.head _))))
          · exact .tail _ (.tail _ (.tail _ (.tail _ (.tail _ (.tail _ hq))))))
structure NeW (a b : Addr) : Prop where
  h : a ≠ b
local macro_rules | `(tactic| k_ne) => `(tactic| first | exact NeW.h (by assumption) | fail)
noncomputable abbrev lawM (c : Value) : Str → Option Value := fun y => if y = Str.ofString "script" then some c else none
theorem fr_law {h₀ h : Heap} {L : Addr} {m : Str → Option Value} {sc : Value} (F : Fr h₀ L h m) (e : m = lawM sc) : Fr h₀ L h (lawM sc) := e ▸ F
theorem m2 : WalkC := by
  unfold WalkC
  generalize hd : lawD = ld
  conv at hd => lhs; whnf
  subst hd
  k_go0
  rename Top topProg _ _ _ _ _ => T8
  have T9 : Top topProg LL _ _ _ _ := T8
  clear T8
  rename CellsAre _ _ _ => z0
  clear z0
  rename Obj.data _ = Data.cell _ => q3
  have e3 : _ = Data.cell none := q3
  clear q3
  rename Obj.data _ = Data.cell (bindC _ _ _ _) => q2
  have e2 : _ = Data.cell none := q2
  clear q2
  rename Obj.data _ = Data.cell (bindC _ _ _ _) => q1
  have e1 : _ = Data.cell none := q1
  clear q1
  rename Fr _ _ _ _ => f0
  rename Heap.IsList _ _ _ => il
  have f1 := fr_law f0 (sc := _) rfl
  clear f0
  rename Dflts _ _ _ _ _ _ => d0
  clear d0
  rename Heap.CodeRec _ _ _ => r0
  clear r0
  dsimp only
  rename Frag.In _ _ => X9
  revert X9
  k_fill
  intro X9
  have hm0 : HC 881 := .mk
  have hm1 : HC 895 := .mk
  have hm2 : HC 902 := .mk
  have hm3 : HKey "exec For Name Call cons nil" := .mk
  k_steps
  (rename IntsAre _ _ => ia)
  (rename ¬ _ < _ => hl63)
  refine hold (c_source (by k_asm) (by k_asm) (by k_asm) (by k_asm) (by k_asm) rfl (by ktr_room) (by ktr_units) il ia hl63 ?_)
  clear il ia hl63
  intro l x y tx ty n h' tk' x0 y0 y1 F' N' l1
  k_lt l1
  k_steps
  refine hold (c_image (by k_asm) (by k_asm) (by k_asm) (by k_asm) (by k_asm) rfl (by ktr_room) (by ktr_units) ?_)
  intro im h' tk' nx F' N' sub I
  obtain ⟨r, Nr, rne, _, rin⟩ := renormT (own := []) N' (mem5 (sub _ (.tail _ (.head _))) (sub _ (.tail _ (.tail _ (.head _)))) (sub _ (.tail _ (.tail _ (.tail _ (.head _))))) (sub _ (.tail _ (.tail _ (.tail _ (.tail _ (.head _)))))) (sub _ (.head _))) (mem5 (turns_cell e1) (turns_cell e2) (turns_cell e3) (turns_tab trivial) (turns_src _ _ _ _ _)) (fun _ h => nomatch h) own_nil
  have I2 := I.stay rin
  have hr1 := rne _ (.head _)
  have hr2 := rne _ (.tail _ (.head _))
  have hr3 := rne _ (.tail _ (.tail _ (.head _)))
  have hr4 := rne _ (.tail _ (.tail _ (.tail _ (.head _))))
  have hr5 := rne _ (.tail _ (.tail _ (.tail _ (.tail _ (.head _)))))
  dsimp only at hr1 hr2 hr3 hr4 hr5
  simp only [List.append_nil, List.cons_append, List.nil_append] at Nr
  clear N' sub I rne rin
  k_steps
  (rename News _ _ _ _ => n9)
  (rename Obj.data _ = Data.cell (some _) => dI)
  refine hold (c_begun (by k_asm) (by k_asm) (by k_asm) (news_rot n9) (List.forall_mem_cons.mpr ⟨by k_ne, List.forall_mem_cons.mpr ⟨by k_ne, List.forall_mem_cons.mpr ⟨by k_ne, List.forall_mem_cons.mpr ⟨by k_ne, hr5⟩⟩⟩⟩) (by k_asm) rfl (by ktr_room) (by ktr_units) x0 y0 y1 ?_)
  clear x0 y0 y1
  intro p v t k d x' y' tx' ty' n' j nx2 h2 tk2 x0 y0 y1 hD hlv hk56 hk60 hinn hcnt sub hl hp F2 N2
  obtain ⟨r2, Nr2, rne2, _, rin2⟩ := renormT (own := []) N2 (mem5 (sub _ (.head _)) (sub _ (.tail _ (.head _))) (sub _ (.tail _ (.tail _ (.head _)))) (sub _ (.tail _ (.tail _ (.tail _ (.head _))))) hl) (mem5 (turns_cell e1) (turns_cell e2) (turns_cell dI) (turns_tab trivial) (turns_src _ _ _ _ _)) (fun _ h => nomatch h) own_nil
  have I3 := (I2.mono fun q hq => sub q (.tail _ (.tail _ (.tail _ (.tail _ hq))))).stay rin2
  have D3 := hD.stay rin2
  obtain ⟨va, rfl⟩ := hD.handed
  have p3 := tup_stay hp rin2
  clear hr1 hr2 hr3 hr4 hr5 I2
  have hr1 := rne2 _ (.head _)
  have hr2 := rne2 _ (.tail _ (.head _))
  have hr3 := rne2 _ (.tail _ (.tail _ (.head _)))
  have hr4 := rne2 _ (.tail _ (.tail _ (.tail _ (.head _))))
  have hr5 := rne2 _ (.tail _ (.tail _ (.tail _ (.tail _ (.head _)))))
  dsimp only at hr1 hr2 hr3 hr4 hr5
  simp only [List.append_nil, List.cons_append, List.nil_append] at Nr2
  clear N2 sub hD hp hl rne2 rin2 n9
  have N3 := news_two Nr2 (.tail _ (.tail _ (.tail _ (.tail _ (.tail _ p3))))) sub_self
  have hnw := NeW.mk (hr1 _ p3)
  clear Nr2 p3
  k_steps
  subst hlv
  (rename Obj.data _ = Data.cell (some (Value.ref va)) => dV)
  (rename Fr _ _ _ _ => f9)
  refine hold (For_invVF f9 rfl rfl ?_)
  have hq8 : HKey "pyIter ref" := .mk
  k_steps
  clear hq8
  (rename IsRange _ _ _ _ _ _ _ _ => hr9)
  (rename Fr _ _ _ _ => f8)
  (rename News _ _ _ _ => n8)
  refine hold (range_own (n := 4) (LwJ _ lawQ _ l im _ _) rfl hr9 (by decide +kernel) (by decide +kernel) f8 (fun q hq => n8 q (List.forall_mem_cons.mpr ⟨by k_mem, List.forall_mem_cons.mpr ⟨by k_mem, List.forall_mem_cons.mpr ⟨by k_mem, List.forall_mem_cons.mpr ⟨by k_mem, List.forall_mem_cons.mpr ⟨by k_mem, List.forall_mem_cons.mpr ⟨by k_mem, (by repeat (first | exact sub_self | refine sub_cons ?_))⟩⟩⟩⟩⟩⟩ q hq)) ⟨va, d, _, _, _, #[], _, _, _, _, _, _, _, _, _, _, _, lwM_of rfl rfl rfl, rfl, dV, e2, x0, y0, y1, D3.mono (sub_cons sub_self), hk60, hinn, hcnt, I3.mono (sub_cons sub_self), .head _, trivial, codes_nil, List.forall_mem_cons.mpr ⟨by k_ne, hr1⟩, List.forall_mem_cons.mpr ⟨by k_ne, hr2⟩, List.forall_mem_cons.mpr ⟨by k_ne, hr3⟩, List.forall_mem_cons.mpr ⟨by k_ne, hr4⟩, List.forall_mem_cons.mpr ⟨by k_ne, hr5⟩⟩ ?_ ?_)
  · clear hr1 hr2 hr3 hr4 hr5 I3 D3 hnw dV e1 e2 e3 x0 y0 y1 hinn hcnt hk56 hk60 n8 f8 hr9
    intro i t m₁ nx h tk₁ own hi ho hown J F₁ N₁
    exact c_turn (by k_asm) (by k_asm) (by k_asm) (by assumption) (by ktr_room) (by ktr_units) (by omega) (by omega) dI hi ho hown J F₁ N₁
  · clear hr1 hr2 hr3 hr4 hr5 I3 D3 hnw dV e1 e2 e3 x0 y0 y1 hinn hcnt hk56 hk60 n8 f8 hr9
    rintro m₁ nx h tk₁ ⟨va, d, oV, oP, xP, ps, x, y, tx₁, ty, n, tk, u, r, t1, t2, nt, rfl, rfl, dV, dP, x0, y0, y1, D3, hlv, hinn, hcnt, I3, hT, hps, hco, hr1, hr2, hr3, hr4, hr5⟩ F₁ N₁
    obtain ⟨di, th, k, dk, D, y, dy, P, G, p, x, y1, oD, r₁, r₂, r₃, td, t₁, t₂, t₃, t₄, t₅, t₆, ts, tx, c4, c5, c6, c7, i1, i2, i3⟩ := I3
    have N₂ := news_3 N₁ (.tail _ (.tail _ (.tail _ (.tail _ (.tail _ (i3 _ (.head _))))))) (.tail _ (.tail _ (.tail _ (.tail _ (.tail _ (i3 _ (.tail _ (.head _)))))))) sub_self
    have N₃ := news_two N₂ (.tail _ (.tail _ (.tail _ (.tail _ (.tail _ (.tail _ (.tail _ (i3 _ (.tail _ (.tail _ (.head _)))))))))) ) sub_self
    clear N₁ N₂
    k_steps
theorem m3 : PySem.Challenge.rw_sf0048_01.Holds := m1 m2
end
end
end Mine
theorem PySem.Challenge.cw_sf0048_01_holds : PySem.Challenge.rw_sf0048_01.Holds :=
  Mine.m3
