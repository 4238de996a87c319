import PyProof.Rows.All
import Wide.All
import OpenK.AllK
import Wide.FinOn
import PyProof.ExcClass3
import PyProof.ExcBaseAll.Exception
import PyProof.NsDelKeeps
import PySem.Challenge.RW_qd0034_01
set_option Elab.async false
set_option linter.all false
set_option genSizeOf false
set_option genSizeOfSpec false
section
open PySem.W.S
name_quick tw6004533443673955352 for findZ by findZ_eq
name_quick tw16145008321745377990 for findZ by findZ_eq
name_quick tw13640514254501968386 for findZ by findZ_eq
name_quick tw3856783459128436802 for findZ by findZ_eq
name_quick tw20320146153715357 for findZ by findZ_eq
name_quick tw2759451637364818457 for findZ by findZ_eq
name_quick tw9376109419431680627 for findZ by findZ_eq
name_quick tw13180171748994924942 for findZ by findZ_eq
name_quick tw13721567128424951087 for findZ by findZ_eq
name_quick tw704327219915372674 for findZ by findZ_eq
name_quick tw2677710278130947410 for findZ by findZ_eq
name_quick tw151948405760981731 for findZ by findZ_eq
name_quick tw5732905514179830355 for findZ by findZ_eq
name_quick tw8897938508979226211 for findZ by findZ_eq
name_quick tw13607416678640721797 for findZ by findZ_eq
name_quick tw14186486079044719983 for findZ by findZ_eq
name_quick tw13215998728584607739 for findZ by findZ_eq
name_quick tw16741492637210864865 for findZ by findZ_eq
name_quick tw17954736447514056666 for findZ by findZ_eq
name_quick tw10308316962582663543 for findZ by findZ_eq
name_quick tw10073347824450446311 for findZ by findZ_eq
name_quick tw1617757218408452269 for findZ by findZ_eq
name_quick tw4658958612460137192 for findZ by findZ_eq
name_quick tw17964007177503468958 for findZ by findZ_eq
name_quick tw3355348695024010778 for findZ by findZ_eq
name_quick tw17888162413812561239 for findZ by findZ_eq
name_quick tw503676674663206642 for findZ by findZ_eq
name_quick tw3577408171920636059 for findZ by findZ_eq
name_quick tw17071476683966804577 for findZ by findZ_eq
name_quick tw9979284746773624096 for findZ by findZ_eq
name_quick tw8656719876789144132 for findZ by findZ_eq
name_quick tw17274371674624000324 for findZ by findZ_eq
name_quick tw5357591511691535388 for findZ by findZ_eq
name_quick tw4527066259768149269 for findZ by findZ_eq
name_quick tw3362959441861295915 for findZ by findZ_eq
name_quick tw10572350714630814037 for findZ by findZ_eq
name_quick tw4978915544186085027 for findZ by findZ_eq
name_quick tw15900120412870309639 for findZ by findZ_eq
name_quick tw10007627690174824804 for findZ by findZ_eq
name_quick tw17069979004554194336 for findZ by findZ_eq
name_quick tw3953757239420563355 for findZ by findZ_eq
name_quick tw5076957145309523181 for findZ by findZ_eq
name_quick tw15263041282635125899 for findZ by findZ_eq
name_quick tw14676129246514791375 for findZ by findZ_eq
name_quick tw12290603225136948437 for findZ by findZ_eq
name_quick tw2422670821966735624 for findZ by findZ_eq
name_quick tw3282434896037501709 for findZ by findZ_eq
name_quick tw2627984346626558326 for findZ by findZ_eq
name_quick tw183835017167291270 for findZ by findZ_eq
name_quick tw4302124980754421698 for findZ by findZ_eq
name_quick tw5529568453561195837 for findZ by findZ_eq
name_quick tw17803129079492736432 for findZ by findZ_eq
name_quick tw6794992719758384945 for findZ by findZ_eq
name_quick tw17000155066101142889 for findZ by findZ_eq
name_quick tw2334299552400917057 for findZ by findZ_eq
name_quick tw15490439104401381959 for findZ by findZ_eq
name_quick tw16643706677886111943 for findZ by findZ_eq
name_quick tw1419416864934026935 for findZ by findZ_eq
name_quick tw10346894026039390216 for findZ by findZ_eq
name_quick tw5349121933718820234 for findZ by findZ_eq
name_quick tw15773981995205291829 for findZ by findZ_eq
name_quick tw8206430501311747189 for findZ by findZ_eq
name_quick tw3105397867545767578 for findZ by findZ_eq
name_quick tw1402947280878808549 for findZ by findZ_eq
name_quick tw1258299570235058372 for findZ by findZ_eq
name_quick tw17988542015724977305 for findZ by findZ_eq
name_quick tw16846860572762119324 for findZ by findZ_eq
name_quick tw17672482021469178181 for findZ by findZ_eq
name_quick tw3327986453032591115 for findZ by findZ_eq
name_quick tw9763268239775435451 for findZ by findZ_eq
name_quick tw7392212959928792091 for findZ by findZ_eq
name_quick tw5697894365363955025 for findZ by findZ_eq
name_quick tw8693227569615203950 for findZ by findZ_eq
name_quick tw17207729816335089435 for findZ by findZ_eq
name_quick tw14821650378409806113 for findZ by findZ_eq
name_quick tw8753696776887207221 for findZ by findZ_eq
name_quick tw6380047634161181297 for findZ by findZ_eq
name_quick tw14073706353221006472 for findZ by findZ_eq
name_quick tw13678640442995254988 for findZ by findZ_eq
name_quick tw11161088081135249708 for findZ by findZ_eq
name_quick tw1339427327865710234 for findZ by findZ_eq
name_quick tw6019396324639902685 for findZ by findZ_eq
name_quick tw5862295025349918931 for findZ by findZ_eq
name_quick tw8075568018651887793 for findZ by findZ_eq
name_quick tw14433975572909055671 for findZ by findZ_eq
name_quick tw5268983451555188008 for findZ by findZ_eq
name_quick tw3094477031063562474 for findZ by findZ_eq
name_quick tw313226197891681235 for findZ by findZ_eq
name_quick tw16018607276475445134 for findZ by findZ_eq
name_quick tw3152983702415266003 for findZ by findZ_eq
name_quick tw13254397897704925713 for findZ by findZ_eq
name_quick tw7269565832213808900 for findZ by findZ_eq
name_quick tw11625766737575182897 for findZ by findZ_eq
name_quick tw11186114360453789277 for findZ by findZ_eq
name_quick tw900395245841561262 for findZ by findZ_eq
name_quick tw1401972060568974870 for findZ by findZ_eq
name_quick tw8098380416015320538 for findZ by findZ_eq
name_quick tw15195428891847259777 for findZ by findZ_eq
name_quick tw12095823642532355627 for findZ by findZ_eq
name_quick tw3865406201487662470 for findZ by findZ_eq
name_quick tw9697512110049397445 for findZ by findZ_eq
name_quick tw16697116713213952808 for findZ by findZ_eq
name_quick tw1962928258387122110 for findZ by findZ_eq
name_quick tw9315938663221665524 for findZ by findZ_eq
name_quick tw6214688769961185500 for findZ by findZ_eq
name_quick tw15370860176413051132 for findZ by findZ_eq
name_quick tw8658103293671471659 for findZ by findZ_eq
name_quick tw4039474712603431140 for findZ by findZ_eq
name_quick tw17554001833073541016 for findZ by findZ_eq
name_quick tw10205541121877940668 for findZ by findZ_eq
name_quick tw7299303143086499733 for findZ by findZ_eq
name_quick tw12809422525583811893 for findZ by findZ_eq
name_quick tw16916688483869632129 for findZ by findZ_eq
name_quick tw7457235589161816955 for findZ by findZ_eq
name_quick tw1523951592034530338 for findZ by findZ_eq
name_quick tw3039592710220408265 for findZ by findZ_eq
name_quick tw558745408833754511 for findZ by findZ_eq
name_quick tw7581352650102555174 for findZ by findZ_eq
name_quick tw4933834842325187142 for findZ by findZ_eq
name_quick tw10938465397075749097 for findZ by findZ_eq
name_quick tw1414301608579184545 for findZ by findZ_eq
name_quick tw1107438419126420414 for findZ by findZ_eq
name_quick tw18056578402003937789 for findZ by findZ_eq
name_quick tw17183712847048597117 for findZ by findZ_eq
name_quick tw8537084889766193716 for findZ by findZ_eq
name_quick tw11502282260701905712 for findZ by findZ_eq
name_quick tw7670514497116975361 for findZ by findZ_eq
name_quick tw18340240734955500558 for findZ by findZ_eq
name_quick tw1035872174019561116 for findZ by findZ_eq
name_quick tw12850107946570832962 for findZ by findZ_eq
name_quick tw347637069881736656 for findZ by findZ_eq
name_quick tw13759679279233594173 for findZ by findZ_eq
name_quick tw11277413387252134812 for findZ by findZ_eq
name_quick tw1869930749605803152 for findZ by findZ_eq
name_quick tw4679858250743294509 for findZ by findZ_eq
name_quick tw13145125596335152023 for findZ by findZ_eq
name_quick tw505943868828395459 for findZ by findZ_eq
name_quick tw9407582987413476825 for findZ by findZ_eq
name_quick tw6792406925840432001 for findZ by findZ_eq
name_quick tw14420389602138693270 for findZ by findZ_eq
name_quick tw5701610774189311196 for findZ by findZ_eq
name_quick tw11420187438672877268 for findZ by findZ_eq
name_quick tw8642067239939848140 for findZ by findZ_eq
name_quick tw4748654258956052638 for findZ by findZ_eq
name_quick tw7745614565497352828 for findZ by findZ_eq
name_quick tw8732485361984058174 for findZ by findZ_eq
name_quick tw14979626087600564940 for findZ by findZ_eq
name_quick tw11452132507678324671 for findZ by findZ_eq
name_quick tw18123110421147349612 for findZ by findZ_eq
name_quick tw3560238982266916124 for findZ by findZ_eq
name_quick tw8424611434330503625 for findZ by findZ_eq
name_quick tw14023627001141898710 for findZ by findZ_eq
name_quick tw8376441433122354887 for findZ by findZ_eq
name_quick tw16942504070071679284 for findZ by findZ_eq
name_quick tw13036272033356848781 for findZ by findZ_eq
name_quick tw10227693086864044499 for findZ by findZ_eq
name_quick tw16349804527192203551 for findZ by findZ_eq
name_quick tw17015423121036801654 for findZ by findZ_eq
name_quick tw7788680626742099145 for findZ by findZ_eq
name_quick tw14842951114028010568 for findZ by findZ_eq
name_quick tw12450158673883907302 for findZ by findZ_eq
name_quick tw387338674003428930 for findZ by findZ_eq
name_quick tw17000458434675057986 for findZ by findZ_eq
name_quick tw3880421473898291048 for findZ by findZ_eq
name_quick tw10508251915553800215 for findZ by findZ_eq
name_quick tw17863021456227041891 for findZ by findZ_eq
name_quick tw4775785305629353868 for findZ by findZ_eq
name_quick tw3764465048917985505 for findZ by findZ_eq
name_quick tw9413167413068371254 for findZ by findZ_eq
name_quick tw16176465441171805009 for findZ by findZ_eq
name_quick tw18213545369034332514 for findZ by findZ_eq
name_quick tw15444884592583069058 for findZ by findZ_eq
name_quick tw17428874351420789250 for findZ by findZ_eq
name_quick tw17111948838632640456 for findZ by findZ_eq
name_quick tw6120631845924854794 for findZ by findZ_eq
name_quick tw13480552361792772618 for findZ by findZ_eq
name_quick tw3916196269025109296 for findZ by findZ_eq
name_quick tw8682320495052808307 for findZ by findZ_eq
name_quick tw2413185636571951891 for findZ by findZ_eq
name_quick tw12150249912526168084 for findZ by findZ_eq
name_quick tw2481843758868625172 for findZ by findZ_eq
name_quick tw17614413878374492980 for findZ by findZ_eq
name_quick tw5515242420486718171 for findZ by findZ_eq
name_quick tw9976188549184207836 for findZ by findZ_eq
name_quick tw11501758209046777437 for findZ by findZ_eq
name_quick tw2711585505577850959 for findZ by findZ_eq
name_quick tw7275051467321613617 for findZ by findZ_eq
name_quick tw5152784196030571298 for findZ by findZ_eq
name_quick tw11277716924127702174 for findZ by findZ_eq
name_quick tw7232422423428716515 for findZ by findZ_eq
name_quick tw10948738476641704880 for findZ by findZ_eq
name_quick tw5758256569797452207 for findZ by findZ_eq
name_quick tw1631149150583789468 for findZ by findZ_eq
name_quick tw4090926877573551719 for findZ by findZ_eq
name_quick tw15041003319150489328 for findZ by findZ_eq
name_quick tw2660918139993853925 for findZ by findZ_eq
name_quick tw392140993173905013 for findZ by findZ_eq
name_quick tw3820604794100220378 for findZ by findZ_eq
name_quick tw117213463901210413 for findZ by findZ_eq
name_quick tw10833955939284561965 for findZ by findZ_eq
name_quick tw2905824091091238844 for findZ by findZ_eq
name_quick tw12945968074294007009 for findZ by findZ_eq
name_quick tw15168306246750427876 for findZ by findZ_eq
name_quick tw12635297910168745909 for findZ by findZ_eq
name_quick tw17552769576498331613 for findZ by findZ_eq
name_quick tw5882768191206486792 for findZ by findZ_eq
name_quick tw9577309144901391297 for findZ by findZ_eq
name_quick tw3766158894648301139 for findZ by findZ_eq
name_quick tw3315324234476444515 for findZ by findZ_eq
name_quick tw16752143609539240740 for findZ by findZ_eq
name_quick tw9285146279643344392 for findZ by findZ_eq
name_quick tw7198390536060210744 for findZ by findZ_eq
name_quick tw9501820088010722379 for findZ by findZ_eq
name_quick tw5149714755402479525 for findZ by findZ_eq
name_quick tw2478078296215019888 for findZ by findZ_eq
name_quick tw13580328829973926956 for findZ by findZ_eq
name_quick tw15468230090516036684 for findZ by findZ_eq
name_quick tw1749818173716722547 for findZ by findZ_eq
name_quick tw9151444980202551346 for findZ by findZ_eq
name_quick tw17532718790514356516 for findZ by findZ_eq
name_quick tw7496433998918960881 for findZ by findZ_eq
name_quick tw8450942572126056277 for findZ by findZ_eq
name_quick tw16548257151911338427 for findZ by findZ_eq
name_quick tw12182807814244774211 for findZ by findZ_eq
name_quick tw15475462885187679331 for findZ by findZ_eq
name_quick tw16593013826814733010 for findZ by findZ_eq
name_quick tw3264259588550801142 for findZ by findZ_eq
name_quick tw12813236842856870187 for findZ by findZ_eq
name_quick tw11853533878840232495 for findZ by findZ_eq
name_quick tw6683783046931543321 for findZ by findZ_eq
name_quick tw4797165386629745026 for findZ by findZ_eq
name_quick tw18410474027866654770 for findZ by findZ_eq
name_quick tw18345786424863182364 for findZ by findZ_eq
name_quick tw11462045893675790159 for findZ by findZ_eq
name_quick tw13559156169165276386 for findZ by findZ_eq
name_quick tw12945451867199242903 for findZ by findZ_eq
name_quick tw11964429278604863157 for findZ by findZ_eq
name_quick tw8579058602437062094 for findZ by findZ_eq
name_quick tw1574873078441994576 for findZ by findZ_eq
name_quick tw6711915476519705758 for findZ by findZ_eq
name_quick tw16979880578912567463 for findZ by findZ_eq
name_quick tw8400853705098224536 for findZ by findZ_eq
name_quick tw7619357645376055252 for findZ by findZ_eq
name_quick tw5721027456603625697 for findZ by findZ_eq
name_quick tw4071324889030633612 for findZ by findZ_eq
name_quick tw12233582284571471492 for findZ by findZ_eq
name_quick tw16413264400604254196 for findZ by findZ_eq
name_quick tw5189142188285759775 for findZ by findZ_eq
name_quick tw17244072584429378644 for findZ by findZ_eq
name_quick tw17344680358763864322 for findZ by findZ_eq
name_quick tw16413963553889246368 for findZ by findZ_eq
name_quick tw15278061642289888581 for findZ by findZ_eq
name_quick tw2968979199505139716 for findZ by findZ_eq
name_quick tw14326252917377295143 for findZ by findZ_eq
name_quick tw4575980220486274672 for findZ by findZ_eq
name_quick tw15560853006256673968 for findZ by findZ_eq
name_quick tw1320183511955256522 for findZ by findZ_eq
name_quick tw2948108419219029167 for findZ by findZ_eq
name_quick tw1139862187096482527 for findZ by findZ_eq
name_quick tw12647630874787467225 for findZ by findZ_eq
name_quick tw13725850141900786883 for findZ by findZ_eq
name_quick tw9594665118957945026 for findZ by findZ_eq
name_quick tw17899373020297197333 for findZ by findZ_eq
name_quick tw6789855027759293466 for findZ by findZ_eq
name_quick tw4552823106982906706 for findZ by findZ_eq
name_quick tw5032809538720368765 for findZ by findZ_eq
name_quick tw1735497430108182060 for findZ by findZ_eq
name_quick tw13512673800721320934 for findZ by findZ_eq
name_quick tw12371321757623732685 for findZ by findZ_eq
name_quick tw8119918657739134586 for findZ by findZ_eq
name_quick tw12393455550290869266 for findZ by findZ_eq
name_quick tw10470071008263537045 for findZ by findZ_eq
name_quick tw6654550962395885724 for findZ by findZ_eq
name_quick tw7140130562030077042 for findZ by findZ_eq
name_quick tw13252181687094117063 for findZ by findZ_eq
name_quick tw18211773271919218964 for findZ by findZ_eq
name_quick tw11729385059970357855 for findZ by findZ_eq
name_quick tw17057272898397164401 for findZ by findZ_eq
name_quick tw932993149863042379 for findZ by findZ_eq
name_quick tw11317593695737139937 for findZ by findZ_eq
name_quick tw8603108125212654177 for findZ by findZ_eq
name_quick tw7323676302269181137 for findZ by findZ_eq
name_quick tw8595292554425487202 for findZ by findZ_eq
name_quick tw6817277305950994716 for findZ by findZ_eq
name_quick tw136631920214876835 for findZ by findZ_eq
name_quick tw18263319221461684349 for findZ by findZ_eq
name_quick tw7276740287692124622 for findZ by findZ_eq
name_quick tw10042830170769951172 for findZ by findZ_eq
name_quick tw7987952416473584550 for findZ by findZ_eq
name_quick tw13981391230805400906 for findZ by findZ_eq
name_quick tw14553827428707814869 for findZ by findZ_eq
name_quick tw16350708796919097252 for findZ by findZ_eq
name_quick tw2611137233208623240 for findZ by findZ_eq
name_quick tw14214133299417103183 for findZ by findZ_eq
name_quick tw10010936943081839664 for findZ by findZ_eq
name_quick tw16942194440817826258 for findZ by findZ_eq
name_quick tw3636048126100218174 for findZ by findZ_eq
name_quick tw13016732220969518872 for findZ by findZ_eq
name_quick tw716658179208862652 for findZ by findZ_eq
name_quick tw8860024209350480642 for findZ by findZ_eq
name_quick tw10029231156530900338 for findZ by findZ_eq
name_quick tw9800571698397750058 for findZ by findZ_eq
name_quick tw14209830616999942402 for findZ by findZ_eq
name_quick tw15423634916342008072 for findZ by findZ_eq
name_quick tw11817470609975844035 for findZ by findZ_eq
end
noncomputable section
open PySem PySem.W PyProof.Rows
namespace Mine
set_option maxRecDepth 100000 in
set_option maxHeartbeats 8000000 in
open_top hd for PySem.Challenge.rw_qd0034_01
end Mine
end
noncomputable section
open PySem PySem.W PySem.Calls PyProof.Rows
namespace Mine
inductive LRef where
 | toks | rows | loc (i : Nat)
inductive PV where
 | none
 | bool (b : Bool)
 | int (i : Int)
 | str (s : List Nat)
 | tup (l : List PV)
 | fl (l : List PV)
 | lst (r : LRef)
 | lex
 | dg
 | exc (c : List Nat) (a : Int)
mutual
noncomputable def PV.clean : PV → Bool
 | .tup l => PV.cleans l
 | .fl l => PV.cleans l
 | .lst _ => false
 | .exc _ _ => false
 | _ => true
noncomputable def PV.cleans : List PV → Bool
 | [] => true
 | x :: r => x.clean && PV.cleans r
end
mutual
noncomputable def PV.data : PV → Bool
 | .tup l => PV.datas l
 | .fl l => PV.datas l
 | .lst (.loc _) => true
 | .lst _ => false
 | .lex => false
 | .dg => false
 | _ => true
noncomputable def PV.datas : List PV → Bool
 | [] => true
 | x :: r => x.data && PV.datas r
end
mutual
noncomputable def PV.solid : PV → Bool
 | .tup l => PV.solids l
 | .fl l => PV.solids l
 | .none => true
 | .bool _ => true
 | .int _ => true
 | .str _ => true
 | _ => false
noncomputable def PV.solids : List PV → Bool
 | [] => true
 | x :: r => x.solid && PV.solids r
end
mutual
noncomputable def PV.toD : PV → PyData
 | .none => .none
 | .bool b => .bool b
 | .int i => .int i
 | .str s => .str ⟨s.toArray⟩
 | .tup l => .tuple (PV.toDs l)
 | .fl l => .list (PV.toDs l)
 | _ => .dict []
noncomputable def PV.toDs : List PV → List PyData
 | [] => []
 | x :: r => x.toD :: PV.toDs r
end
structure G where
 text : List Nat := []
 at_ : Int := 0
 toks : List PV := []
 rows : List PV := []
 hl : Bool := false
 hd : Bool := false
structure St where
 v : List (Option PV)
 ls : List (List PV)
 g : G
inductive RV where
 | ok (v : PV)
 | exc (c : List Nat) (a : Int)
inductive Out where
 | nxt | brk | ret (v : PV) | exc (c : List Nat) (a : Int)
noncomputable abbrev EC := St → Option (PV × St)
noncomputable abbrev TC := St → Option (Bool × St)
noncomputable abbrev LC := St → Option (List PV × St)
noncomputable abbrev SC := St → Option (Out × St)
noncomputable abbrev Fn := List PV → G → Option (RV × G)
noncomputable def bnd {α β : Type} (a : St → Option (α × St)) (k : α → St → Option (β × St)) : St → Option (β × St) := fun st =>
 match a st with
 | some (x, st') => k x st'
 | none => none
noncomputable def line : Nat := 1048576
noncomputable def dI (r : LRef) (st : St) : Option (List PV) := match r with
 | .toks => if st.g.hl then some st.g.toks else none
 | .rows => if st.g.hd then some st.g.rows else none
 | .loc i => st.ls[i]?
noncomputable def qHI (r : LRef) (l : List PV) (st : St) : St := match r with
 | .toks => { st with g := { st.g with toks := l } }
 | .rows => { st with g := { st.g with rows := l } }
 | .loc i => { st with ls := st.ls.set i l }
mutual
noncomputable def PV.freeze (ls : List (List PV)) : PV → PV
 | .tup l => .tup (PV.freezes ls l)
 | .lst (.loc i) => .fl (ls.getD i [])
 | v => v
noncomputable def PV.freezes (ls : List (List PV)) : List PV → List PV
 | [] => []
 | x :: r => x.freeze ls :: PV.freezes ls r
end
noncomputable def onI {α : Type} (v : PV) (k : Int → Option α) : Option α := match v with
 | .int i => k i
 | _ => none
noncomputable def onS {α : Type} (v : PV) (k : List Nat → Option α) : Option α := match v with
 | .str i => k i
 | _ => none
noncomputable def onF {α : Type} (v : PV) (k : List PV → Option α) : Option α := match v with
 | .fl i => k i
 | _ => none
noncomputable def onSF {α : Type} (v : PV) (k : List Nat → Option α) (k' : List PV → Option α) : Option α := match v with
 | .str i => k i
 | .fl i => k' i
 | _ => none
noncomputable def onIS {α : Type} (v : PV) (k : Int → Option α) (k' : List Nat → Option α) : Option α := match v with
 | .int i => k i
 | .str i => k' i
 | _ => none
noncomputable def eC (v : PV) : EC := fun st => some (v, st)
noncomputable def qC (i : Nat) : EC := fun st => match st.v[i]? with
 | some (some v) => some (v, st)
 | _ => none
inductive Attr where
 | at | text | diags | tokens | rows | code
noncomputable def Attr.name : Attr → Str
 | .at => "at"
 | .text => "text"
 | .diags => "diags"
 | .tokens => "tokens"
 | .rows => "rows"
 | .code => "code"
noncomputable def qKQ (a : Attr) (v : PV) (st : St) : Option PV := match v with
 | .lex => (match a with
  | .at => if st.g.hl then some (.int st.g.at_) else none
  | .text => if st.g.hl then some (.str st.g.text) else none
  | .diags => if st.g.hl && st.g.hd then some .dg else none
  | .tokens => if st.g.hl then some (.lst .toks) else none
  | .rows => none
  | .code => none)
 | .dg => (match a with
  | .at => none
  | .text => none
  | .diags => none
  | .tokens => none
  | .rows => if st.g.hd then some (.lst .rows) else none
  | .code => none)
 | .exc c i => (match a with
  | .at => some (.int i)
  | .text => none
  | .diags => none
  | .tokens => none
  | .rows => none
  | .code => some (.str c))
 | _ => none
noncomputable def okP (o : Option PV) (st : St) : Option (PV × St) := match o with
 | some v => some (v, st)
 | none => none
noncomputable def qg (o : EC) (a : Attr) : EC := bnd o fun v st => okP (qKQ a v st) st
noncomputable def qI : LC := fun st => some ([], st)
noncomputable def qB (a : EC) (r : LC) : LC := bnd a fun v => bnd r fun vs st => some (v :: vs, st)
noncomputable def runF (f : Fn) (vs : List PV) (st : St) : Option (RV × St) := if PV.cleans vs then (match f vs st.g with
 | some (r, g) => some (r, { st with g := g })
 | none => none) else none
noncomputable def qT (f : Fn) (as : LC) : EC := bnd as fun vs st => match runF f vs st with
 | some (.ok v, st') => some (v, st')
 | _ => none
noncomputable def qO (f : Fn) (o : EC) (as : LC) : EC := bnd o fun v => bnd as fun vs st => match v with
 | .lex => if st.g.hl then (match runF f (.lex :: vs) st with
  | some (.ok r, st') => some (r, st')
  | _ => none) else none
 | _ => none
noncomputable def qK7 (f : Fn) (o : EC) (as : LC) : EC := bnd o fun v => bnd as fun vs st => match v with
 | .dg => if st.g.hd then (match runF f (.dg :: vs) st with
  | some (.ok r, st') => some (r, st')
  | _ => none) else none
 | _ => none
noncomputable def qw (o a : EC) : EC := bnd o fun r => bnd a fun v st => match r with
 | .lst r => (match dI r st with
  | some l => if v.solid && decide (l.length < line) then some (.none, qHI r (l ++ [v]) st) else none
  | none => none)
 | _ => none
noncomputable def qTJ (v : PV) : Option PV := onSF v (fun s => some (.int s.length)) fun l => some (.int l.length)
noncomputable def zn (a : EC) : EC := bnd a fun v st => okP (qTJ v) st
noncomputable def qYO (v : PV) : Option PV := onS v fun s => match s with
 | [c] => some (.int c)
 | _ => none
noncomputable def qCC (a : EC) : EC := bnd a fun v st => okP (qYO v) st
noncomputable def qPS (v : PV) : Option PV := onI v fun i => if 0 ≤ i ∧ i ≤ 1114111 then some (.str [i.toNat]) else none
noncomputable def qGG (a : EC) : EC := bnd a fun v st => okP (qPS v) st
noncomputable def qTM (x y : PV) : Option PV := onI x fun i => onI y fun j => some (.int (if j > i then j else i))
noncomputable def qS2 (a b : EC) : EC := bnd a fun x => bnd b fun y st => okP (qTM x y) st
noncomputable def qQE (x y z : PV) : Option PV := onS x fun s => onS y fun t => onI z fun i => some (.int (Txt.find3 ⟨s.toArray⟩ ⟨t.toArray⟩ i))
noncomputable def qE1 (o a b : EC) : EC := bnd o fun x => bnd a fun y => bnd b fun z st => okP (qQE x y z) st
noncomputable def qUV (y z : List Nat) (x : PV) : Option PV := onS x fun s => if s.length ≤ 4096 ∧ (Txt.replace ⟨s.toArray⟩ ⟨y.toArray⟩ ⟨z.toArray⟩).cps.toList.length ≤ line then some (.str (Txt.replace ⟨s.toArray⟩ ⟨y.toArray⟩ ⟨z.toArray⟩).cps.toList) else none
noncomputable def jt (o : EC) (y z : List Nat) : EC := bnd o fun x st => okP (qUV y z x) st
noncomputable def wr (y : List Nat) (x : PV) : Option PV := onS x fun s => if s.length ≤ 8192 ∧ (Txt.split ⟨s.toArray⟩ ⟨y.toArray⟩).length ≤ line ∧ ((Txt.split ⟨s.toArray⟩ ⟨y.toArray⟩).all fun t => decide (t.cps.toList.length ≤ line)) = true then some (.fl ((Txt.split ⟨s.toArray⟩ ⟨y.toArray⟩).map fun t => .str t.cps.toList)) else none
noncomputable def yh (o : EC) (y : List Nat) : EC := bnd o fun x st => okP (wr y x) st
noncomputable def qQR (x : PV) : Option PV := onS x fun s => some (.bool (Txt.isalpha ⟨s.toArray⟩))
noncomputable def qIQ (o : EC) : EC := bnd o fun x st => okP (qQR x) st
noncomputable def u8 : List PV → Option (List (List Nat))
 | [] => some []
 | v :: r => onS v fun s => (u8 r).map (s :: ·)
noncomputable def qMZ (x : PV) (st : St) : Option PV := match x with
 | .lst r => (match (dI r st).bind u8 with
  | some l => if (l.map List.length).sum ≤ line then some (.str l.flatten) else none
  | none => none)
 | _ => none
noncomputable def qIR (a : EC) : EC := bnd a fun x st => okP (qMZ x st) st
noncomputable def gE (x y : PV) : Option PV := onSF x (fun s => onI y fun i => if 0 ≤ i then (s[i.toNat]?).map fun c => .str [c] else if -(s.length : Int) ≤ i then (s[(s.length + i).toNat]?).map fun c => .str [c] else none)
 fun l => onI y fun i => if 0 ≤ i then l[i.toNat]? else none
noncomputable def zm (o a : EC) : EC := bnd o fun x => bnd a fun y st => okP (gE x y) st
noncomputable def yp (t : List (List Nat × List Nat)) (k : List Nat) : Option (List Nat) := match t with
 | [] => none
 | (a, b) :: r => if a = k then some b else yp r k
noncomputable def qXN (t : List (List Nat × List Nat)) (x : PV) : Option PV := onS x fun s => (yp t s).map .str
noncomputable def qVB (t : List (List Nat × List Nat)) (a : EC) : EC := bnd a fun x st => okP (qXN t x) st
noncomputable def zD (n : Nat) (i : Int) : Nat := if i < 0 then (n + i).toNat else min i.toNat n
noncomputable def wG (x y : PV) : Option PV := onSF x (fun s => onI y fun i => some (.str (s.drop (zD s.length i)))) fun l => onI y fun i => some (.fl (l.drop (zD l.length i)))
noncomputable def jk (o a : EC) : EC := bnd o fun x => bnd a fun y st => okP (wG x y) st
noncomputable def qHN (x y : PV) : Option PV := onSF x (fun s => onI y fun i => some (.str (s.take (zD s.length i)))) fun l => onI y fun i => some (.fl (l.take (zD l.length i)))
noncomputable def vX (o b : EC) : EC := bnd o fun x => bnd b fun y st => okP (qHN x y) st
noncomputable def qBS (x y z : PV) : Option PV := onS x fun s => onI y fun i => onI z fun j => some (.str ((s.take (zD s.length j)).drop (zD s.length i)))
noncomputable def yt (o a b : EC) : EC := bnd o fun x => bnd a fun y => bnd b fun z st => okP (qBS x y z) st
inductive Bop where
 | add | sub | mul | fdiv | mod | shr | band
noncomputable def small (i : Int) : Bool := decide (i.natAbs < 1073741824)
noncomputable def qUG (x y : PV) : Option PV := match x with
 | .int a => onI y fun b => some (.int (a + b))
 | .str a => onS y fun b => if a.length + b.length ≤ line then some (.str (a ++ b)) else none
 | .fl a => onF y fun b => if a.length + b.length ≤ line then some (.fl (a ++ b)) else none
 | _ => none
noncomputable def bop (o : Bop) (x y : PV) : Option PV := match o with
 | .add => qUG x y
 | .sub => onI x fun a => onI y fun b => some (.int (a - b))
 | .mul => onI x fun a => onI y fun b => if small a || small b then some (.int (a * b)) else none
 | .fdiv => onI x fun a => onI y fun b => if small b && b != 0 then some (.int (a.fdiv b)) else none
 | .mod => onI x fun a => onI y fun b => if b != 0 then some (.int (a.fmod b)) else none
 | .shr => onI x fun a => onI y fun b => if 0 ≤ b ∧ b ≤ 64 then some (.int (a.fdiv (2 ^ b.toNat))) else none
 | .band => onI x fun a => onI y fun b => some (.int (Builtin.bitAnd a b))
noncomputable def qY (o : Bop) (a b : EC) : EC := bnd a fun x => bnd b fun y st => okP (bop o x y) st
inductive Cop where
 | eq | ne | lt | le | gt | ge
noncomputable def leL (a b : List Nat) : Bool := !decide (b < a)
noncomputable def qX7 (o : Cop) (a b : Int) : Bool := match o with
 | .eq => a == b
 | .ne => a != b
 | .lt => decide (a < b)
 | .le => decide (a ≤ b)
 | .gt => decide (b < a)
 | .ge => decide (b ≤ a)
noncomputable def qX8 (o : Cop) (a b : List Nat) : Option Bool := match o with
 | .eq => some (a == b)
 | .ne => some (a != b)
 | .lt => some (decide (a < b))
 | .le => some (leL a b)
 | .gt => none
 | .ge => none
noncomputable def vx (o : Cop) (x y : PV) : Option Bool := onIS x (fun a => onI y fun b => some (qX7 o a b)) fun a => onS y fun b => qX8 o a b
noncomputable def qQ (o : Cop) (a b : EC) : EC := bnd a fun x => bnd b fun y st => okP ((vx o x y).map .bool) st
noncomputable def uK (v : PV) (st : St) : Option PV := match v with
 | .lst r => (dI r st).map .fl
 | v => some v
noncomputable def kh (x y : PV) (st : St) : Option Bool := match uK x st, uK y st with
 | some a, some b => if a.solid && b.solid && SeqAt.shaped a.toD && SeqAt.shaped b.toD then some (PyData.eqv a.toD b.toD) else none
 | _, _ => none
noncomputable def qEI (a b : EC) : EC := bnd a fun x => bnd b fun y st => okP ((kh x y st).map .bool) st
noncomputable def qIS (a b : EC) : EC := bnd a fun x => bnd b fun y st => okP ((kh x y st).map fun r => .bool !r) st
noncomputable def vA (o1 o2 : Cop) (a b c : EC) : EC := bnd a fun x => bnd b fun y st => match vx o1 x y with
 | some true => (bnd c fun z st => okP ((vx o2 y z).map .bool) st) st
 | some false => some (.bool false, st)
 | none => none
noncomputable def inF (keys : List (List Nat)) (x : PV) : Option PV := onS x fun s => some (.bool (decide (s ∈ keys)))
noncomputable def eIn (keys : List (List Nat)) (a : EC) : EC := bnd a fun x st => okP (inF keys x) st
noncomputable def qLU (x y : PV) : Option PV := onS x fun s => match s with
 | [c] => onS y fun t => some (.bool (!decide (c ∈ t)))
 | _ => none
noncomputable def uQ (a b : EC) : EC := bnd a fun x => bnd b fun y st => okP (qLU x y) st
noncomputable def k6 : PV → Option Bool
 | .bool b => some b
 | _ => none
noncomputable def qN5 (a b : EC) : EC := bnd a fun x st => match k6 x with
 | some true => b st
 | some false => some (x, st)
 | none => none
noncomputable def eOr (a b : EC) : EC := bnd a fun x st => match k6 x with
 | some false => b st
 | some true => some (x, st)
 | none => none
noncomputable def ko (t : TC) (a b : EC) : EC := bnd t fun x st => if x then a st else b st
noncomputable def qZ (l : LC) : EC := bnd l fun vs st => okP (if vs.length ≤ line then some (.tup vs) else none) st
noncomputable def zi (l : LC) : EC := bnd l fun vs st => okP (if vs.length ≤ line then some (.fl vs) else none) st
noncomputable def tE (a : EC) : TC := bnd a fun x st => match k6 x with
 | some b => some (b, st)
 | none => none
noncomputable def ve (a : TC) : TC := bnd a fun b st => some (!b, st)
noncomputable def zb (a b : TC) : TC := bnd a fun x st => if x then b st else some (false, st)
noncomputable def tOr (a b : TC) : TC := bnd a fun x st => if x then some (true, st) else b st
noncomputable def qK : SC := fun st => some (.nxt, st)
noncomputable def qD (a b : SC) : SC := bnd a fun o st => match o with
 | .nxt => b st
 | o => some (o, st)
noncomputable def qc (e : EC) : SC := bnd e fun v st => some (.nxt, st)
noncomputable def vU (f : Fn) (as : LC) : SC := bnd as fun vs st => match runF f vs st with
 | some (.ok .none, st') => some (.nxt, st')
 | some (.exc c a, st') => some (.exc c a, st')
 | _ => none
noncomputable def za (i : Nat) (v : PV) (st : St) : Option St := if i < st.v.length then some { st with v := st.v.set i (some v) } else none
noncomputable def qV (i : Nat) (e : EC) : SC := bnd e fun v st => match za i v st with
 | some st' => some (.nxt, st')
 | none => none
noncomputable def kF (i : Nat) : SC := fun st => match za i (.lst (.loc st.ls.length)) st with
 | some st' => some (.nxt, { st' with ls := st.ls ++ [[]] })
 | none => none
noncomputable def yd : List Nat → List PV → St → Option St
 | [], [], st => some st
 | i :: r, v :: vs, st => (match za i v st with
  | some st' => yd r vs st'
  | none => none)
 | _, _, _ => none
noncomputable def zz (is : List Nat) (e : EC) : SC := bnd e fun v st => match v with
 | .tup l => (match yd is l st with
  | some st' => some (.nxt, st')
  | none => none)
 | _ => none
noncomputable def u0 (o e : EC) : SC := bnd e fun v => bnd o fun x st => match x, v with
 | .lex, .int i => if st.g.hl then some (.nxt, { st with g := { st.g with at_ := i } }) else none
 | _, _ => none
noncomputable def j3 (o : Bop) (i : Nat) (e : EC) : SC := bnd (qC i) fun x => bnd e fun y st => match x, bop o x y with
 | .int _, some v => (match za i v st with
  | some st' => some (.nxt, st')
  | none => none)
 | .str _, some v => (match za i v st with
  | some st' => some (.nxt, st')
  | none => none)
 | _, _ => none
noncomputable def kZ (i : Nat) (e : EC) : SC := bnd (qC i) fun x => bnd e fun y st => match x, y with
 | .lst (.loc k), .fl l => (match st.ls[k]? with
  | some l0 => if l0.length + l.length ≤ line && PV.solids l then some (.nxt, { st with ls := st.ls.set k (l0 ++ l) }) else none
  | none => none)
 | _, _ => none
noncomputable def qq (o e : EC) : SC := bnd o fun x st => match x with
 | .lex => if st.g.hl then (bnd e fun y st1 => match y with
   | .int j => if st1.g.hl then some (.nxt, { st1 with g := { st1.g with at_ := st.g.at_ + j } }) else none
   | _ => none) st else none
 | _ => none
noncomputable def sIf (t : TC) (a b : SC) : SC := bnd t fun x st => if x then a st else b st
noncomputable def jK (t : TC) (b : SC) : Nat → SC
 | 0, _ => none
 | n + 1, st => match t st with
  | none => none
  | some (false, st1) => some (.nxt, st1)
  | some (true, st1) => (match b st1 with
   | none => none
   | some (.nxt, st2) => jK t b n st2
   | some (.brk, st2) => some (.nxt, st2)
   | some (o, st2) => some (o, st2))
open Classical in
noncomputable def whileC (t : TC) (b : SC) : SC := fun st => if h : ∃ n r, jK t b n st = some r then jK t b h.choose st else none
theorem ud {t : TC} {b : SC} (st) (r) (h : whileC t b st = some r) : ∃ n, jK t b n st = some r := by
 unfold whileC at h
 split at h
 ·exact ⟨_, h⟩
 ·cases h
theorem qA6 {t : TC} {b : SC} : ∀ (n : Nat) {st} {r}, jK t b n st = some r → jK t b (n + 1) st = some r
 | 0, st, r, h => by cases h
 | n + 1, st, r, h => by
  rw [jK] at h ⊢
  split at h
  ·cases h
  ·exact h
  ·split at h
   ·cases h
   ·exact qA6 n h
   ·exact h
   ·rename_i o st2 n1 n2 e
    cases o <;> first | exact h | exact (n1 rfl).elim | exact (n2 rfl).elim
theorem wx {t : TC} {b : SC} {n : Nat} {st} {r} (h : jK t b n st = some r) : ∀ k, jK t b (n + k) st = some r
 | 0 => h
 | k + 1 => qA6 (n + k) (wx h k)
theorem dY {t : TC} {b : SC} {n : Nat} {st} {r} (h : jK t b n st = some r) : whileC t b st = some r := by
 have h2 : ∃ n r, jK t b n st = some r := ⟨n, r, h⟩
 unfold whileC
 rw [dif_pos h2]
 obtain ⟨r', hr⟩ := h2.choose_spec
 have a := wx h h2.choose
 have c := wx hr n
 rw [Nat.add_comm, a] at c
 rw [hr, ← c]
theorem kI (t : TC) (b : SC) (st) : whileC t b st = (match t st with
  | none => none
  | some (false, st1) => some (.nxt, st1)
  | some (true, st1) => (match b st1 with
   | none => none
   | some (.nxt, st2) => whileC t b st2
   | some (.brk, st2) => some (.nxt, st2)
   | some (o, st2) => some (o, st2))) := by
 apply Option.ext
 intro r
 constructor
 ·intro h
  obtain ⟨n, hn⟩ := ud st r h
  cases n with
  | zero => cases hn
  | succ n =>
   rw [jK] at hn
   split at hn
   ·cases hn
   ·exact hn
   ·split at hn
    ·cases hn
    ·exact dY hn
    ·exact hn
    ·rename_i o st2 n1 n2 e
     cases o <;> first | exact hn | exact (n1 rfl).elim | exact (n2 rfl).elim
 ·intro h
  split at h
  ·cases h
  ·rename_i st1 e
   exact dY (n := 1) (by rw [jK, e]; exact h)
  ·rename_i st1 e
   split at h
   ·cases h
   ·rename_i st2 e2
    obtain ⟨n, hn⟩ := ud _ _ h
    exact dY (n := n + 1) (by rw [jK, e]; dsimp only; rw [e2]; exact hn)
   ·rename_i st2 e2
    exact dY (n := 1) (by rw [jK, e]; dsimp only; rw [e2]; exact h)
   ·rename_i o st2 n1 n2 e2
    refine dY (n := 1) ?_
    rw [jK, e]
    dsimp only
    rw [e2]
    cases o <;> first | exact h | exact (n1 rfl).elim | exact (n2 rfl).elim
noncomputable def forC (bindv : PV → St → Option St) (b : SC) : List PV → SC
 | [], st => some (.nxt, st)
 | x :: r, st => (match bindv x st with
  | none => none
  | some st1 => (match b st1 with
   | none => none
   | some (.nxt, st2) => forC bindv b r st2
   | some (.brk, st2) => some (.nxt, st2)
   | some (o, st2) => some (o, st2)))
noncomputable def qHH (i : Nat) (e : EC) (b : SC) : SC := bnd e fun v st => match v with
 | .str s => forC (za i) b (s.map fun c => .str [c]) st
 | _ => none
noncomputable def jX (n : Int) : List PV := (List.range n.toNat).map fun k : Nat => .int (k : Int)
noncomputable def j4 (i : Nat) (e : EC) (b : SC) : SC := bnd e fun v st => match v with
 | .int n => if 0 ≤ n ∧ n ≤ line then forC (za i) b (jX n) st else none
 | _ => none
noncomputable def dT (i : Nat) (e : EC) (b : SC) : SC := bnd e fun v st => match v with
 | .fl l => if PV.cleans l then forC (za i) b l st else none
 | _ => none
noncomputable def unp (is : List Nat) (v : PV) (st : St) : Option St := match v with
 | .tup l => yd is l st
 | _ => none
noncomputable def y8 (is : List Nat) (e : EC) (b : SC) : SC := bnd e fun v st => match v with
 | .fl l => if PV.cleans l then forC (unp is) b l st else none
 | _ => none
noncomputable def zL (e : EC) : SC := bnd e fun v st => some (.ret v, st)
noncomputable def qFV : SC := fun st => some (.ret .none, st)
noncomputable def qHG : SC := fun st => some (.brk, st)
noncomputable def uZ (c : List Nat) (e : EC) : SC := bnd e fun v st => match v with
 | .int a => some (.exc c a, st)
 | _ => none
noncomputable def kY (i : Nat) (st : St) : Bool := (st.v.set i none).all fun x => match x with
 | some v => v.data
 | none => true
noncomputable def uY (i : Nat) : SC := fun st => if !st.g.hl && kY i st then (match za i .dg st with
 | some st' => some (.nxt, { st' with g := { st.g with rows := [], hd := true } })
 | none => none) else none
noncomputable def qAX (i : Nat) (st : St) : Bool := (st.v.set i none).all fun x => match x with
 | some (.str _) => true
 | some .dg => true
 | none => true
 | _ => false
noncomputable def qL4 (i : Nat) (a b : EC) : SC := bnd a fun x => bnd b fun y st => match x, y with
 | .str s, .dg => if !st.g.hl && st.g.hd && qAX i st then (match za i .lex st with
   | some st' => some (.nxt, { st' with g := { st.g with text := s, at_ := 0, toks := [], hl := true } })
   | none => none) else none
 | _, _ => none
mutual
noncomputable def PV.okRet : PV → Bool
 | .tup l => PV.okRets l
 | .fl l => PV.cleans l
 | _ => true
noncomputable def PV.okRets : List PV → Bool
 | [] => true
 | x :: r => x.okRet && PV.okRets r
end
noncomputable def zf (np nv : Nat) (b : SC) : Fn := fun args g => if args.length = np then (match b ⟨args.map some ++ List.replicate (nv - np) none, [], g⟩ with
 | some (.ret v, st) => if v.okRet then some (.ok (v.freeze st.ls), st.g) else none
 | some (.nxt, st) => some (.ok .none, st.g)
 | some (.exc c a, st) => some (.exc c a, st.g)
 | _ => none) else none
noncomputable def qAT (np nv : Nat) (b : SC) : Fn := fun args g => if args.length = np ∧ g.hl = false then (match b ⟨args.map some ++ List.replicate (nv - np) none, [], g⟩ with
 | some (.ret (.lst .toks), st) => if st.g.hl then some (.ok (.fl st.g.toks), { st.g with hl := false }) else none
 | some (.exc c a, st) => some (.exc c a, { st.g with hl := false })
 | _ => none) else none
noncomputable def qP1 (f : Fn) (as : LC) : EC := bnd as fun vs st => match runF f vs st with
 | some (.ok v, st') => some (v, st')
 | _ => none
noncomputable def qRT (f : Fn) (as : LC) (fi : Nat) (h : SC) : SC := bnd as fun vs st => match runF f vs st with
 | some (.ok _, st') => some (.nxt, st')
 | some (.exc c a, st') => (match za fi (.exc c a) st' with
  | some st2 => (match h st2 with
   | some (.nxt, st3) => some (.nxt, { st3 with v := st3.v.set fi none })
   | _ => none)
  | none => none)
 | none => none
theorem qH {α : Type} {x : α} {G : Prop} (e : (none : Option α) = some x) : G := by cases e
theorem ifp {α : Type} {c : Prop} [Decidable c] {a b r : α} (h : c) (e : (if c then a else b) = r) : a = r := (if_pos h).symm.trans e
theorem ifn {α : Type} {c : Prop} [Decidable c] {a b r : α} (h : ¬ c) (e : (if c then a else b) = r) : b = r := (if_neg h).symm.trans e
theorem wL {a b : Bool} (h : (a && b) = true) : a = true := ((Bool.and_eq_true a b).mp h).1
theorem wM {a b : Bool} (h : (a && b) = true) : b = true := ((Bool.and_eq_true a b).mp h).2
theorem jo {a b : Bool} (h : a = true) (k : b = true) : (a && b) = true := (Bool.and_eq_true a b).mpr ⟨h, k⟩
end Mine
end
noncomputable section
open PySem PySem.W
set_option genInjectivity false
namespace Mine
noncomputable def vI : List (List Nat) := [[32], [9], [11], [12], [160], [65279], [5760], [8192], [8193], [8194], [8195], [8196], [8197], [8198], [8199], [8200], [8201], [8202], [8239], [8287], [12288], [10], [13], [133], [8232], [8233]]
noncomputable def qv : List (List Nat) := [[39], [34], [92], [48], [97], [98], [102], [110], [114], [116], [118]]
noncomputable def jR : List (List Nat) := [[10], [13], [133], [8232], [8233]]
noncomputable def zO : List (List Nat) := [[102], [70], [100], [68], [109], [77]]
noncomputable def zt : List (List Nat) := [[60, 60, 61], [43, 43], [45, 45], [38, 38], [124, 124], [61, 61], [33, 61], [60, 61], [62, 61], [43, 61], [45, 61], [42, 61], [47, 61], [37, 61], [38, 61], [124, 61], [94, 61], [60, 60], [63, 63], [63, 46], [61, 62], [123], [125], [91], [93], [40], [41], [46], [44], [58], [59], [43], [45], [42], [47], [37], [38], [124], [94], [33], [126], [61], [60], [62], [63]]
noncomputable def y7 : List (List Nat) := [[97, 98, 115, 116, 114, 97, 99, 116], [97, 115], [98, 97, 115, 101], [98, 111, 111, 108], [98, 114, 101, 97, 107], [98, 121, 116, 101], [99, 97, 115, 101], [99, 97, 116, 99, 104], [99, 104, 97, 114], [99, 104, 101, 99, 107, 101, 100], [99, 108, 97, 115, 115], [99, 111, 110, 115, 116], [99, 111, 110, 116, 105, 110, 117, 101], [100, 101, 99, 105, 109, 97, 108], [100, 101, 102, 97, 117, 108, 116], [100, 101, 108, 101, 103, 97, 116, 101], [100, 111], [100, 111, 117, 98, 108, 101], [101, 108, 115, 101], [101, 110, 117, 109], [101, 118, 101, 110, 116], [101, 120, 112, 108, 105, 99, 105, 116], [101, 120, 116, 101, 114, 110], [102, 97, 108, 115, 101], [102, 105, 110, 97, 108, 108, 121], [102, 105, 120, 101, 100], [102, 108, 111, 97, 116], [102, 111, 114], [102, 111, 114, 101, 97, 99, 104], [103, 111, 116, 111], [105, 102], [105, 109, 112, 108, 105, 99, 105, 116], [105, 110], [105, 110, 116], [105, 110, 116, 101, 114, 102, 97, 99, 101], [105, 110, 116, 101, 114, 110, 97, 108], [105, 115], [108, 111, 99, 107], [108, 111, 110, 103], [110, 97, 109, 101, 115, 112, 97, 99, 101], [110, 101, 119], [110, 117, 108, 108], [111, 98, 106, 101, 99, 116], [111, 112, 101, 114, 97, 116, 111, 114], [111, 117, 116], [111, 118, 101, 114, 114, 105, 100, 101], [112, 97, 114, 97, 109, 115], [112, 114, 105, 118, 97, 116, 101], [112, 114, 111, 116, 101, 99, 116, 101, 100], [112, 117, 98, 108, 105, 99], [114, 101, 97, 100, 111, 110, 108, 121], [114, 101, 102], [114, 101, 116, 117, 114, 110], [115, 98, 121, 116, 101], [115, 101, 97, 108, 101, 100], [115, 104, 111, 114, 116], [115, 105, 122, 101, 111, 102], [115, 116, 97, 99, 107, 97, 108, 108, 111, 99], [115, 116, 97, 116, 105, 99], [115, 116, 114, 105, 110, 103], [115, 116, 114, 117, 99, 116], [115, 119, 105, 116, 99, 104], [116, 104, 105, 115], [116, 104, 114, 111, 119], [116, 114, 117, 101], [116, 114, 121], [116, 121, 112, 101, 111, 102], [117, 105, 110, 116], [117, 108, 111, 110, 103], [117, 110, 99, 104, 101, 99, 107, 101, 100], [117, 110, 115, 97, 102, 101], [117, 115, 104, 111, 114, 116], [117, 115, 105, 110, 103], [118, 105, 114, 116, 117, 97, 108], [118, 111, 105, 100], [118, 111, 108, 97, 116, 105, 108, 101], [119, 104, 105, 108, 101]]
noncomputable def t_LEX_ESCAPES : List (List Nat × List Nat) := [([39], [39]), ([34], [34]), ([92], [92]), ([48], [0]), ([97], [7]), ([98], [8]), ([102], [12]), ([110], [10]), ([114], [13]), ([116], [9]), ([118], [11])]
noncomputable def gC : PV := .int 0
noncomputable def vl : PV := .int 1
noncomputable def wX : PV := .int 2
noncomputable def gD : PV := .int 3
noncomputable def vn : PV := .int 4
noncomputable def kB : PV := .int 5
noncomputable def vm : PV := .int 6
noncomputable def dG : PV := .int 3
noncomputable def kT : PV := .int 18446744073709551615
noncomputable def vH : PV := .str [97, 98, 115, 116, 114, 97, 99, 116, 32, 97, 115, 32, 98, 97, 115, 101, 32, 98, 111, 111, 108, 32, 98, 114, 101, 97, 107, 32, 98, 121, 116, 101, 32, 99, 97, 115, 101, 32, 99, 97, 116, 99, 104, 32, 99, 104, 97, 114, 32, 99, 104, 101, 99, 107, 101, 100, 32, 99, 108, 97, 115, 115, 32, 99, 111, 110, 115, 116, 32, 99, 111, 110, 116, 105, 110, 117, 101, 32, 100, 101, 99, 105, 109, 97, 108, 10, 100, 101, 102, 97, 117, 108, 116, 32, 100, 101, 108, 101, 103, 97, 116, 101, 32, 100, 111, 32, 100, 111, 117, 98, 108, 101, 32, 101, 108, 115, 101, 32, 101, 110, 117, 109, 32, 101, 118, 101, 110, 116, 32, 101, 120, 112, 108, 105, 99, 105, 116, 32, 101, 120, 116, 101, 114, 110, 32, 102, 97, 108, 115, 101, 32, 102, 105, 110, 97, 108, 108, 121, 32, 102, 105, 120, 101, 100, 32, 102, 108, 111, 97, 116, 32, 102, 111, 114, 32, 102, 111, 114, 101, 97, 99, 104, 32, 103, 111, 116, 111, 10, 105, 102, 32, 105, 109, 112, 108, 105, 99, 105, 116, 32, 105, 110, 32, 105, 110, 116, 32, 105, 110, 116, 101, 114, 102, 97, 99, 101, 32, 105, 110, 116, 101, 114, 110, 97, 108, 32, 105, 115, 32, 108, 111, 99, 107, 32, 108, 111, 110, 103, 32, 110, 97, 109, 101, 115, 112, 97, 99, 101, 32, 110, 101, 119, 32, 110, 117, 108, 108, 32, 111, 98, 106, 101, 99, 116, 32, 111, 112, 101, 114, 97, 116, 111, 114, 32, 111, 117, 116, 32, 111, 118, 101, 114, 114, 105, 100, 101, 10, 112, 97, 114, 97, 109, 115, 32, 112, 114, 105, 118, 97, 116, 101, 32, 112, 114, 111, 116, 101, 99, 116, 101, 100, 32, 112, 117, 98, 108, 105, 99, 32, 114, 101, 97, 100, 111, 110, 108, 121, 32, 114, 101, 102, 32, 114, 101, 116, 117, 114, 110, 32, 115, 98, 121, 116, 101, 32, 115, 101, 97, 108, 101, 100, 32, 115, 104, 111, 114, 116, 32, 115, 105, 122, 101, 111, 102, 32, 115, 116, 97, 99, 107, 97, 108, 108, 111, 99, 32, 115, 116, 97, 116, 105, 99, 32, 115, 116, 114, 105, 110, 103, 10, 115, 116, 114, 117, 99, 116, 32, 115, 119, 105, 116, 99, 104, 32, 116, 104, 105, 115, 32, 116, 104, 114, 111, 119, 32, 116, 114, 117, 101, 32, 116, 114, 121, 32, 116, 121, 112, 101, 111, 102, 32, 117, 105, 110, 116, 32, 117, 108, 111, 110, 103, 32, 117, 110, 99, 104, 101, 99, 107, 101, 100, 32, 117, 110, 115, 97, 102, 101, 32, 117, 115, 104, 111, 114, 116, 32, 117, 115, 105, 110, 103, 32, 118, 105, 114, 116, 117, 97, 108, 32, 118, 111, 105, 100, 32, 118, 111, 108, 97, 116, 105, 108, 101, 10, 119, 104, 105, 108, 101]
noncomputable def vF : PV := .str [120, 32, 95, 32, 97, 49, 32, 95, 48, 32, 101, 32, 117, 32, 76, 32, 102, 32, 120, 48, 98, 32, 90, 57, 95, 32, 105, 110, 116, 120, 32, 99, 108, 97, 115, 115, 101, 115, 32, 73, 102, 32, 110, 97, 109, 101, 111, 102, 32, 118, 97, 114, 32, 121, 105, 101, 108, 100, 32, 97, 119, 97, 105, 116, 32, 97, 115, 121, 110, 99, 32, 103, 101, 116, 32, 115, 101, 116, 32, 118, 97, 108, 117, 101, 32, 97, 100, 100, 10, 114, 101, 109, 111, 118, 101, 32, 119, 104, 101, 114, 101, 32, 119, 104, 101, 110, 32, 112, 97, 114, 116, 105, 97, 108]
noncomputable def vG : PV := .str [123, 32, 125, 32, 91, 32, 93, 32, 40, 32, 41, 32, 46, 32, 44, 32, 58, 32, 59, 32, 43, 32, 45, 32, 42, 32, 47, 32, 37, 32, 38, 32, 124, 32, 94, 32, 33, 32, 126, 32, 61, 32, 60, 32, 62, 32, 63, 32, 43, 43, 32, 45, 45, 32, 38, 38, 32, 124, 124, 32, 61, 61, 32, 33, 61, 32, 60, 61, 32, 62, 61, 32, 43, 61, 32, 45, 61, 32, 42, 61, 32, 47, 61, 32, 37, 61, 10, 38, 61, 32, 124, 61, 32, 94, 61, 32, 60, 60, 32, 63, 63, 32, 63, 46, 32, 61, 62, 32, 60, 60, 61]
noncomputable def vE : PV := .str [43, 43, 43, 32, 43, 43, 32, 43, 124, 45, 45, 62, 32, 45, 45, 32, 62, 124, 60, 60, 60, 61, 32, 60, 60, 32, 60, 61, 124, 60, 60, 61, 61, 32, 60, 60, 61, 32, 61, 124, 62, 62, 32, 62, 32, 62, 124, 62, 62, 61, 32, 62, 32, 62, 61, 124, 62, 62, 61, 61, 32, 62, 32, 62, 32, 61, 61, 124, 62, 61, 61, 32, 62, 32, 61, 61, 124, 60, 61, 61, 32, 60, 61, 32, 61, 124, 61, 62, 61, 32, 61, 62, 32, 61, 10, 63, 63, 46, 32, 63, 63, 32, 46, 124, 63, 63, 63, 32, 63, 63, 32, 63, 124, 38, 38, 38, 61, 32, 38, 38, 32, 38, 61, 124, 33, 61, 61, 32, 33, 61, 32, 61, 124, 63, 46, 91, 32, 63, 46, 32, 91, 124, 94, 61, 61, 32, 94, 61, 32, 61, 124, 37, 61, 62, 32, 37, 61, 32, 62, 124, 61, 62, 62, 32, 61, 62, 32, 62, 124, 45, 61, 45, 32, 45, 61, 32, 45, 124, 42, 61, 42, 32, 42, 61, 32, 42, 124, 61, 61, 62, 32, 61, 61, 32, 62]
noncomputable def y5 : PV := .fl [.tup [.str [39, 39], .str [], .fl [.tup [.int 1011, .int 0]]], .tup [.str [39, 97, 98, 39], .str [], .fl [.tup [.int 1012, .int 0]]], .tup [.str [39, 97, 92, 39, 98, 39], .str [], .fl [.tup [.int 1012, .int 0]]], .tup [.str [39, 92, 85, 48, 48, 48, 49, 70, 54, 48, 48, 39], .str [], .fl [.tup [.int 1012, .int 0]]], .tup [.str [39, 128512, 39], .str [], .fl [.tup [.int 1012, .int 0]]], .tup [.str [39, 92, 113, 39], .str [], .fl [.tup [.int 1009, .int 1]]], .tup [.str [39, 92, 117, 49, 50, 39], .str [], .fl [.tup [.int 1009, .int 1]]], .tup [.str [39, 92, 120, 39], .str [], .fl [.tup [.int 1009, .int 1]]], .tup [.str [39, 92, 113, 97, 39], .str [], .fl [.tup [.int 1009, .int 1], .tup [.int 1012, .int 0]]], .tup [.str [39, 97, 10], .str [], .fl [.tup [.int 1010, .int 0]]], .tup [.str [39, 13], .str [], .fl [.tup [.int 1010, .int 0]]], .tup [.str [39, 92, 8232], .str [], .fl [.tup [.int 1009, .int 1], .tup [.int 1010, .int 0]]], .tup [.str [39, 97, 98, 133], .str [], .fl [.tup [.int 1010, .int 0]]], .tup [.str [39, 97, 92, 10], .str [], .fl [.tup [.int 1010, .int 0]]], .tup [.str [34, 97, 98, 10], .str [97, 98], .fl [.tup [.int 1010, .int 0]]], .tup [.str [34, 92, 13], .str [], .fl [.tup [.int 1009, .int 1], .tup [.int 1010, .int 0]]], .tup [.str [34, 8233], .str [], .fl [.tup [.int 1010, .int 0]]]]
noncomputable def yO : PV := .fl [.tup [.str [], .fl [], .fl [], .str []], .tup [.str [47, 47, 32, 120], .fl [], .fl [], .str []], .tup [.str [47, 42, 47], .fl [], .fl [.tup [.int 1035, .int 0]], .str []], .tup [.str [47, 42, 32, 42, 32, 47], .fl [], .fl [.tup [.int 1035, .int 0]], .str []], .tup [.str [64, 34, 111, 112], .fl [.tup [.int 4, .str [111, 112], .int 0]], .fl [.tup [.int 1039, .int 0]], .str []], .tup [.str [64, 34, 97, 34, 34], .fl [.tup [.int 4, .str [97, 34], .int 0]], .fl [.tup [.int 1039, .int 0]], .str []], .tup [.str [34, 111, 112], .fl [.tup [.int 4, .str [111, 112], .int 0]], .fl [.tup [.int 1010, .int 0]], .str []], .tup [.str [34, 97, 92], .fl [.tup [.int 4, .str [97], .int 0]], .fl [.tup [.int 1009, .int 2], .tup [.int 1010, .int 0]], .str []], .tup [.str [39], .fl [.tup [.int 5, .int 0, .int 0]], .fl [.tup [.int 1010, .int 0]], .str []], .tup [.str [39, 120], .fl [.tup [.int 5, .int 0, .int 0]], .fl [.tup [.int 1010, .int 0]], .str []], .tup [.str [39, 92], .fl [.tup [.int 5, .int 0, .int 0]], .fl [.tup [.int 1009, .int 1], .tup [.int 1010, .int 0]], .str []], .tup [.str [49, 46, 120], .fl [.tup [.int 3, .tup [.int 1, .str []], .int 0], .tup [.int 6, .str [46], .int 1], .tup [.int 1, .str [120], .int 2]], .fl [], .str []], .tup [.str [50, 101, 43], .fl [.tup [.int 3, .tup [.int 2, .str []], .int 0], .tup [.int 1, .str [101], .int 1], .tup [.int 6, .str [43], .int 2]], .fl [], .str []], .tup [.str [51, 117, 117, 108], .fl [.tup [.int 3, .tup [.int 3, .str [117]], .int 0], .tup [.int 1, .str [117, 108], .int 2]], .fl [], .str []], .tup [.str [52, 108, 117, 108], .fl [.tup [.int 3, .tup [.int 4, .str [117, 108]], .int 0], .tup [.int 1, .str [108], .int 3]], .fl [], .str []], .tup [.str [64], .fl [], .fl [.tup [.int 1646, .int 0]], .str []], .tup [.str [46, 46], .fl [.tup [.int 6, .str [46], .int 0], .tup [.int 6, .str [46], .int 1]], .fl [], .str []], .tup [.str [48, 120, 49, 101, 43, 49], .fl [.tup [.int 3, .tup [.int 30, .str []], .int 0], .tup [.int 6, .str [43], .int 4], .tup [.int 3, .tup [.int 1, .str []], .int 5]], .fl [], .str []], .tup [.str [49, 46, 53], .fl [], .fl [], .str [114, 101, 97, 108]], .tup [.str [55, 101, 43, 50], .fl [], .fl [], .str [114, 101, 97, 108]], .tup [.str [54, 69, 49], .fl [], .fl [], .str [114, 101, 97, 108]], .tup [.str [51, 70], .fl [], .fl [], .str [114, 101, 97, 108]], .tup [.str [49, 95, 48, 109], .fl [], .fl [], .str [114, 101, 97, 108]], .tup [.str [46, 53], .fl [], .fl [], .str [114, 101, 97, 108]], .tup [.str [50, 100], .fl [], .fl [], .str [114, 101, 97, 108]], .tup [.str [49, 102], .fl [], .fl [], .str [114, 101, 97, 108]], .tup [.str [52, 77], .fl [], .fl [], .str [114, 101, 97, 108]], .tup [.str [57, 68], .fl [], .fl [], .str [114, 101, 97, 108]], .tup [.str [51, 101, 45, 49], .fl [], .fl [], .str [114, 101, 97, 108]], .tup [.str [48, 98, 49, 100], .fl [.tup [.int 3, .tup [.int 1, .str []], .int 0], .tup [.int 1, .str [100], .int 3]], .fl [], .str []], .tup [.str [35, 105, 102], .fl [], .fl [], .str [100, 105, 114, 101, 99, 116, 105, 118, 101]], .tup [.str [36, 34, 34], .fl [], .fl [], .str [105, 110, 116, 101, 114, 112, 111, 108, 97, 116, 101, 100]]]
noncomputable def qBW : SC := (qD (sIf (tE (qQ .ge (qg (qC 0) .at) (zn (qg (qC 0) .text)))) (qD (zL (eC (.str [])))
 qK) qK)
 (qD (zL (zm (qg (qC 0) .text) (qg (qC 0) .at)))
 qK))
noncomputable def qM : Fn := zf 1 1 qBW
noncomputable def qBX : SC := (qD (sIf (tE (qQ .ge (qY .add (qg (qC 0) .at) (qC 1)) (zn (qg (qC 0) .text)))) (qD (zL (eC (.str [])))
 qK) qK)
 (qD (zL (zm (qg (qC 0) .text) (qY .add (qg (qC 0) .at) (qC 1))))
 qK))
noncomputable def qe : Fn := zf 2 2 qBX
noncomputable def qEU : SC := (qD (qc (qw (qg (qC 0) .tokens) (qZ (qB (qC 1) (qB (qC 2) (qB (qC 3) qI))))))
 qK)
noncomputable def zN : Fn := zf 4 4 qEU
noncomputable def qAE : SC := (qD (qc (qw (qg (qC 0) .rows) (qZ (qB (qC 1) (qB (qC 2) (qB (qC 3) qI))))))
 qK)
noncomputable def dB : Fn := zf 4 4 qAE
noncomputable def qAF : SC := (qD (qc (qK7 dB (qg (qC 0) .diags) (qB (qC 1) (qB (qC 2) (qB (qC 3) qI)))))
 qK)
noncomputable def qp : Fn := zf 4 4 qAF
noncomputable def qBY : SC := (qD (sIf (tE (vA .le .le (eC (.str [48])) (qC 0) (eC (.str [57])))) (qD (zL (qY .sub (qCC (qC 0)) (eC (.int 48))))
 qK) qK)
 (qD (sIf (tE (vA .le .le (eC (.str [97])) (qC 0) (eC (.str [102])))) (qD (zL (qY .sub (qCC (qC 0)) (eC (.int 87))))
 qK) qK)
 (qD (sIf (tE (vA .le .le (eC (.str [65])) (qC 0) (eC (.str [70])))) (qD (zL (qY .sub (qCC (qC 0)) (eC (.int 55))))
 qK) qK)
 (qD (zL (eC (.int 99)))
 qK))))
noncomputable def zI : Fn := zf 1 1 qBY
noncomputable def kd : SC := (qD (sIf (tOr (tE (vA .le .le (eC (.str [97])) (qC 0) (eC (.str [122])))) (tOr (tE (vA .le .le (eC (.str [65])) (qC 0) (eC (.str [90])))) (tE (qQ .eq (qC 0) (eC (.str [95])))))) (qD (zL (eC (.bool true)))
 qK) qK)
 (qD (zL (qN5 (vA .lt .le (eC (.str [127])) (qC 0) (eC (.str [65535]))) (qIQ (qC 0))))
 qK))
noncomputable def zZ : Fn := zf 1 1 kd
noncomputable def qKT : SC := (qD (kF 1)
 (qD (qHH 2 (qC 0) (qD (qV 3 (qCC (qC 2)))
 (qD (sIf (tE (qQ .gt (qC 3) (eC (.int 65535)))) (qD (j3 .sub 3 (eC (.int 65536)))
 (qD (qc (qw (qC 1) (qGG (qY .add (eC (.int 55296)) (qY .shr (qC 3) (eC (.int 10)))))))
 (qD (qc (qw (qC 1) (qGG (qY .add (eC (.int 56320)) (qY .band (qC 3) (eC (.int 1023)))))))
 qK))) (qD (qc (qw (qC 1) (qC 2)))
 qK))
 qK)))
 (qD (zL (qIR (qC 1)))
 qK)))
noncomputable def zq : Fn := zf 1 4 qKT
noncomputable def qBA : SC := (qD (qV 1 (qg (qC 0) .at))
 (qD (qq (qC 0) (eC (.int 2)))
 (qD (kF 2)
 (qD (whileC (tE (eC (.bool true))) (qD (qV 3 (qE1 (qg (qC 0) .text) (eC (.str [34])) (qg (qC 0) .at)))
 (qD (sIf (tE (qQ .lt (qC 3) (eC (.int 0)))) (qD (qc (qw (qC 2) (jk (qg (qC 0) .text) (qg (qC 0) .at))))
 (qD (qc (qO qp (qC 0) (qB (eC (.int 1039)) (qB (qC 1) (qB (qZ qI) qI)))))
 (qD (u0 (qC 0) (zn (qg (qC 0) .text)))
 (qD qHG
 qK)))) qK)
 (qD (qc (qw (qC 2) (yt (qg (qC 0) .text) (qg (qC 0) .at) (qC 3))))
 (qD (u0 (qC 0) (qY .add (qC 3) (eC (.int 1))))
 (qD (sIf (tE (qQ .ne (qO qM (qC 0) qI) (eC (.str [34])))) (qD qHG
 qK) qK)
 (qD (qc (qw (qC 2) (eC (.str [34]))))
 (qD (qq (qC 0) (eC (.int 1)))
 qK))))))))
 (qD (qc (qO zN (qC 0) (qB (eC vn) (qB (qT zq (qB (qIR (qC 2)) qI)) (qB (qC 1) qI)))))
 qK)))))
noncomputable def vR : Fn := zf 1 4 qBA
noncomputable def ku : SC := (qD (zL (eOr (qT zZ (qB (qC 0) qI)) (vA .le .le (eC (.str [48])) (qC 0) (eC (.str [57])))))
 qK)
noncomputable def jF : Fn := zf 1 1 ku
noncomputable def qAH : SC := (qD (qV 1 (qg (qC 0) .at))
 (qD (sIf (tE (qT zZ (qB (qO qM (qC 0) qI) qI))) (qD (whileC (tE (qT jF (qB (qO qM (qC 0) qI) qI))) (qD (qq (qC 0) (eC (.int 1)))
 qK))
 qK) qK)
 (qD (zL (yt (qg (qC 0) .text) (qC 1) (qg (qC 0) .at)))
 qK)))
noncomputable def jP : Fn := zf 1 2 qAH
noncomputable def qH7 : SC := (qD (qV 1 (qg (qC 0) .at))
 (qD (sIf (tE (qQ .eq (qO qe (qC 0) (qB (eC (.int 1)) qI)) (eC (.str [34])))) (qD (qc (qT vR (qB (qC 0) qI)))
 (qD qFV
 qK)) qK)
 (qD (qq (qC 0) (eC (.int 1)))
 (qD (qV 2 (qT jP (qB (qC 0) qI)))
 (qD (sIf (tE (qQ .eq (qC 2) (eC (.str [])))) (qD (qc (qO qp (qC 0) (qB (eC (.int 1646)) (qB (qC 1) (qB (qZ qI) qI)))))
 qK) (qD (qc (qO zN (qC 0) (qB (eC vl) (qB (qC 2) (qB (qC 1) qI)))))
 qK))
 qK)))))
noncomputable def qCJ : Fn := zf 1 3 qH7
noncomputable def gk : SC := (qD (qV 2 (eC (.int 0)))
 (qD (qV 3 (eC (.str [95])))
 (qD (whileC (tOr (tE (qQ .eq (qO qM (qC 0) qI) (eC (.str [95])))) (tE (qQ .lt (qT zI (qB (qO qM (qC 0) qI) qI)) (qC 1)))) (qD (qV 3 (qO qM (qC 0) qI))
 (qD (sIf (tE (qQ .ne (qC 3) (eC (.str [95])))) (qD (qV 2 (qY .add (qY .mul (qC 2) (qC 1)) (qT zI (qB (qC 3) qI))))
 qK) qK)
 (qD (qq (qC 0) (eC (.int 1)))
 qK))))
 (qD (zL (qZ (qB (qC 2) (qB (qQ .ne (qC 3) (eC (.str [95]))) qI))))
 qK))))
noncomputable def jV : Fn := zf 2 4 gk
noncomputable def vQ : SC := (qD (qV 1 (eC (.bool false)))
 (qD (qV 2 (eC (.bool false)))
 (qD (whileC (tE (eC (.bool true))) (qD (qV 3 (qO qM (qC 0) qI))
 (qD (sIf (zb (tOr (tE (qQ .eq (qC 3) (eC (.str [117])))) (tE (qQ .eq (qC 3) (eC (.str [85]))))) (ve (tE (qC 1)))) (qD (qV 1 (eC (.bool true)))
 qK) (qD (sIf (zb (tOr (tE (qQ .eq (qC 3) (eC (.str [108])))) (tE (qQ .eq (qC 3) (eC (.str [76]))))) (ve (tE (qC 2)))) (qD (qV 2 (eC (.bool true)))
 qK) (qD qHG
 qK))
 qK))
 (qD (qq (qC 0) (eC (.int 1)))
 qK))))
 (qD (qV 4 (eC (.str [])))
 (qD (sIf (tE (qC 1)) (qD (qV 4 (eC (.str [117])))
 qK) qK)
 (qD (sIf (tE (qC 2)) (qD (j3 .add 4 (eC (.str [108])))
 qK) qK)
 (qD (zL (qC 4))
 qK)))))))
noncomputable def yL : Fn := zf 1 5 vQ
noncomputable def jh : SC := (qD (qV 2 (qO qM (qC 0) qI))
 (qD (qV 3 (eIn zO (qC 2)))
 (qD (sIf (zb (tE (qQ .eq (qC 2) (eC (.str [46])))) (tE (qQ .lt (qT zI (qB (qO qe (qC 0) (qB (eC (.int 1)) qI)) qI)) (eC (.int 10))))) (qD (qV 3 (eC (.bool true)))
 qK) qK)
 (qD (sIf (tOr (tE (qQ .eq (qC 2) (eC (.str [101])))) (tE (qQ .eq (qC 2) (eC (.str [69]))))) (qD (qV 4 (qO qe (qC 0) (qB (eC (.int 1)) qI)))
 (qD (sIf (tOr (tE (qQ .eq (qC 4) (eC (.str [43])))) (tE (qQ .eq (qC 4) (eC (.str [45]))))) (qD (qV 4 (qO qe (qC 0) (qB (eC (.int 2)) qI)))
 qK) qK)
 (qD (qV 3 (qQ .lt (qT zI (qB (qC 4) qI)) (eC (.int 10))))
 qK))) qK)
 (qD (sIf (tE (qC 3)) (qD (uZ [114, 101, 97, 108] (qC 1))
 qK) qK)
 qK)))))
noncomputable def zr : Fn := zf 2 5 jh
noncomputable def wN : SC := (qD (qV 1 (qg (qC 0) .at))
 (qD (qV 2 (eC (.int 10)))
 (qD (sIf (zb (tE (qQ .eq (qO qM (qC 0) qI) (eC (.str [48])))) (tOr (tE (qQ .eq (qO qe (qC 0) (qB (eC (.int 1)) qI)) (eC (.str [120])))) (tE (qQ .eq (qO qe (qC 0) (qB (eC (.int 1)) qI)) (eC (.str [88])))))) (qD (qV 2 (eC (.int 16)))
 qK) (qD (sIf (zb (tE (qQ .eq (qO qM (qC 0) qI) (eC (.str [48])))) (tOr (tE (qQ .eq (qO qe (qC 0) (qB (eC (.int 1)) qI)) (eC (.str [98])))) (tE (qQ .eq (qO qe (qC 0) (qB (eC (.int 1)) qI)) (eC (.str [66])))))) (qD (qV 2 (eC (.int 2)))
 qK) qK)
 qK))
 (qD (sIf (tE (qQ .ne (qC 2) (eC (.int 10)))) (qD (qq (qC 0) (eC (.int 2)))
 qK) qK)
 (qD (zz [3, 4] (qT jV (qB (qC 0) (qB (qC 2) qI))))
 (qD (sIf (tE (qQ .eq (qC 2) (eC (.int 10)))) (qD (vU zr (qB (qC 0) (qB (qC 1) qI)))
 qK) qK)
 (qD (sIf (tE (qQ .lt (qT zI (qB (qO qM (qC 0) qI) qI)) (eC (.int 10)))) (qD (qV 4 (eC (.bool false)))
 (qD (qc (qT jV (qB (qC 0) (qB (eC (.int 10)) qI))))
 qK)) qK)
 (qD (qV 5 (qT yL (qB (qC 0) qI)))
 (qD (sIf (ve (tE (qC 4))) (qD (qc (qO qp (qC 0) (qB (eC (.int 1013)) (qB (qC 1) (qB (qZ qI) qI)))))
 (qD (qV 3 (eC (.int 0)))
 qK)) (qD (sIf (tE (qQ .gt (qC 3) (eC kT))) (qD (qc (qO qp (qC 0) (qB (eC (.int 1021)) (qB (qC 1) (qB (qZ qI) qI)))))
 (qD (qV 3 (eC (.int 0)))
 qK)) qK)
 qK))
 (qD (qc (qO zN (qC 0) (qB (eC gD) (qB (qZ (qB (qC 3) (qB (qC 5) qI))) (qB (qC 1) qI)))))
 qK))))))))))
noncomputable def vk : Fn := zf 1 6 wN
noncomputable def uH : SC := (qD (qV 2 (qT jP (qB (qC 0) qI)))
 (qD (sIf (tE (eIn y7 (qC 2))) (qD (qc (qO zN (qC 0) (qB (eC wX) (qB (qC 2) (qB (qC 1) qI)))))
 qK) (qD (qc (qO zN (qC 0) (qB (eC vl) (qB (qC 2) (qB (qC 1) qI)))))
 qK))
 qK))
noncomputable def uU : Fn := zf 2 3 uH
noncomputable def dw : SC := (qD (zL (eIn jR (qC 0)))
 qK)
noncomputable def qn : Fn := zf 1 1 dw
noncomputable def uI : SC := (qD (qV 3 (eC (.int 0)))
 (qD (qV 4 (eC (.int 0)))
 (qD (whileC (zb (tE (qQ .lt (qC 4) (qC 2))) (tE (qQ .lt (qT zI (qB (qO qM (qC 0) qI) qI)) (eC (.int 16))))) (qD (qV 3 (qY .add (qY .mul (qC 3) (eC (.int 16))) (qT zI (qB (qO qM (qC 0) qI) qI))))
 (qD (j3 .add 4 (eC (.int 1)))
 (qD (qq (qC 0) (eC (.int 1)))
 qK))))
 (qD (sIf (tE (qQ .lt (qC 4) (qC 1))) (qD (zL (eC (.int (-1))))
 qK) qK)
 (qD (zL (qC 3))
 qK)))))
noncomputable def jG : Fn := zf 3 5 uI
noncomputable def gm : SC := (qD (qV 1 (qg (qC 0) .at))
 (qD (qq (qC 0) (eC (.int 1)))
 (qD (qV 2 (qO qM (qC 0) qI))
 (qD (sIf (tE (eIn qv (qC 2))) (qD (qq (qC 0) (eC (.int 1)))
 (qD (zL (qVB t_LEX_ESCAPES (qC 2)))
 qK)) qK)
 (qD (qV 3 (eC (.int (-1))))
 (qD (sIf (tE (qQ .eq (qC 2) (eC (.str [117])))) (qD (qq (qC 0) (eC (.int 1)))
 (qD (qV 3 (qT jG (qB (qC 0) (qB (eC (.int 4)) (qB (eC (.int 4)) qI)))))
 qK)) (qD (sIf (tE (qQ .eq (qC 2) (eC (.str [120])))) (qD (qq (qC 0) (eC (.int 1)))
 (qD (qV 3 (qT jG (qB (qC 0) (qB (eC (.int 1)) (qB (eC (.int 4)) qI)))))
 qK)) (qD (sIf (tE (qQ .eq (qC 2) (eC (.str [85])))) (qD (qq (qC 0) (eC (.int 1)))
 (qD (qV 3 (qT jG (qB (qC 0) (qB (eC (.int 8)) (qB (eC (.int 8)) qI)))))
 qK)) (qD (sIf (zb (tE (qQ .ne (qC 2) (eC (.str [])))) (ve (tE (qT qn (qB (qC 2) qI))))) (qD (qq (qC 0) (eC (.int 1)))
 qK) qK)
 qK))
 qK))
 qK))
 (qD (sIf (tOr (tE (qQ .lt (qC 3) (eC (.int 0)))) (tE (qQ .gt (qC 3) (eC (.int 1114111))))) (qD (qc (qO qp (qC 0) (qB (eC (.int 1009)) (qB (qC 1) (qB (qZ qI) qI)))))
 (qD (zL (eC (.str [])))
 qK)) qK)
 (qD (zL (qT zq (qB (qGG (qC 3)) qI)))
 qK))))))))
noncomputable def jD : Fn := zf 1 4 gm
noncomputable def qIA : SC := (qD (qV 1 (eC (.int 0)))
 (qD (whileC (zb (tE (qQ .ne (qO qM (qC 0) qI) (eC (.str [39])))) (zb (tE (qQ .ne (qO qM (qC 0) qI) (eC (.str [])))) (ve (tE (qT qn (qB (qO qM (qC 0) qI) qI)))))) (qD (sIf (zb (tE (qQ .eq (qO qM (qC 0) qI) (eC (.str [92])))) (zb (tE (qQ .ne (qO qe (qC 0) (qB (eC (.int 1)) qI)) (eC (.str [])))) (ve (tE (qT qn (qB (qO qe (qC 0) (qB (eC (.int 1)) qI)) qI)))))) (qD (qq (qC 0) (eC (.int 1)))
 qK) qK)
 (qD (qq (qC 0) (eC (.int 1)))
 (qD (j3 .add 1 (eC (.int 1)))
 qK))))
 (qD (zL (qC 1))
 qK)))
noncomputable def gV : Fn := zf 1 2 qIA
noncomputable def qH8 : SC := (qD (qV 1 (qg (qC 0) .at))
 (qD (qq (qC 0) (eC (.int 1)))
 (qD (qV 2 (qO qM (qC 0) qI))
 (qD (qV 3 (qC 2))
 (qD (qV 4 (eC (.int 1)))
 (qD (sIf (tE (qQ .eq (qC 2) (eC (.str [39])))) (qD (qc (qO qp (qC 0) (qB (eC (.int 1011)) (qB (qC 1) (qB (qZ qI) qI)))))
 (qD (qV 4 (eC (.int 0)))
 qK)) (qD (sIf (tE (qQ .eq (qC 2) (eC (.str [92])))) (qD (qV 3 (qT jD (qB (qC 0) qI)))
 qK) (qD (sIf (zb (tE (qQ .ne (qC 2) (eC (.str [])))) (ve (tE (qT qn (qB (qC 2) qI))))) (qD (qV 3 (qT zq (qB (qC 2) qI)))
 (qD (qq (qC 0) (eC (.int 1)))
 qK)) qK)
 qK))
 qK))
 (qD (sIf (zb (tE (qQ .eq (qC 4) (eC (.int 1)))) (tE (qQ .ne (qO qM (qC 0) qI) (eC (.str [39]))))) (qD (j3 .add 4 (qT gV (qB (qC 0) qI)))
 qK) qK)
 (qD (sIf (tE (qQ .eq (qO qM (qC 0) qI) (eC (.str [39])))) (qD (qq (qC 0) (eC (.int 1)))
 (qD (sIf (tOr (tE (qQ .gt (qC 4) (eC (.int 1)))) (tE (qQ .gt (zn (qC 3)) (eC (.int 1))))) (qD (qc (qO qp (qC 0) (qB (eC (.int 1012)) (qB (qC 1) (qB (qZ qI) qI)))))
 (qD (qV 4 (eC (.int 2)))
 qK)) qK)
 qK)) (qD (qc (qO qp (qC 0) (qB (eC (.int 1010)) (qB (qC 1) (qB (qZ qI) qI)))))
 (qD (qV 4 (eC (.int 0)))
 qK)))
 (qD (qV 5 (eC (.int 0)))
 (qD (sIf (zb (tE (qQ .eq (qC 4) (eC (.int 1)))) (tE (qQ .ne (qC 3) (eC (.str []))))) (qD (qV 5 (qCC (qC 3)))
 qK) qK)
 (qD (qc (qO zN (qC 0) (qB (eC kB) (qB (qC 5) (qB (qC 1) qI)))))
 qK)))))))))))
noncomputable def dD : Fn := zf 1 6 qH8
noncomputable def qAG : SC := (qD (qV 1 (eC dG))
 (qD (whileC (tE (qQ .gt (qC 1) (eC (.int 0)))) (qD (qV 2 (yt (qg (qC 0) .text) (qg (qC 0) .at) (qY .add (qg (qC 0) .at) (qC 1))))
 (qD (sIf (zb (tE (eIn zt (qC 2))) (ve (zb (tE (qQ .eq (qC 2) (eC (.str [62, 61])))) (tE (qQ .eq (qO qe (qC 0) (qB (eC (.int 2)) qI)) (eC (.str [61]))))))) (qD (qc (qO zN (qC 0) (qB (eC vm) (qB (qC 2) (qB (qg (qC 0) .at) qI)))))
 (qD (qq (qC 0) (zn (qC 2)))
 (qD qFV
 qK))) qK)
 (qD (j3 .sub 1 (eC (.int 1)))
 qK))))
 (qD (qc (qO qp (qC 0) (qB (eC (.int 1056)) (qB (qg (qC 0) .at) (qB (qZ (qB (qO qM (qC 0) qI) qI)) qI)))))
 (qD (qq (qC 0) (eC (.int 1)))
 qK))))
noncomputable def vC : Fn := zf 1 3 qAG
noncomputable def qH9 : SC := (qD (qV 1 (qg (qC 0) .at))
 (qD (qq (qC 0) (eC (.int 1)))
 (qD (kF 2)
 (qD (whileC (tE (qQ .ne (qO qM (qC 0) qI) (eC (.str [34])))) (qD (qV 3 (qO qM (qC 0) qI))
 (qD (sIf (tOr (tE (qQ .eq (qC 3) (eC (.str [])))) (tE (qT qn (qB (qC 3) qI)))) (qD (qc (qO qp (qC 0) (qB (eC (.int 1010)) (qB (qC 1) (qB (qZ qI) qI)))))
 (qD qHG
 qK)) qK)
 (qD (sIf (tE (qQ .eq (qC 3) (eC (.str [92])))) (qD (qc (qw (qC 2) (qT jD (qB (qC 0) qI))))
 qK) (qD (qc (qw (qC 2) (qT zq (qB (qC 3) qI))))
 (qD (qq (qC 0) (eC (.int 1)))
 qK)))
 qK))))
 (qD (sIf (tE (qQ .eq (qO qM (qC 0) qI) (eC (.str [34])))) (qD (qq (qC 0) (eC (.int 1)))
 qK) qK)
 (qD (qc (qO zN (qC 0) (qB (eC vn) (qB (qIR (qC 2)) (qB (qC 1) qI)))))
 qK))))))
noncomputable def dE : Fn := zf 1 4 qH9
noncomputable def wO : SC := (qD (qV 1 (qO qM (qC 0) qI))
 (qD (sIf (tE (qT zZ (qB (qC 1) qI))) (qD (qc (qT uU (qB (qC 0) (qB (qg (qC 0) .at) qI))))
 qK) (qD (sIf (tE (vA .le .le (eC (.str [48])) (qC 1) (eC (.str [57])))) (qD (vU vk (qB (qC 0) qI))
 qK) (qD (sIf (tE (qQ .eq (qC 1) (eC (.str [34])))) (qD (qc (qT dE (qB (qC 0) qI)))
 qK) (qD (sIf (tE (qQ .eq (qC 1) (eC (.str [39])))) (qD (qc (qT dD (qB (qC 0) qI)))
 qK) (qD (sIf (tE (qQ .eq (qC 1) (eC (.str [64])))) (qD (qc (qT qCJ (qB (qC 0) qI)))
 qK) (qD (sIf (zb (tE (qQ .eq (qC 1) (eC (.str [46])))) (tE (qQ .lt (qT zI (qB (qO qe (qC 0) (qB (eC (.int 1)) qI)) qI)) (eC (.int 10))))) (qD (uZ [114, 101, 97, 108] (qg (qC 0) .at))
 qK) (qD (sIf (tE (qQ .eq (qC 1) (eC (.str [35])))) (qD (uZ [100, 105, 114, 101, 99, 116, 105, 118, 101] (qg (qC 0) .at))
 qK) (qD (sIf (tE (qQ .eq (qC 1) (eC (.str [36])))) (qD (uZ [105, 110, 116, 101, 114, 112, 111, 108, 97, 116, 101, 100] (qg (qC 0) .at))
 qK) (qD (qc (qT vC (qB (qC 0) qI)))
 qK))
 qK))
 qK))
 qK))
 qK))
 qK))
 qK))
 qK))
 qK))
noncomputable def yk : Fn := zf 1 2 wO
noncomputable def yW : SC := (qD (qV 1 (qE1 (qg (qC 0) .text) (eC (.str [42, 47])) (qY .add (qg (qC 0) .at) (eC (.int 2)))))
 (qD (sIf (tE (qQ .lt (qC 1) (eC (.int 0)))) (qD (qc (qO qp (qC 0) (qB (eC (.int 1035)) (qB (qg (qC 0) .at) (qB (qZ qI) qI)))))
 (qD (u0 (qC 0) (zn (qg (qC 0) .text)))
 qK)) (qD (u0 (qC 0) (qY .add (qC 1) (eC (.int 2))))
 qK))
 qK))
noncomputable def jx : Fn := zf 1 2 yW
noncomputable def kw : SC := (qD (whileC (zb (tE (qQ .ne (qO qM (qC 0) qI) (eC (.str [])))) (ve (tE (qT qn (qB (qO qM (qC 0) qI) qI))))) (qD (qq (qC 0) (eC (.int 1)))
 qK))
 qK)
noncomputable def vD : Fn := zf 1 1 kw
noncomputable def gn : SC := (qD (whileC (tE (eC (.bool true))) (qD (qV 1 (qO qM (qC 0) qI))
 (qD (sIf (tE (eIn vI (qC 1))) (qD (qq (qC 0) (eC (.int 1)))
 qK) (qD (sIf (zb (tE (qQ .eq (qC 1) (eC (.str [47])))) (tE (qQ .eq (qO qe (qC 0) (qB (eC (.int 1)) qI)) (eC (.str [47]))))) (qD (qc (qT vD (qB (qC 0) qI)))
 qK) (qD (sIf (zb (tE (qQ .eq (qC 1) (eC (.str [47])))) (tE (qQ .eq (qO qe (qC 0) (qB (eC (.int 1)) qI)) (eC (.str [42]))))) (qD (qc (qT jx (qB (qC 0) qI)))
 qK) (qD qFV
 qK))
 qK))
 qK))
 qK)))
 qK)
noncomputable def yK : Fn := zf 1 2 gn
noncomputable def qML : SC := (qD (qL4 2 (qC 0) (qC 1))
 (qD (qc (qT yK (qB (qC 2) qI)))
 (qD (whileC (tE (qQ .lt (qg (qC 2) .at) (zn (qC 0)))) (qD (vU yk (qB (qC 2) qI))
 (qD (qc (qT yK (qB (qC 2) qI)))
 qK)))
 (qD (qc (qO zN (qC 2) (qB (eC gC) (qB (eC (.str [])) (qB (zn (qC 0)) qI)))))
 (qD (zL (qg (qC 2) .tokens))
 qK)))))
noncomputable def gA : Fn := qAT 2 3 qML
noncomputable def qEF : SC := (qD (zL (zi (qB (eC (.int 0)) (qB (eC (.int 1)) (qB (eC (.int 7)) (qB (eC (.int 10)) (qB (eC (.int 255)) (qB (eC (.int 2147483647)) (qB (eC (.int 2147483648)) (qB (eC (.int 4294967295)) (qB (eC (.int 9223372036854775808)) (qB (eC (.int 18446744073709551615)) (qB (eC (.int 18446744073709551616)) (qB (eC (.int 99999999999999999999)) qI))))))))))))))
 qK)
noncomputable def yI : Fn := zf 0 0 qEF
noncomputable def qH6 : SC := (qD (zL (zi (qB (qZ (qB (eC (.str [])) (qB (eC (.str [])) qI))) (qB (qZ (qB (eC (.str [117])) (qB (eC (.str [117])) qI))) (qB (qZ (qB (eC (.str [85])) (qB (eC (.str [117])) qI))) (qB (qZ (qB (eC (.str [108])) (qB (eC (.str [108])) qI))) (qB (qZ (qB (eC (.str [76])) (qB (eC (.str [108])) qI))) (qB (qZ (qB (eC (.str [117, 108])) (qB (eC (.str [117, 108])) qI))) (qB (qZ (qB (eC (.str [76, 117])) (qB (eC (.str [117, 108])) qI))) (qB (qZ (qB (eC (.str [76, 85])) (qB (eC (.str [117, 108])) qI))) (qB (qZ (qB (eC (.str [108, 85])) (qB (eC (.str [117, 108])) qI))) (qB (qZ (qB (eC (.str [85, 76])) (qB (eC (.str [117, 108])) qI))) qI))))))))))))
 qK)
noncomputable def vB : Fn := zf 0 0 qH6
noncomputable def ug : SC := (qD (zL (zi (qB (qZ (qB (eC (.str [48, 120])) (qB (eC (.str [])) qI))) (qB (qZ (qB (eC (.str [48, 98])) (qB (eC (.str [])) qI))) (qB (qZ (qB (eC (.str [49, 95])) (qB (eC (.str [])) qI))) (qB (qZ (qB (eC (.str [48, 120, 95])) (qB (eC (.str [])) qI))) (qB (qZ (qB (eC (.str [48, 98, 50])) (qB (eC (.str [])) qI))) (qB (qZ (qB (eC (.str [48, 98, 49, 48, 50, 117])) (qB (eC (.str [117])) qI))) (qB (qZ (qB (eC (.str [53, 95, 95, 76])) (qB (eC (.str [108])) qI))) (qB (qZ (qB (eC (.str [48, 88, 95, 108])) (qB (eC (.str [108])) qI))) (qB (qZ (qB (eC (.str [48, 98, 49, 95, 117])) (qB (eC (.str [117])) qI))) qI)))))))))))
 qK)
noncomputable def jO : Fn := zf 0 0 ug
noncomputable def qF0 : SC := (qD (zL (zi (qB (qZ (qB (eC (.str [97])) (qB (eC (.str [97])) (qB (eC (.int 0)) qI)))) (qB (qZ (qB (eC (.str [90, 57, 32])) (qB (eC (.str [90, 57, 32])) (qB (eC (.int 0)) qI)))) (qB (qZ (qB (eC (.str [39])) (qB (eC (.str [39])) (qB (eC (.int 0)) qI)))) (qB (qZ (qB (eC (.str [47, 47])) (qB (eC (.str [47, 47])) (qB (eC (.int 0)) qI)))) (qB (qZ (qB (eC (.str [47, 42])) (qB (eC (.str [47, 42])) (qB (eC (.int 0)) qI)))) (qB (qZ (qB (eC (.str [9])) (qB (eC (.str [9])) (qB (eC (.int 0)) qI)))) (qB (qZ (qB (eC (.str [233])) (qB (eC (.str [233])) (qB (eC (.int 0)) qI)))) (qB (qZ (qB (eC (.str [128512])) (qB (eC (.str [55357, 56832])) (qB (eC (.int 0)) qI)))) (qB (qZ (qB (eC (.str [92, 39])) (qB (eC (.str [39])) (qB (eC (.int 0)) qI)))) (qB (qZ (qB (eC (.str [92, 34])) (qB (eC (.str [34])) (qB (eC (.int 0)) qI)))) (qB (qZ (qB (eC (.str [92, 92])) (qB (eC (.str [92])) (qB (eC (.int 0)) qI)))) (qB (qZ (qB (eC (.str [92, 48])) (qB (eC (.str [0])) (qB (eC (.int 0)) qI)))) (qB (qZ (qB (eC (.str [92, 97])) (qB (eC (.str [7])) (qB (eC (.int 0)) qI)))) (qB (qZ (qB (eC (.str [92, 98])) (qB (eC (.str [8])) (qB (eC (.int 0)) qI)))) (qB (qZ (qB (eC (.str [92, 102])) (qB (eC (.str [12])) (qB (eC (.int 0)) qI)))) (qB (qZ (qB (eC (.str [92, 110])) (qB (eC (.str [10])) (qB (eC (.int 0)) qI)))) (qB (qZ (qB (eC (.str [92, 114])) (qB (eC (.str [13])) (qB (eC (.int 0)) qI)))) (qB (qZ (qB (eC (.str [92, 116])) (qB (eC (.str [9])) (qB (eC (.int 0)) qI)))) (qB (qZ (qB (eC (.str [92, 118])) (qB (eC (.str [11])) (qB (eC (.int 0)) qI)))) (qB (qZ (qB (eC (.str [92, 117, 48, 48, 101, 57])) (qB (eC (.str [233])) (qB (eC (.int 0)) qI)))) (qB (qZ (qB (eC (.str [92, 117, 68, 56, 51, 68, 97])) (qB (eC (.str [55357, 97])) (qB (eC (.int 0)) qI)))) (qB (qZ (qB (eC (.str [92, 120, 55, 59])) (qB (eC (.str [7, 59])) (qB (eC (.int 0)) qI)))) (qB (qZ (qB (eC (.str [92, 120, 52, 49, 103])) (qB (eC (.str [65, 103])) (qB (eC (.int 0)) qI)))) (qB (qZ (qB (eC (.str [92, 120, 48, 48, 52, 49, 102])) (qB (eC (.str [65, 102])) (qB (eC (.int 0)) qI)))) (qB (qZ (qB (eC (.str [92, 85, 48, 48, 48, 49, 70, 54, 48, 48])) (qB (eC (.str [55357, 56832])) (qB (eC (.int 0)) qI)))) (qB (qZ (qB (eC (.str [92, 85, 48, 48, 49, 48, 102, 102, 102, 70])) (qB (eC (.str [56319, 57343])) (qB (eC (.int 0)) qI)))) (qB (qZ (qB (eC (.str [92, 113])) (qB (eC (.str [])) (qB (eC (.int 1)) qI)))) (qB (qZ (qB (eC (.str [92, 117, 49, 50, 59])) (qB (eC (.str [59])) (qB (eC (.int 1)) qI)))) (qB (qZ (qB (eC (.str [92, 120, 103])) (qB (eC (.str [103])) (qB (eC (.int 1)) qI)))) (qB (qZ (qB (eC (.str [92, 85, 48, 48, 49, 49, 48, 48, 48, 48])) (qB (eC (.str [])) (qB (eC (.int 1)) qI)))) (qB (qZ (qB (eC (.str [92, 85, 49, 50, 51, 52, 53, 54, 55, 59])) (qB (eC (.str [59])) (qB (eC (.int 1)) qI)))) (qB (qZ (qB (eC (.str [92, 56])) (qB (eC (.str [])) (qB (eC (.int 1)) qI)))) qI))))))))))))))))))))))))))))))))))
 qK)
noncomputable def jw : Fn := zf 0 0 qF0
noncomputable def qH5 : SC := (qD (zL (zi (qB (qZ (qB (eC (.str [97])) (qB (eC (.str [97])) qI))) (qB (qZ (qB (eC (.str [92])) (qB (eC (.str [92])) qI))) (qB (qZ (qB (eC (.str [34, 34])) (qB (eC (.str [34])) qI))) (qB (qZ (qB (eC (.str [10])) (qB (eC (.str [10])) qI))) (qB (qZ (qB (eC (.str [92, 110, 47, 47])) (qB (eC (.str [92, 110, 47, 47])) qI))) (qB (qZ (qB (eC (.str [128512])) (qB (eC (.str [55357, 56832])) qI))) (qB (qZ (qB (eC (.str [39, 47, 42])) (qB (eC (.str [39, 47, 42])) qI))) qI)))))))))
 qK)
noncomputable def yV : Fn := zf 0 0 qH5
noncomputable def qH4 : SC := (qD (zL (zi (qB (qZ (qB (eC (.str [97])) (qB (eC (.int 97)) qI))) (qB (qZ (qB (eC (.str [34])) (qB (eC (.int 34)) qI))) (qB (qZ (qB (eC (.str [32])) (qB (eC (.int 32)) qI))) (qB (qZ (qB (eC (.str [47])) (qB (eC (.int 47)) qI))) (qB (qZ (qB (eC (.str [233])) (qB (eC (.int 233)) qI))) (qB (qZ (qB (eC (.str [92, 39])) (qB (eC (.int 39)) qI))) (qB (qZ (qB (eC (.str [92, 34])) (qB (eC (.int 34)) qI))) (qB (qZ (qB (eC (.str [92, 92])) (qB (eC (.int 92)) qI))) (qB (qZ (qB (eC (.str [92, 48])) (qB (eC (.int 0)) qI))) (qB (qZ (qB (eC (.str [92, 97])) (qB (eC (.int 7)) qI))) (qB (qZ (qB (eC (.str [92, 98])) (qB (eC (.int 8)) qI))) (qB (qZ (qB (eC (.str [92, 102])) (qB (eC (.int 12)) qI))) (qB (qZ (qB (eC (.str [92, 110])) (qB (eC (.int 10)) qI))) (qB (qZ (qB (eC (.str [92, 114])) (qB (eC (.int 13)) qI))) (qB (qZ (qB (eC (.str [92, 116])) (qB (eC (.int 9)) qI))) (qB (qZ (qB (eC (.str [92, 118])) (qB (eC (.int 11)) qI))) (qB (qZ (qB (eC (.str [92, 120, 52, 49])) (qB (eC (.int 65)) qI))) (qB (qZ (qB (eC (.str [92, 120, 102])) (qB (eC (.int 15)) qI))) (qB (qZ (qB (eC (.str [92, 120, 65, 66, 67, 68])) (qB (eC (.int 43981)) qI))) (qB (qZ (qB (eC (.str [92, 117, 48, 48, 101, 57])) (qB (eC (.int 233)) qI))) (qB (qZ (qB (eC (.str [92, 85, 48, 48, 48, 48, 48, 48, 52, 49])) (qB (eC (.int 65)) qI))) (qB (qZ (qB (eC (.str [92, 117, 68, 56, 51, 68])) (qB (eC (.int 55357)) qI))) qI))))))))))))))))))))))))
 qK)
noncomputable def yU : Fn := zf 0 0 qH4
noncomputable def qEG : SC := (qD (zL (zi (qB (eC (.str [96])) (qB (eC (.str [92])) (qB (eC (.str [0])) (qB (eC (.str [127])) (qB (eC (.str [8364])) (qB (eC (.str [64])) qI))))))))
 qK)
noncomputable def yJ : Fn := zf 0 0 qEG
noncomputable def qKR : SC := (qD (zL (zi (qB (eC (.str [])) (qB (eC (.str [32])) (qB (eC (.str [10])) (qB (eC (.str [9])) (qB (eC (.str [13, 10])) (qB (eC (.str [11, 12])) (qB (eC (.str [160, 65279, 12288])) (qB (eC (.str [47, 42, 42, 47])) (qB (eC (.str [47, 42, 32, 47, 47, 32, 34, 32, 39, 32, 42, 47])) (qB (eC (.str [47, 42, 47, 32, 42, 32, 42, 42, 47])) (qB (eC (.str [47, 47, 32, 34, 32, 47, 42, 32, 39, 10])) (qB (eC (.str [47, 47, 8232])) (qB (eC (.str [133, 8233])) (qB (eC (.str [47, 47, 120, 13])) (qB (eC (.str [47, 47, 133, 47, 47, 8233])) (qB (eC (.str [5760, 8192, 8193, 8194, 8195, 8196, 8197, 8198, 8199, 8200, 8201, 8202, 8239, 8287])) qI))))))))))))))))))
 qK)
noncomputable def yi : Fn := zf 0 0 qKR
noncomputable def vp : SC := (qD (sIf (tE (qQ .lt (qC 1) (zn (qC 0)))) (qD (zL (qY .mod (zm (qC 0) (qC 1)) (qC 2)))
 qK) qK)
 (qD (zL (eC (.int 0)))
 qK))
noncomputable def z8 : Fn := zf 3 3 vp
noncomputable def qF1 : SC := (qD (qV 3 (ko (tE (qC 2)) (eC (.str [48, 49, 50, 51, 52, 53, 54, 55, 56, 57, 65, 66, 67, 68, 69, 70])) (eC (.str [48, 49, 50, 51, 52, 53, 54, 55, 56, 57, 97, 98, 99, 100, 101, 102]))))
 (qD (qV 4 (eC (.str [])))
 (qD (whileC (tOr (tE (qQ .gt (qC 0) (eC (.int 0)))) (tE (qQ .eq (qC 4) (eC (.str []))))) (qD (qV 4 (qY .add (zm (qC 3) (qY .mod (qC 0) (qC 1))) (qC 4)))
 (qD (qV 0 (qY .fdiv (qC 0) (qC 1)))
 qK)))
 (qD (zL (qC 4))
 qK))))
noncomputable def kQ : Fn := zf 3 5 qF1
noncomputable def kK : SC := (qD (qV 2 (zm (qT yI qI) (qY .mod (qC 1) (eC (.int 12)))))
 (qD (sIf (tE (qQ .eq (qC 0) (eC (.int 2)))) (qD (qV 2 (qY .mod (qC 2) (eC (.int 1000))))
 qK) qK)
 (qD (qV 1 (qY .fdiv (qC 1) (eC (.int 12))))
 (qD (zz [3, 4] (zm (qT vB qI) (qY .mod (qC 1) (eC (.int 10)))))
 (qD (qV 1 (qY .fdiv (qC 1) (eC (.int 10))))
 (qD (qV 5 (qQ .eq (qY .mod (qY .fdiv (qC 1) (eC (.int 4))) (eC (.int 2))) (eC (.int 1))))
 (qD (qV 6 (qT kQ (qB (qC 2) (qB (qC 0) (qB (qC 5) qI)))))
 (qD (sIf (zb (tE (qQ .eq (qY .mod (qC 1) (eC (.int 4))) (eC (.int 1)))) (tE (qQ .gt (zn (qC 6)) (eC (.int 1))))) (qD (qV 6 (qY .add (qY .add (zm (qC 6) (eC (.int 0))) (eC (.str [95]))) (jk (qC 6) (eC (.int 1)))))
 qK) (qD (sIf (zb (tE (qQ .eq (qY .mod (qC 1) (eC (.int 4))) (eC (.int 2)))) (tE (qQ .gt (zn (qC 6)) (eC (.int 1))))) (qD (qV 6 (qY .add (qY .add (vX (qC 6) (eC (.int (-1)))) (eC (.str [95, 95]))) (zm (qC 6) (eC (.int (-1))))))
 qK) (qD (sIf (tE (qQ .eq (qY .mod (qC 1) (eC (.int 4))) (eC (.int 3)))) (qD (qV 6 (qY .add (ko (tE (qQ .eq (qC 0) (eC (.int 10)))) (eC (.str [48])) (eC (.str [95, 48]))) (qC 6)))
 qK) qK)
 qK))
 qK))
 (qD (sIf (tE (qQ .eq (qC 0) (eC (.int 16)))) (qD (qV 6 (qY .add (ko (tE (qC 5)) (eC (.str [48, 88])) (eC (.str [48, 120]))) (qC 6)))
 qK) (qD (sIf (tE (qQ .eq (qC 0) (eC (.int 2)))) (qD (qV 6 (qY .add (ko (tE (qC 5)) (eC (.str [48, 66])) (eC (.str [48, 98]))) (qC 6)))
 qK) qK)
 qK))
 (qD (sIf (tE (qQ .gt (qC 2) (eC (.int 18446744073709551615)))) (qD (zL (qZ (qB (qY .add (qC 6) (qC 3)) (qB (zi (qB (qZ (qB (eC gD) (qB (qZ (qB (eC (.int 0)) (qB (qC 4) qI))) (qB (eC (.int 0)) qI)))) qI)) (qB (zi (qB (qZ (qB (eC (.int 1021)) (qB (eC (.int 0)) qI))) qI)) qI)))))
 qK) qK)
 (qD (zL (qZ (qB (qY .add (qC 6) (qC 3)) (qB (zi (qB (qZ (qB (eC gD) (qB (qZ (qB (qC 2) (qB (qC 4) qI))) (qB (eC (.int 0)) qI)))) qI)) (qB (zi qI) qI)))))
 qK)))))))))))
noncomputable def v4 : Fn := zf 2 7 kK
noncomputable def uG : SC := (qD (qV 1 (qY .mod (qC 0) (eC (.int 4))))
 (qD (qV 0 (qY .fdiv (qC 0) (eC (.int 4))))
 (qD (qV 2 (eC (.str [34])))
 (qD (qV 3 (eC (.str [])))
 (qD (kF 4)
 (qD (j4 5 (qC 1) (qD (zz [6, 7, 8] (zm (qT jw qI) (qY .mod (qC 0) (eC (.int 32)))))
 (qD (qV 0 (qY .fdiv (qC 0) (eC (.int 32))))
 (qD (sIf (tE (qQ .eq (qC 8) (eC (.int 1)))) (qD (qc (qw (qC 4) (qZ (qB (eC (.int 1009)) (qB (zn (qC 2)) qI)))))
 qK) qK)
 (qD (j3 .add 2 (qC 6))
 (qD (j3 .add 3 (qC 7))
 qK))))))
 (qD (zL (qZ (qB (qY .add (qC 2) (eC (.str [34]))) (qB (zi (qB (qZ (qB (eC vn) (qB (qC 3) (qB (eC (.int 0)) qI)))) qI)) (qB (qC 4) qI)))))
 qK)))))))
noncomputable def uT : Fn := zf 1 9 uG
noncomputable def vq : SC := (qD (qV 1 (qY .mod (qC 0) (eC (.int 4))))
 (qD (qV 0 (qY .fdiv (qC 0) (eC (.int 4))))
 (qD (qV 2 (eC (.str [64, 34])))
 (qD (qV 3 (eC (.str [])))
 (qD (j4 4 (qC 1) (qD (zz [5, 6] (zm (qT yV qI) (qY .mod (qC 0) (eC (.int 7)))))
 (qD (qV 0 (qY .fdiv (qC 0) (eC (.int 7))))
 (qD (j3 .add 2 (qC 5))
 (qD (j3 .add 3 (qC 6))
 qK)))))
 (qD (zL (qZ (qB (qY .add (qC 2) (eC (.str [34]))) (qB (zi (qB (qZ (qB (eC vn) (qB (qC 3) (qB (eC (.int 0)) qI)))) qI)) (qB (zi qI) qI)))))
 qK))))))
noncomputable def vz : Fn := zf 1 7 vq
noncomputable def kv : SC := (qD (qV 1 (yh (jt (eC vE) [10] [124]) [124]))
 (qD (qV 2 (yh (zm (qC 1) (qY .mod (qC 0) (zn (qC 1)))) [32]))
 (qD (kF 3)
 (qD (qV 4 (eC (.int 0)))
 (qD (dT 5 (jk (qC 2) (eC (.int 1))) (qD (qc (qw (qC 3) (qZ (qB (eC vm) (qB (qC 5) (qB (qC 4) qI))))))
 (qD (j3 .add 4 (zn (qC 5)))
 qK)))
 (qD (zL (qZ (qB (zm (qC 2) (eC (.int 0))) (qB (qC 3) (qB (zi qI) qI)))))
 qK))))))
noncomputable def dC : Fn := zf 1 6 kv
noncomputable def yR : SC := (qD (qV 1 (yh (jt (eC vH) [10] [32]) [32]))
 (qD (qV 2 (yh (jt (eC vF) [10] [32]) [32]))
 (qD (sIf (tE (qQ .eq (qY .mod (qC 0) (eC (.int 3))) (eC (.int 0)))) (qD (qV 3 (zm (qC 2) (qY .mod (qY .fdiv (qC 0) (eC (.int 3))) (zn (qC 2)))))
 (qD (zL (qZ (qB (qC 3) (qB (zi (qB (qZ (qB (eC vl) (qB (qC 3) (qB (eC (.int 0)) qI)))) qI)) (qB (zi qI) qI)))))
 qK)) qK)
 (qD (sIf (tE (qQ .eq (qY .mod (qC 0) (eC (.int 3))) (eC (.int 1)))) (qD (qV 4 (zm (qC 1) (qY .mod (qY .fdiv (qC 0) (eC (.int 3))) (zn (qC 1)))))
 (qD (zL (qZ (qB (qC 4) (qB (zi (qB (qZ (qB (eC wX) (qB (qC 4) (qB (eC (.int 0)) qI)))) qI)) (qB (zi qI) qI)))))
 qK)) qK)
 (qD (qV 3 (zm (qY .add (qC 1) (qC 2)) (qY .mod (qY .fdiv (qC 0) (eC (.int 3))) (qY .add (zn (qC 1)) (zn (qC 2))))))
 (qD (zL (qZ (qB (qY .add (eC (.str [64])) (qC 3)) (qB (zi (qB (qZ (qB (eC vl) (qB (qC 3) (qB (eC (.int 0)) qI)))) qI)) (qB (zi qI) qI)))))
 qK))))))
noncomputable def gU : Fn := zf 1 5 yR
noncomputable def yg : SC := (qD (sIf (tE (qQ .eq (qY .mod (qC 0) (eC (.int 3))) (eC (.int 0)))) (qD (zz [1, 2] (zm (qT jO qI) (qY .mod (qY .fdiv (qC 0) (eC (.int 3))) (eC (.int 9)))))
 (qD (zL (qZ (qB (qC 1) (qB (zi (qB (qZ (qB (eC gD) (qB (qZ (qB (eC (.int 0)) (qB (qC 2) qI))) (qB (eC (.int 0)) qI)))) qI)) (qB (zi (qB (qZ (qB (eC (.int 1013)) (qB (eC (.int 0)) qI))) qI)) qI)))))
 qK)) qK)
 (qD (sIf (tE (qQ .eq (qY .mod (qC 0) (eC (.int 3))) (eC (.int 1)))) (qD (zz [1, 3, 4] (zm (eC y5) (qY .mod (qY .fdiv (qC 0) (eC (.int 3))) (eC (.int 17)))))
 (qD (sIf (tE (qQ .eq (zm (qC 1) (eC (.int 0))) (eC (.str [39])))) (qD (zL (qZ (qB (qC 1) (qB (zi (qB (qZ (qB (eC kB) (qB (eC (.int 0)) (qB (eC (.int 0)) qI)))) qI)) (qB (qC 4) qI)))))
 qK) qK)
 (qD (zL (qZ (qB (qC 1) (qB (zi (qB (qZ (qB (eC vn) (qB (qC 3) (qB (eC (.int 0)) qI)))) qI)) (qB (qC 4) qI)))))
 qK))) qK)
 (qD (qV 1 (zm (qT yJ qI) (qY .mod (qY .fdiv (qC 0) (eC (.int 3))) (eC (.int 6)))))
 (qD (zL (qZ (qB (qC 1) (qB (zi qI) (qB (zi (qB (qZ (qB (ko (tE (qQ .eq (qC 1) (eC (.str [64])))) (eC (.int 1646)) (eC (.int 1056))) (qB (eC (.int 0)) qI))) qI)) qI)))))
 qK))))
noncomputable def de : Fn := zf 1 5 yg
noncomputable def zw : SC := (qD (sIf (tE (qQ .lt (qC 0) (eC (.int 2)))) (qD (zL (qT gU (qB (qC 1) qI)))
 qK) qK)
 (qD (sIf (tE (qQ .eq (qC 0) (eC (.int 2)))) (qD (qV 2 (yh (jt (eC vG) [10] [32]) [32]))
 (qD (qV 3 (zm (qC 2) (qY .mod (qC 1) (zn (qC 2)))))
 (qD (zL (qZ (qB (qC 3) (qB (zi (qB (qZ (qB (eC vm) (qB (qC 3) (qB (eC (.int 0)) qI)))) qI)) (qB (zi qI) qI)))))
 qK))) qK)
 (qD (sIf (tE (qQ .eq (qC 0) (eC (.int 3)))) (qD (zL (qT dC (qB (qC 1) qI)))
 qK) qK)
 (qD (sIf (tE (qQ .lt (qC 0) (eC (.int 7)))) (qD (zL (qT v4 (qB (zm (zi (qB (eC (.int 10)) (qB (eC (.int 16)) (qB (eC (.int 2)) qI)))) (qY .sub (qC 0) (eC (.int 4)))) (qB (qC 1) qI))))
 qK) qK)
 (qD (sIf (tE (qQ .eq (qC 0) (eC (.int 7)))) (qD (zL (qT uT (qB (qC 1) qI)))
 qK) qK)
 (qD (sIf (tE (qQ .eq (qC 0) (eC (.int 8)))) (qD (zL (qT vz (qB (qC 1) qI)))
 qK) qK)
 (qD (sIf (tE (qQ .eq (qC 0) (eC (.int 9)))) (qD (zz [4, 5] (zm (qT yU qI) (qY .mod (qC 1) (eC (.int 22)))))
 (qD (zL (qZ (qB (qY .add (qY .add (eC (.str [39])) (qC 4)) (eC (.str [39]))) (qB (zi (qB (qZ (qB (eC kB) (qB (qC 5) (qB (eC (.int 0)) qI)))) qI)) (qB (zi qI) qI)))))
 qK)) qK)
 (qD (zL (qT de (qB (qC 1) qI)))
 qK))))))))
noncomputable def j6 : Fn := zf 2 6 zw
noncomputable def vi : SC := (qD (qV 3 (eC (.str [40, 41, 91, 93, 123, 125, 44, 59, 126, 58])))
 (qD (sIf (zb (tE (qQ .eq (qC 1) (eC (.str [])))) (zb (tE (qQ .ne (qC 0) (eC (.str [])))) (zb (tE (uQ (zm (qC 0) (eC (.int (-1)))) (qC 3))) (tE (uQ (zm (qC 2) (eC (.int 0))) (qC 3)))))) (qD (zL (eC (.str [32])))
 qK) qK)
 (qD (sIf (zb (tE (qQ .eq (vX (qC 1) (eC (.int 1))) (eC (.str [47])))) (tE (qQ .eq (jk (qC 0) (eC (.int (-1)))) (eC (.str [47]))))) (qD (zL (qY .add (eC (.str [32])) (qC 1)))
 qK) qK)
 (qD (zL (qC 1))
 qK))))
noncomputable def yj : Fn := zf 3 4 vi
noncomputable def qKS : SC := (qD (kF 3)
 (qD (y8 [4, 5] (qC 2) (qD (qV 6 (ko (tE (qQ .eq (qC 4) (eC (.int 1056)))) (qZ (qB (zm (qC 0) (qY .add (qC 1) (qC 5))) qI)) (qZ qI)))
 (qD (qc (qw (qC 3) (qZ (qB (qC 4) (qB (qY .add (qC 1) (qC 5)) (qB (qC 6) qI))))))
 qK)))
 (qD (zL (qC 3))
 qK)))
noncomputable def ja : Fn := zf 3 7 qKS
noncomputable def qEV : SC := (qD (qV 1 (vX (qC 0) (eC (.int 31))))
 (qD (qV 2 (eC (.str [])))
 (qD (kF 3)
 (qD (kF 4)
 (qD (j4 5 (qS2 (eC (.int 1)) (qY .fdiv (qY .add (zn (qC 1)) (eC (.int 1))) (eC (.int 3)))) (qD (qV 6 (qT z8 (qB (qC 1) (qB (qY .add (qY .mul (eC (.int 3)) (qC 5)) (eC (.int 1))) (qB (eC (.int 12)) qI)))))
 (qD (zz [7, 8, 9] (qT j6 (qB (qC 6) (qB (qT z8 (qB (qC 1) (qB (qY .add (qY .mul (eC (.int 3)) (qC 5)) (eC (.int 2))) (qB (eC (.int 1000003)) qI)))) qI))))
 (qD (j3 .add 2 (qT yj (qB (qC 2) (qB (zm (qT yi qI) (qT z8 (qB (qC 1) (qB (qY .add (qY .mul (eC (.int 3)) (qC 5)) (eC (.int 3))) (qB (eC (.int 16)) qI))))) (qB (qC 7) qI)))))
 (qD (qV 10 (zn (qC 2)))
 (qD (j3 .add 2 (qC 7))
 (qD (y8 [11, 12, 13] (qC 8) (qD (qc (qw (qC 3) (qZ (qB (qC 11) (qB (qC 12) (qB (qY .add (qC 10) (qC 13)) qI))))))
 qK))
 (qD (kZ 4 (qT ja (qB (qC 2) (qB (qC 10) (qB (qC 9) qI)))))
 qK))))))))
 (qD (j3 .add 2 (eC (.str [32])))
 (qD (qV 10 (zn (qC 2)))
 (qD (zz [7, 8, 9, 14] (zm (eC yO) (qT z8 (qB (qC 1) (qB (eC (.int 0)) (qB (eC (.int 32)) qI))))))
 (qD (sIf (tE (qQ .ne (qC 14) (eC (.str [])))) (qD (uY 15)
 (qD (qV 16 (qZ (qB (eC (.str [])) (qB (eC (.int (-1))) qI))))
 (qD (qRT gA (qB (qY .add (qC 2) (qC 7)) (qB (qC 15) qI)) 17 (qD (qV 16 (qZ (qB (qg (qC 17) .code) (qB (qg (qC 17) .at) qI))))
 qK))
 (qD (sIf (tOr (tE (qIS (qC 16) (qZ (qB (qC 14) (qB (qC 10) qI))))) (tE (qIS (qg (qC 15) .rows) (qC 4)))) (qD (zL (eC (.bool false)))
 qK) qK)
 (qD (qV 7 (eC (.str [])))
 qK))))) qK)
 (qD (j3 .add 2 (qC 7))
 (qD (y8 [11, 12, 13] (qC 8) (qD (qc (qw (qC 3) (qZ (qB (qC 11) (qB (qC 12) (qB (qY .add (qC 10) (qC 13)) qI))))))
 qK))
 (qD (kZ 4 (qT ja (qB (qC 2) (qB (qC 10) (qB (qC 9) qI)))))
 (qD (qc (qw (qC 3) (qZ (qB (eC gC) (qB (eC (.str [])) (qB (zn (qC 2)) qI))))))
 (qD (uY 15)
 (qD (zL (qN5 (qEI (qP1 gA (qB (qC 2) (qB (qC 15) qI))) (qC 3)) (qEI (qg (qC 15) .rows) (qC 4))))
 qK)))))))))))))))
noncomputable def qYX : Fn := zf 1 18 qEV
end Mine
end
noncomputable section
open PySem PySem.W PySem.Calls PyProof.Rows
set_option genInjectivity false
namespace Mine
noncomputable abbrev FM := Addr → Option Obj
structure GA where
 dgA : Addr
 rwA : Addr
 lxA : Addr
 lxD : Addr
 tkA : Addr
 exC : Addr
noncomputable def LRef.addr (ga : GA) (la : List Addr) : LRef → Option Addr
 | .toks => some ga.tkA
 | .rows => some ga.rwA
 | .loc i => la[i]?
noncomputable def TupF (f : FM) (a : Addr) (vs : List Value) : Prop := ∃ o n, f a = some o ∧ o.cls = .type "tuple" ∧ o.data = .seq vs.toArray n
noncomputable def LstF (f : FM) (a : Addr) (vs : List Value) : Prop := ∃ o n, f a = some o ∧ o.cls = .type "list" ∧ o.data = .seq vs.toArray n
mutual
noncomputable def VR (f : FM) (ga : GA) (la : List Addr) : PV → Value → Prop
 | .none, v => v = .none
 | .bool b, v => v = .bool b
 | .int i, v => ∃ t, v = .int i t
 | .str s, v => s.length ≤ line ∧ ∃ t, v = .str ⟨s.toArray⟩ t
 | .tup l, v => ∃ a vs, v = .ref a ∧ TupF f a vs ∧ VRs f ga la l vs
 | .fl l, v => l.length ≤ line ∧ ∃ a vs, v = .ref a ∧ LstF f a vs ∧ VRs f ga la l vs
 | .lst r, v => ∃ a, v = .ref a ∧ r.addr ga la = some a
 | .lex, v => v = .ref ga.lxA
 | .dg, v => v = .ref ga.dgA
 | .exc c i, v => c.length ≤ line ∧ ∃ e dx oe od t1 t2, v = .ref e ∧ f e = some oe ∧ f dx = some od ∧ oe.cls = .ref ga.exC ∧ notCls oe = true ∧ oe.dict = some dx ∧ lookIn "code" od = some (some (.str ⟨c.toArray⟩ t1)) ∧ lookIn "at" od = some (some (.int i t2))
noncomputable def VRs (f : FM) (ga : GA) (la : List Addr) : List PV → List Value → Prop
 | [], vs => vs = []
 | x :: r, vs => ∃ v vs', vs = v :: vs' ∧ VR f ga la x v ∧ VRs f ga la r vs'
end
theorem TupF.mono {f f' : FM} {a : Addr} {vs : List Value} (h : TupF f a vs) (k : ∀ b o, f b = some o → f' b = some o) : TupF f' a vs :=
 let ⟨o, n, a, b⟩ := h; ⟨o, n, k _ _ a, b⟩
theorem LstF.mono {f f' : FM} {a : Addr} {vs : List Value} (h : LstF f a vs) (k : ∀ b o, f b = some o → f' b = some o) : LstF f' a vs :=
 let ⟨o, n, a, b⟩ := h; ⟨o, n, k _ _ a, b⟩
theorem qNR {ga : GA} {la la' : List Addr} {r : LRef} {a : Addr} (k : ∃ t, la' = la ++ t) (h : r.addr ga la = some a) : r.addr ga la' = some a := by
 obtain ⟨t, rfl⟩ := k
 cases r with
 | loc i =>
  have h : la[i]? = some a := h
  have := (List.getElem?_eq_some_iff.mp h).1
  show (la ++ t)[i]? = some a
  rw [List.getElem?_append_left this]; exact h
 | _ => exact h
section
variable {α : Type} {f : FM} {ga : GA} {la : List Addr} {y : PV} {u : Value} {r : α} {P : PV → Value → Prop}
@[elab_as_elim] theorem VR.onI {k : Int → Option α} (hv : VR f ga la y u) (h : Mine.onI y k = some r) (K : ∀ i t, k i = some r → P (.int i) (.int i t)) : P y u := by
 cases y with
 | int i => exact hv.elim fun t e => e ▸ K i t h
 | _ => exact qH h
@[elab_as_elim] theorem VR.onS {k : List Nat → Option α} (hv : VR f ga la y u) (h : Mine.onS y k = some r) (K : ∀ l t, l.length ≤ line → k l = some r → P (.str l) (.str ⟨l.toArray⟩ t)) : P y u := by
 cases y with
 | str l => exact hv.2.elim fun t e => e ▸ K l t hv.1 h
 | _ => exact qH h
@[elab_as_elim] theorem VR.flE {l : List PV} (hv : VR f ga la (.fl l) u) (K : ∀ a vs, l.length ≤ line → LstF f a vs → VRs f ga la l vs → P (.fl l) (.ref a)) : P (.fl l) u :=
 Exists.elim (And.right hv) fun a h => h.elim fun vs h => h.1 ▸ K a vs (And.left hv) h.2.1 h.2.2
@[elab_as_elim] theorem VR.onF {k : List PV → Option α} (hv : VR f ga la y u) (h : Mine.onF y k = some r) (K : ∀ l a vs, l.length ≤ line → LstF f a vs → VRs f ga la l vs → k l = some r → P (.fl l) (.ref a)) : P y u := by
 cases y with
 | fl l => exact hv.flE fun a vs n h1 h2 => K l a vs n h1 h2 h
 | _ => exact qH h
@[elab_as_elim] theorem VR.onSF {k : List Nat → Option α} {k' : List PV → Option α} (hv : VR f ga la y u) (h : Mine.onSF y k k' = some r) (K : ∀ l t, l.length ≤ line → k l = some r → P (.str l) (.str ⟨l.toArray⟩ t)) (K' : ∀ l a vs, l.length ≤ line → LstF f a vs → VRs f ga la l vs → k' l = some r → P (.fl l) (.ref a)) : P y u := by
 cases y with
 | str l => exact hv.2.elim fun t e => e ▸ K l t hv.1 h
 | fl l => exact hv.flE fun a vs n h1 h2 => K' l a vs n h1 h2 h
 | _ => exact qH h
@[elab_as_elim] theorem VR.onIS {k : Int → Option α} {k' : List Nat → Option α} (hv : VR f ga la y u) (h : Mine.onIS y k k' = some r) (K : ∀ i t, k i = some r → P (.int i) (.int i t)) (K' : ∀ l t, l.length ≤ line → k' l = some r → P (.str l) (.str ⟨l.toArray⟩ t)) : P y u := by
 cases y with
 | int i => exact hv.elim fun t e => e ▸ K i t h
 | str l => exact hv.2.elim fun t e => e ▸ K' l t hv.1 h
 | _ => exact qH h
@[elab_as_elim] theorem VR.on3 {z v : PV} {P : PV → Value → Prop} (hv : VR f ga la y u) (h : qUG y z = some v) (K1 : ∀ i t, (Mine.onI z fun b => some (PV.int (i + b))) = some v → P (.int i) (.int i t))
  (K2 : ∀ l t, l.length ≤ line → (Mine.onS z fun b => if l.length + b.length ≤ line then some (PV.str (l ++ b)) else none) = some v → P (.str l) (.str ⟨l.toArray⟩ t))
  (K3 : ∀ l a vs, l.length ≤ line → LstF f a vs → VRs f ga la l vs → (Mine.onF z fun b => if l.length + b.length ≤ line then some (PV.fl (l ++ b)) else none) = some v → P (.fl l) (.ref a)) : P y u := by
 cases y with
 | int i => exact hv.elim fun t e => e ▸ K1 i t h
 | str l => exact hv.2.elim fun t e => e ▸ K2 l t hv.1 h
 | fl l => exact hv.flE fun a vs n h1 h2 => K3 l a vs n h1 h2 h
 | _ => exact qH h
theorem qb {α : Type} {c : Prop} [Decidable c] {a b : α} (h : (if c then some a else none) = some b) : c ∧ a = b := by
 by_cases q : c
 ·exact ⟨q, Option.some.inj ((if_pos q).symm.trans h)⟩
 ·exact qH ((if_neg q).symm.trans h)
end
theorem VR.tupE {f : FM} {ga : GA} {la : List Addr} {l : List PV} {v : Value} {G : Prop} (h : VR f ga la (.tup l) v) (K : ∀ a vs, v = .ref a → TupF f a vs → VRs f ga la l vs → G) : G := Exists.elim h fun a h => h.elim fun vs h => K a vs h.1 h.2.1 h.2.2
theorem VR.flE' {f : FM} {ga : GA} {la : List Addr} {l : List PV} {v : Value} {G : Prop} (h : VR f ga la (.fl l) v) (K : ∀ a vs, l.length ≤ line → v = .ref a → LstF f a vs → VRs f ga la l vs → G) : G := Exists.elim (And.right h) fun a h' => h'.elim fun vs h' => K a vs (And.left h) h'.1 h'.2.1 h'.2.2
theorem VRs.cE {f : FM} {ga : GA} {la : List Addr} {x : PV} {l : List PV} {v : List Value} {G : Prop} (h : VRs f ga la (x :: l) v) (K : ∀ u us, v = u :: us → VR f ga la x u → VRs f ga la l us → G) : G := Exists.elim h fun u h => h.elim fun us h => K u us h.1 h.2.1 h.2.2
mutual
theorem VR.mono {f f' : FM} {ga : GA} {la la' : List Addr} (k : ∀ b o, f b = some o → f' b = some o) (kl : ∃ t, la' = la ++ t) : ∀ {p : PV} {v : Value}, VR f ga la p v → VR f' ga la' p v
 | .none, _, h => h
 | .bool _, _, h => h
 | .int _, _, h => h
 | .str _, _, h => h
 | .tup _, _, h => h.tupE fun a vs e t r => ⟨a, vs, e, t.mono k, VRs.mono k kl r⟩
 | .fl _, _, h => h.flE' fun a vs n e t r => ⟨n, a, vs, e, t.mono k, VRs.mono k kl r⟩
 | .lst _, _, h => Exists.elim h fun a h => ⟨a, h.1, qNR kl h.2⟩
 | .lex, _, h => h
 | .dg, _, h => h
 | .exc _ _, _, h => Exists.elim (And.right h) fun e x => x.elim fun dx x => x.elim fun oe x => x.elim fun od x => x.elim fun t1 x => x.elim fun t2 x => ⟨And.left h, e, dx, oe, od, t1, t2, x.1, k _ _ x.2.1, k _ _ x.2.2.1, x.2.2.2⟩
theorem VRs.mono {f f' : FM} {ga : GA} {la la' : List Addr} (k : ∀ b o, f b = some o → f' b = some o) (kl : ∃ t, la' = la ++ t) : ∀ {p : List PV} {v : List Value}, VRs f ga la p v → VRs f' ga la' p v
 | [], _, h => h
 | _ :: _, _, h => h.cE fun v vs e h1 h2 => ⟨v, vs, e, VR.mono k kl h1, VRs.mono k kl h2⟩
end
theorem qM9 {la : List Addr} : ∃ t, la = la ++ t := ⟨[], (List.append_nil _).symm⟩
theorem VR.up {f f' : FM} {ga : GA} {la : List Addr} {p : PV} {v : Value} (h : VR f ga la p v) (k : ∀ b o, f b = some o → f' b = some o) : VR f' ga la p v := h.mono k qM9
theorem VRs.up {f f' : FM} {ga : GA} {la : List Addr} {p : List PV} {v : List Value} (h : VRs f ga la p v) (k : ∀ b o, f b = some o → f' b = some o) : VRs f' ga la p v := h.mono k qM9
mutual
theorem VR.solid {f : FM} {ga ga' : GA} {la la' : List Addr} : ∀ {p : PV} {v : Value}, p.solid = true → VR f ga la p v → VR f ga' la' p v
 | .none, _, _, h => h
 | .bool _, _, _, h => h
 | .int _, _, _, h => h
 | .str _, _, _, h => h
 | .tup l, _, s, h => h.tupE fun a vs e t r => ⟨a, vs, e, t, VRs.solid (p := l) s r⟩
 | .fl l, _, s, h => h.flE' fun a vs n e t r => ⟨n, a, vs, e, t, VRs.solid (p := l) s r⟩
 | .lst _, _, s, _ => absurd s Bool.false_ne_true
 | .lex, _, s, _ => absurd s Bool.false_ne_true
 | .dg, _, s, _ => absurd s Bool.false_ne_true
 | .exc _ _, _, s, _ => absurd s Bool.false_ne_true
theorem VRs.solid {f : FM} {ga ga' : GA} {la la' : List Addr} : ∀ {p : List PV} {v : List Value}, PV.solids p = true → VRs f ga la p v → VRs f ga' la' p v
 | [], _, _, h => h
 | _ :: _, _, s, h => h.cE fun v vs e h1 h2 => ⟨v, vs, e, VR.solid (wL s) h1, VRs.solid (wM s) h2⟩
end
mutual
theorem VR.clean {f : FM} {ga : GA} {la la' : List Addr} : ∀ {p : PV} {v : Value}, p.clean = true → VR f ga la p v → VR f ga la' p v
 | .none, _, _, h => h
 | .bool _, _, _, h => h
 | .int _, _, _, h => h
 | .str _, _, _, h => h
 | .tup l, _, s, h => h.tupE fun a vs e t r => ⟨a, vs, e, t, VRs.clean (p := l) s r⟩
 | .fl l, _, s, h => h.flE' fun a vs n e t r => ⟨n, a, vs, e, t, VRs.clean (p := l) s r⟩
 | .lst _, _, s, _ => absurd s Bool.false_ne_true
 | .lex, _, _, h => h
 | .dg, _, _, h => h
 | .exc _ _, _, s, _ => absurd s Bool.false_ne_true
theorem VRs.clean {f : FM} {ga : GA} {la la' : List Addr} : ∀ {p : List PV} {v : List Value}, PV.cleans p = true → VRs f ga la p v → VRs f ga la' p v
 | [], _, _, h => h
 | _ :: _, _, s, h => h.cE fun v vs e h1 h2 => ⟨v, vs, e, VR.clean (wL s) h1, VRs.clean (wM s) h2⟩
end
theorem VRs.length {f : FM} {ga : GA} {la : List Addr} : ∀ {p : List PV} {v : List Value}, VRs f ga la p v → v.length = p.length
 | [], _, h => congrArg List.length (id h : _ = [])
 | _ :: _, _, h => h.cE fun v vs e h1 h2 => (congrArg List.length e).trans (congrArg (· + 1) (VRs.length h2))
theorem VRs.get {f : FM} {ga : GA} {la : List Addr} : ∀ {p : List PV} {v : List Value} {i : Nat} {x : PV}, VRs f ga la p v → p[i]? = some x → ∃ u, v[i]? = some u ∧ VR f ga la x u
 | _ :: _, _, 0, x, h, e => h.cE fun v vs q h1 h2 => ⟨v, q ▸ rfl, Option.some.inj e ▸ h1⟩
 | _ :: l, _, i + 1, x, h, e => h.cE fun v vs q h1 h2 => (VRs.get (p := l) (i := i) h2 e).elim fun y z => ⟨y, q ▸ z.1, z.2⟩
theorem VRs.append {f : FM} {ga : GA} {la : List Addr} : ∀ {p q : List PV} {v u : List Value}, VRs f ga la p v → VRs f ga la q u → VRs f ga la (p ++ q) (v ++ u)
 | [], _, _, _, h, k => (id h : _ = []) ▸ k
 | _ :: _, _, _, _, h, k => h.cE fun v vs e h1 h2 => ⟨v, _, congrArg (· ++ _) e, h1, VRs.append h2 k⟩
theorem gw : ∀ {p q : List PV}, PV.solids p = true → PV.solids q = true → PV.solids (p ++ q) = true
 | [], _, _, k => k
 | _ :: _, _, h, k => jo (wL h) (gw (wM h) k)
structure Cx where
 prog : Program
 w : World
 K : Frag
 mg : Str → Option Value
 mb : Str → Option Value
 h0 : Heap
 os : OsState
 lexC : Addr
 dgC : Addr
 excC : Addr
structure CxOk (C : Cx) : Prop where
 kin : C.K.In C.h0
 g : C.h0.Ns mainGlobals C.mg
 b : C.h0.Ns builtinsNs C.mb
 nolimit : C.h0.NoLimit
 builtins : ∀ x : Str, x ≠ "__name__" → C.mb x = bootBuiltins x
noncomputable def muts (ga : GA) (la : List Addr) (g : G) : List Addr := (if g.hd then [ga.rwA] else []) ++ ((if g.hl then [ga.lxD, ga.tkA] else []) ++ la)
noncomputable def Cell (f : FM) (ga : GA) (la : List Addr) (h : Heap) (a : Addr) (l : List PV) : Prop :=
 l.length ≤ line ∧ PV.solids l = true ∧ ∃ vs, PlainL h a vs.toArray ∧ VRs f ga la l vs
noncomputable def gh (k : Nat) (o : Obj) : Prop := o.cls = .type "dict" ∧ ∃ es ep, o.data = .dict es ep ∧ es.size ≤ k
noncomputable def DgAt (C : Cx) (f : FM) (ga : GA) : Prop := ∃ dd od, f ga.dgA = some (instObj C.dgC dd) ∧ f dd = some od ∧ lookIn "rows" od = some (some (.ref ga.rwA)) ∧ lookIn "put" od = some none
theorem DgAt.up {C : Cx} {f f' : FM} {ga : GA} (x : DgAt C f ga) (kf : ∀ b o, f b = some o → f' b = some o) : DgAt C f' ga := x.elim fun dd h => h.elim fun od h => ⟨dd, od, kf _ _ h.1, kf _ _ h.2.1, h.2.2⟩
theorem DgAt.ga {C : Cx} {f f' : FM} {ga ga' : GA} (x : DgAt C f ga) (h1 : ga.dgA = ga'.dgA) (h2 : ga.rwA = ga'.rwA) (kf : ∀ b o, f b = some o → f' b = some o) : DgAt C f' ga' := x.elim fun dd h => h.elim fun od h => ⟨dd, od, h1 ▸ kf _ _ h.1, kf _ _ h.2.1, h2 ▸ h.2.2.1, h.2.2.2⟩
structure LxD (f : FM) (ga : GA) (la : List Addr) (t : List Nat) (i : Int) (m : Str → Option Value) : Prop where
 text : ∃ u, m "text" = some u ∧ VR f ga la (.str t) u
 at_ : ∃ t, m "at" = some (.int i t)
 diags : m "diags" = some (.ref ga.dgA)
 tokens : m "tokens" = some (.ref ga.tkA)
 none : ∀ x : Str, x ≠ "text" → x ≠ "at" → x ≠ "diags" → x ≠ "tokens" → m x = none
noncomputable def LxAt (f : FM) (ga : GA) (la : List Addr) (t : List Nat) (i : Int) (h : Heap) : Prop := ∃ o m, h.get? ga.lxD = some o ∧ gh 4 o ∧ h.Ns ga.lxD m ∧ LxD f ga la t i m
structure Mid (C : Cx) (nm : List Str) (L : Addr) (fs : List Addr) (f : FM) (ga : GA) (la : List Addr) (st : St) (s : Shared) : Prop where
 base : ∀ b o, C.h0.get? b = some o → f b = some o
 fz : ∀ b o, f b = some o → s.heap.get? b = some o
 tk : 0 < s.toks
 gens : s.gens = #[]
 os : s.os = C.os
 lenv : st.v.length = nm.length
 loc : ∃ m, s.heap.Ns L m ∧ ∀ (i : Nat) (x : Str) (v : PV), nm[i]? = some x → st.v[i]? = some (some v) → ∃ u, m x = some u ∧ VR f ga la v u
 freshL : f L = none
 mutF : ∀ a ∈ muts ga la st.g, f a = none ∧ a ≠ L
 nodup : (muts ga la st.g).Nodup
 len : la.length = st.ls.length
 ls : ∀ (i : Nat) (a : Addr) (l : List PV), la[i]? = some a → st.ls[i]? = some l → Cell f ga la s.heap a l
 dg : st.g.hd = true → DgAt C f ga ∧ Cell f ga la s.heap ga.rwA st.g.rows
 lx : st.g.hl = true → st.g.hd = true ∧ f ga.lxA = some (instObj C.lexC ga.lxD) ∧ LxAt f ga la st.g.text st.g.at_ s.heap ∧ Cell f ga la s.heap ga.tkA st.g.toks
 exc : ga.exC = C.excC
 fr : ∀ b ∈ fs, f b = none ∧ b ≠ L ∧ b ∉ muts ga la st.g ∧ ∃ o, s.heap.get? b = some o ∧ ∀ vs, o.data ≠ .fields vs
structure Go (X : List Addr) (f f' : FM) (s s' : Shared) : Prop where
 fle : ∀ b o, f b = some o → f' b = some o
 fnew : ∀ b o, f' b = some o → f b = none → s.heap.get? b = none
 keep : ∀ b o, s.heap.get? b = some o → b ∉ X → s'.heap.get? b = some o
 ex : ∀ b o, s.heap.get? b = some o → ∃ o', s'.heap.get? b = some o'
theorem Go.refl {X : List Addr} {f : FM} {s : Shared} : Go X f f s s := ⟨fun _ _ e => e, fun _ _ e n => by (rw [e] at n; cases n), fun _ _ e _ => e, fun _ o e => ⟨o, e⟩⟩
theorem Go.trans {X Y : List Addr} {f f' f'' : FM} {s s' s'' : Shared} (g : Go X f f' s s') (k : Go Y f' f'' s' s'') (hY : ∀ b ∈ Y, b ∈ X ∨ s.heap.get? b = none) : Go X f f'' s s'' where
 fle := fun b o e => k.fle b o (g.fle b o e)
 fnew := fun b o e n => by
  cases q : f' b with
  | some o' => exact g.fnew b o' q n
  | none =>
   have := k.fnew b o e q
   cases r : s.heap.get? b with
   | none => rfl
   | some o' => obtain ⟨o2, e2⟩ := g.ex b o' r; rw [this] at e2; cases e2
 keep := fun b o e n => k.keep b o (g.keep b o e n) (fun q => (hY b q).elim n fun z => by rw [z] at e; cases e)
 ex := fun b o e => let ⟨o', e'⟩ := g.ex b o e; k.ex b o' e'
theorem Go.trans' {X : List Addr} {f f' f'' : FM} {s s' s'' : Shared} (g : Go X f f' s s') (k : Go X f' f'' s' s'') : Go X f f'' s s'' := g.trans k fun _ h => .inl h
theorem qGO {h h' : Heap} {a : Addr} {vs : Array Value} (x : PlainL h a vs) (k : ∀ o, h.get? a = some o → h'.get? a = some o) : PlainL h' a vs := let ⟨o, n, e, r⟩ := x; ⟨o, n, k _ e, r⟩
theorem Cell.keeps {f f' : FM} {ga : GA} {la la' : List Addr} {h h' : Heap} {a : Addr} {l : List PV} (x : Cell f ga la h a l) (kf : ∀ b o, f b = some o → f' b = some o) (k : ∀ o, h.get? a = some o → h'.get? a = some o) : Cell f' ga la' h' a l :=
 let ⟨n, z, vs, e, r⟩ := x; ⟨n, z, vs, qGO e k, (r.up kf).solid z⟩
theorem ju {h h' : Heap} {a : Addr} {m : Str → Option Value} (x : h.Ns a m) (k : ∀ o, h.get? a = some o → h'.get? a = some o) : h'.Ns a m := x.elim fun o x => x.elim fun es x => x.elim fun ep x => ⟨o, es, ep, k _ x.1, x.2⟩
theorem LxAt.keeps {f f' : FM} {ga : GA} {la la' : List Addr} {t : List Nat} {i : Int} {h h' : Heap} (x : LxAt f ga la t i h) (k : ∀ o, h.get? ga.lxD = some o → h'.get? ga.lxD = some o) : LxAt f' ga la' t i h' :=
 x.elim fun o x => x.elim fun m x => ⟨o, m, k _ x.1, x.2.1, ju x.2.2.1 k, x.2.2.2.text, x.2.2.2.at_, x.2.2.2.diags, x.2.2.2.tokens, x.2.2.2.none⟩
theorem LxAt.there {f : FM} {ga : GA} {la : List Addr} {t : List Nat} {i : Int} {h : Heap} (x : LxAt f ga la t i h) : ∃ o, h.get? ga.lxD = some o := x.elim fun o x => x.elim fun m x => ⟨o, x.1⟩
theorem LxAt.plain {f : FM} {ga : GA} {la : List Addr} {t : List Nat} {i : Int} {h : Heap} (x : LxAt f ga la t i h) : ∃ o, h.get? ga.lxD = some o ∧ ∀ vs, o.data ≠ .fields vs := x.elim fun o x => x.elim fun m x => ⟨o, x.1, fun vs q => x.2.1.2.elim fun es y => y.elim fun ep y => by rw [y.1] at q; cases q⟩
theorem Cell.there {f : FM} {ga : GA} {la : List Addr} {h : Heap} {a : Addr} {l : List PV} (x : Cell f ga la h a l) : ∃ o, h.get? a = some o := x.2.2.elim fun vs x => x.1.elim fun o x => x.elim fun n x => ⟨o, x.1⟩
theorem Cell.plain {f : FM} {ga : GA} {la : List Addr} {h : Heap} {a : Addr} {l : List PV} (x : Cell f ga la h a l) : ∃ o, h.get? a = some o ∧ ∀ vs, o.data ≠ .fields vs := x.2.2.elim fun vs x => x.1.elim fun o x => x.elim fun n x => ⟨o, x.1, fun vs q => by rw [x.2.2.2] at q; cases q⟩
theorem qFI {P : Addr → Prop} {ga : GA} {la : List Addr} {g : G} (h1 : g.hd = true → P ga.rwA) (h2 : g.hl = true → P ga.lxD) (h3 : g.hl = true → P ga.tkA) (h4 : ∀ (i : Nat) (a : Addr), la[i]? = some a → P a) {a : Addr} (h : a ∈ muts ga la g) : P a := by
 unfold muts at h
 refine (List.mem_append.mp h).elim (fun h => ?_) fun h => (List.mem_append.mp h).elim (fun h => ?_) fun h => ?_
 ·cases q : g.hd with
  | true => rw [q] at h; exact (List.mem_singleton.mp h) ▸ h1 q
  | false => rw [q] at h; cases h
 ·cases q : g.hl with
  | true => rw [q] at h; exact (List.mem_cons.mp h).elim (fun e => e ▸ h2 q) fun h => (List.mem_singleton.mp h) ▸ h3 q
  | false => rw [q] at h; cases h
 ·exact (List.mem_iff_getElem?.mp h).elim fun i e => h4 i _ e
section
variable {C : Cx} {nm : List Str} {L : Addr} {fs : List Addr} {f f' : FM} {ga : GA} {la : List Addr} {st : St} {s s' : Shared}
theorem vT {a : Addr} {i : Nat} (e : la[i]? = some a) : a ∈ muts ga la st.g := by
 unfold muts
 exact List.mem_append_right _ (List.mem_append_right _ (List.mem_of_getElem? e))
theorem wd (h : st.g.hd = true) : ga.rwA ∈ muts ga la st.g := by simp [muts, h]
theorem qGU (h : st.g.hl = true) : ga.lxD ∈ muts ga la st.g := by simp [muts, h]
theorem qC2 (h : st.g.hl = true) : ga.tkA ∈ muts ga la st.g := by simp [muts, h]
theorem Mid.there {P : Addr → Prop} (M : Mid C nm L fs f ga la st s) (hc : ∀ {a l}, Cell f ga la s.heap a l → P a) (hl : LxAt f ga la st.g.text st.g.at_ s.heap → P ga.lxD) {a : Addr} (ha : a ∈ muts ga la st.g) : P a :=
 qFI (fun h => hc (M.dg h).2) (fun h => hl (M.lx h).2.2.1) (fun h => hc (M.lx h).2.2.2) (fun i a e => hc (M.ls i a _ e (List.getElem?_eq_getElem (by rw [← M.len]; exact (List.getElem?_eq_some_iff.mp e).1)))) ha
theorem yn (M : Mid C nm L fs f ga la st s) : ∀ a ∈ muts ga la st.g, ∃ o, s.heap.get? a = some o := fun a ha => M.there (P := fun a => ∃ o, s.heap.get? a = some o) Cell.there LxAt.there ha
theorem yQ (M : Mid C nm L fs f ga la st s) : ∀ a ∈ muts ga la st.g, ∃ o, s.heap.get? a = some o ∧ ∀ vs, o.data ≠ .fields vs := fun a ha => M.there (P := fun a => ∃ o, s.heap.get? a = some o ∧ ∀ vs, o.data ≠ .fields vs) Cell.plain LxAt.plain ha
theorem Mid.hasL (M : Mid C nm L fs f ga la st s) : ∃ o, s.heap.get? L = some o := M.loc.elim fun m x => x.1.elim fun o x => x.elim fun es x => x.elim fun ep x => ⟨o, x.1⟩
theorem qBP {P : Obj → Prop} {h : Heap} {a : Addr} (x : ∃ o, h.get? a = some o ∧ P o) (o : Obj) (e : h.get? a = some o) : P o := x.elim fun _ y => Option.some.inj (y.1.symm.trans e) ▸ y.2
theorem Mid.reV (M : Mid C nm L fs f ga la st s) {v' : List (Option PV)} (kf : ∀ b o, f b = some o → f' b = some o) (kn : ∀ b o, s.heap.get? b = some o → (∀ vs, o.data ≠ .fields vs) → f b = none → f' b = none) (kz : ∀ b o, f' b = some o → s'.heap.get? b = some o)
  (km : ∀ b o, b ∈ muts ga la st.g → s.heap.get? b = some o → (∀ vs, o.data ≠ .fields vs) → s'.heap.get? b = some o) (kr : ∀ b o, b ∈ fs → s.heap.get? b = some o → (∀ vs, o.data ≠ .fields vs) → ∃ o', s'.heap.get? b = some o' ∧ ∀ vs, o'.data ≠ .fields vs)
  (ht : 0 < s'.toks) (hg : s'.gens = s.gens) (ho : s'.os = s.os) (ev : v'.length = st.v.length) (loc : ∃ m, s'.heap.Ns L m ∧ ∀ (i : Nat) (x : Str) (v : PV), nm[i]? = some x → v'[i]? = some (some v) → ∃ u, m x = some u ∧ VR f' ga la v u) :
  Mid C nm L fs f' ga la { st with v := v' } s' where
 base b o e := kf b o (M.base b o e)
 fz := kz
 tk := ht
 gens := hg.trans M.gens
 os := ho.trans M.os
 lenv := ev.trans M.lenv
 loc := loc
 freshL := M.loc.elim fun m x => x.1.elim fun o x => x.elim fun es x => x.elim fun ep x => kn L o x.1 (fun vs q => by rw [x.2.1] at q; cases q) M.freshL
 mutF a ha := ⟨(yQ M a ha).elim fun o e => kn a o e.1 e.2 (M.mutF a ha).1, (M.mutF a ha).2⟩
 nodup := M.nodup
 len := M.len
 ls i a l e1 e2 := (M.ls i a l e1 e2).keeps kf fun o e => km a o (vT e1) e (qBP (yQ M a (vT e1)) o e)
 dg h := ⟨(M.dg h).1.up kf, (M.dg h).2.keeps kf fun o e => km _ o (wd h) e (qBP (yQ M _ (wd h)) o e)⟩
 lx h := ⟨(M.lx h).1, kf _ _ (M.lx h).2.1, (M.lx h).2.2.1.keeps fun o e => km _ o (qGU h) e (qBP (yQ M _ (qGU h)) o e), (M.lx h).2.2.2.keeps kf fun o e => km _ o (qC2 h) e (qBP (yQ M _ (qC2 h)) o e)⟩
 exc := M.exc
 fr b hb := ⟨(M.fr b hb).2.2.2.elim fun o x => kn b o x.1 x.2 (M.fr b hb).1, (M.fr b hb).2.1, (M.fr b hb).2.2.1, (M.fr b hb).2.2.2.elim fun o x => kr b o hb x.1 x.2⟩
theorem Mid.re (M : Mid C nm L fs f ga la st s) (kf : ∀ b o, f b = some o → f' b = some o) (kn : ∀ b o, s.heap.get? b = some o → (∀ vs, o.data ≠ .fields vs) → f b = none → f' b = none) (kz : ∀ b o, f' b = some o → s'.heap.get? b = some o)
  (k : ∀ b o, b = L ∨ b ∈ muts ga la st.g ∨ b ∈ fs → s.heap.get? b = some o → s'.heap.get? b = some o) (ht : 0 < s'.toks) (hg : s'.gens = s.gens) (ho : s'.os = s.os) : Mid C nm L fs f' ga la st s' :=
 M.reV (v' := st.v) kf kn kz (fun b o h e _ => k b o (.inr (.inl h)) e) (fun b o h e n => ⟨o, k b o (.inr (.inr h)) e, n⟩) ht hg ho rfl (M.loc.elim fun m x => ⟨m, ju x.1 fun o e => k L o (.inl rfl) e, fun i y v e1 e2 => (x.2 i y v e1 e2).elim fun u z => ⟨u, z.1, z.2.up kf⟩⟩)
theorem Mid.grow (M : Mid C nm L fs f ga la st s) (k : ∀ b o, s.heap.get? b = some o → s'.heap.get? b = some o) (kf : ∀ b o, f b = some o → f' b = some o) (kn : ∀ b o, f' b = some o → f b = none → s.heap.get? b = none)
  (kz : ∀ b o, f' b = some o → s'.heap.get? b = some o) (ht : 0 < s'.toks) (hg : s'.gens = s.gens) (ho : s'.os = s.os) : Mid C nm L fs f' ga la st s' :=
 M.re kf (fun b o e _ n => Option.eq_none_iff_forall_ne_some.mpr fun o' q => by rw [kn b o' q n] at e; cases e) kz (fun b o _ => k b o) ht hg ho
theorem Mid.same (M : Mid C nm L fs f ga la st s) (k : ∀ b o, s.heap.get? b = some o → s'.heap.get? b = some o) (ht : 0 < s'.toks) (hg : s'.gens = s.gens) (ho : s'.os = s.os) : Mid C nm L fs f ga la st s' :=
 M.grow k (fun _ _ e => e) (fun _ _ e n => by rw [e] at n; cases n) (fun b o e => k b o (M.fz b o e)) ht hg ho
end
noncomputable def uF : List Env → List Addr → Prop
 | [], [] => True
 | e :: r, b :: t => e.scope.kind ≠ .module ∧ e.frame = some b ∧ uF r t
 | _, _ => False
structure Room (d : Nat) (A : Around) (L : Addr) (fs : List Addr) : Prop where
 frames : ∃ l, A.frames = some l ∧ uF l (L :: fs)
 depth : A.depth + 2 * d + 11 < recursionLimit
 deep : 301 + fs.length < A.depth
 units : A.units + 20 * d + 200 < cLine
 handled : 0 < d → A.handled = none
structure Fi where
 nm : List Str
 sc : Scope
 q : Str
noncomputable def Fi.ok (F : Fi) : Bool := F.sc.kind == .function && !F.sc.isCoroutine && !F.sc.isGenerator && (F.nm.all fun x => F.sc.names.lookup x == some .local && !(x == ("__debug__" : Str))) && decide F.nm.Nodup && F.sc.names.all fun x => x.2 != .cell
noncomputable abbrev Fi.env (F : Fi) (L a : Addr) (cd : Value) : Env := envOf F.q F.sc L a cd
noncomputable def keepsV (st st' : St) : Prop := st'.g.hl = st.g.hl ∧ st'.g.hd = st.g.hd ∧ st'.v = st.v ∧ st'.ls.length = st.ls.length
theorem keepsV.refl (st : St) : keepsV st st := ⟨rfl, rfl, rfl, rfl⟩
theorem keepsV.trans {a b c : St} (x : keepsV a b) (y : keepsV b c) : keepsV a c := ⟨y.1.trans x.1, y.2.1.trans x.2.1, y.2.2.1.trans x.2.2.1, y.2.2.2.trans x.2.2.2⟩
theorem keepsV.muts {a b : St} (x : keepsV a b) (ga : GA) (la : List Addr) : muts ga la b.g = muts ga la a.g := by
 unfold Mine.muts; rw [x.1, x.2.1]
noncomputable def Post {α : Type} (c : St → Option (α × St)) (st : St) (P : St → α → Prop) : Prop := ∀ (st' : St) (x : α), c st = some (x, st') → P st' x
noncomputable def KE (C : Cx) (nm : List Str) (L : Addr) (fs : List Addr) (f : FM) (ga : GA) (la : List Addr) (st : St) (s : Shared) (Q : Value → Shared → Prop) (st' : St) (v : PV) : Prop :=
 ∀ f' s' u, Go (L :: muts ga la st.g) f f' s s' → Mid C nm L fs f' ga la st' s' → VR f' ga la v u → Q u s'
noncomputable def qX2 (C : Cx) (F : Fi) (d : Nat) (x : Expr) (st st' : St) (v : PV) : Prop :=
 ∀ {A : Around} {L a : Addr} {cd : Value} {fs : List Addr} {f : FM} {ga : GA} {la : List Addr} {s : Shared} {Q E : Value → Shared → Prop}, Room d A L fs → Mid C F.nm L fs f ga la st s →
  KE C F.nm L fs f ga la st s Q st' v → wpAny (model C.prog C.w) A (eval x (F.env L a cd)) Q E s
noncomputable def qUF (C : Cx) (F : Fi) (d : Nat) (x : Expr) (st st' : St) (v : PV) : Prop := keepsV st st' ∧ qX2 C F d x st st' v
noncomputable def qX (C : Cx) (F : Fi) (d : Nat) (x : Expr) (c : EC) : Prop := ∀ st, Post c st (qUF C F d x st)
noncomputable def KT (C : Cx) (nm : List Str) (L : Addr) (fs : List Addr) (f : FM) (ga : GA) (la : List Addr) (st : St) (s : Shared) (Q : Bool → Shared → Prop) (st' : St) (v : Bool) : Prop :=
 ∀ f' s', Go (L :: muts ga la st.g) f f' s s' → Mid C nm L fs f' ga la st' s' → Q v s'
noncomputable def qX5 (C : Cx) (F : Fi) (d : Nat) (x : Expr) (st st' : St) (v : Bool) : Prop :=
 ∀ {A : Around} {L a : Addr} {cd : Value} {fs : List Addr} {f : FM} {ga : GA} {la : List Addr} {s : Shared} {Q : Bool → Shared → Prop} {E : Value → Shared → Prop}, Room d A L fs → Mid C F.nm L fs f ga la st s →
  KT C F.nm L fs f ga la st s Q st' v → wpAny (model C.prog C.w) A (isTrue x (F.env L a cd) (eval x (F.env L a cd))) Q E s
noncomputable def qWQ (C : Cx) (F : Fi) (d : Nat) (x : Expr) (st st' : St) (v : Bool) : Prop := keepsV st st' ∧ qX5 C F d x st st' v
noncomputable def du (C : Cx) (F : Fi) (d : Nat) (x : Expr) (c : TC) : Prop := ∀ st, Post c st (qWQ C F d x st)
noncomputable def qVL : Expr → Bool
 | .Starred _ _ => true
 | _ => false
noncomputable def noStar : List Expr → Bool
 | [] => true
 | x :: r => !qVL x && noStar r
noncomputable def KL (C : Cx) (nm : List Str) (L : Addr) (fs : List Addr) (f : FM) (ga : GA) (la : List Addr) (st : St) (s : Shared) (Q : List Value → Shared → Prop) (st' : St) (vs : List PV) : Prop :=
 ∀ f' s' us, Go (L :: muts ga la st.g) f f' s s' → Mid C nm L fs f' ga la st' s' → VRs f' ga la vs us → Q us s'
noncomputable def qX3 (C : Cx) (F : Fi) (d : Nat) (xs : List Expr) (st st' : St) (vs : List PV) : Prop :=
 ∀ {A : Around} {L a : Addr} {cd : Value} {fs : List Addr} {f : FM} {ga : GA} {la : List Addr} {s : Shared} {pos : Pos} {Q : List Value → Shared → Prop} {E : Value → Shared → Prop}, Room d A L fs → Mid C F.nm L fs f ga la st s →
  KL C F.nm L fs f ga la st s Q st' vs → wpAny (model C.prog C.w) A (spliced (backTo pos (starEach xs (F.env L a cd)))) Q E s
noncomputable def qPE (C : Cx) (F : Fi) (d : Nat) (xs : List Expr) (st st' : St) (vs : List PV) : Prop := keepsV st st' ∧ vs.length = xs.length ∧ qX3 C F d xs st st' vs
noncomputable def kq (C : Cx) (F : Fi) (d : Nat) (xs : List Expr) (c : LC) : Prop := noStar xs = true ∧ ∀ st, Post c st (qPE C F d xs st)
theorem hid {T : Prop} (h : ∀ G : Prop, (T → G) → G) : T := h T id
theorem qPO {α β : Type} {a : St → Option (α × St)} {k : α → St → Option (β × St)} {st : St} {r : β × St} (h : bnd a k st = some r) : ∃ x st1, a st = some (x, st1) ∧ k x st1 = some r := by
 unfold bnd at h
 cases q : a st with
 | none => rw [q] at h; cases h
 | some z => rw [q] at h; exact ⟨z.1, z.2, rfl, h⟩
theorem ttR : true = true := rfl
theorem kfR : ScopeKind.function = ScopeKind.function := rfl
theorem swR : ∀ _ : Env, (pure false : Sem Bool) = pure false := fun _ => rfl
theorem suR {α : Type} : ∀ _ : Env, (pure none : Sem (Option α)) = pure none := fun _ => rfl
theorem fsR {α : Type} : ∀ (_ : Env) (x : α), (pure x : Sem α) = pure x := fun _ _ => rfl
theorem pbR {α β γ : Type} : ∀ (_ : α) (_ : β) (w : γ), w = w := fun _ _ _ => rfl
theorem itR (p : Pos) : ∀ (_ : Env) (whole : Sem Value), (do let v ← whole; standAt p; holding [v] (truthy v)) = (do let v ← whole; standAt p; holding [v] (truthy v)) := fun _ _ => rfl
theorem Post.bnd {α β : Type} {a : St → Option (α × St)} {k : α → St → Option (β × St)} {st : St} {P : St → β → Prop} (h : Post a st fun st1 x => Post (k x) st1 P) : Post (Mine.bnd a k) st P :=
 fun st' y e => (qPO e).elim fun x e => e.elim fun st1 e => h st1 x e.1 st' y e.2
theorem Post.use {α : Type} {c : St → Option (α × St)} {st : St} {P Q : St → α → Prop} (h : Post c st P) (k : ∀ st' x, P st' x → Q st' x) : Post c st Q := fun st' x e => k st' x (h st' x e)
theorem Post.pure {α : Type} {x : α} {st : St} {P : St → α → Prop} (h : P st x) : Post (fun st => some (x, st)) st P := fun st' y e => (Prod.mk.inj (Option.some.inj e)).1 ▸ (Prod.mk.inj (Option.some.inj e)).2 ▸ h
theorem Post.non {α : Type} {st : St} {P : St → α → Prop} : Post (fun _ => Option.none) st P := fun st' y e => qH e
theorem Post.okP {o : Option PV} {st : St} {P : St → PV → Prop} (h : ∀ v, o = some v → P st v) : Post (Mine.okP o) st P := fun st' v e => by
 cases o with
 | none => exact qH e
 | some w => exact Post.pure (h w rfl) st' v e
noncomputable def Prim (M : Model) (f : FM) (ga : GA) (la : List Addr) (A : Around) (t : Sem Value) (v : PV) (s : Shared) : Prop :=
 ∀ (Q E : Value → Shared → Prop), (∀ u s' f', (∀ b o, s.heap.get? b = some o → s'.heap.get? b = some o) → s.toks ≤ s'.toks → s'.gens = s.gens → s'.os = s.os →
   (∀ b o, f b = some o → f' b = some o) → (∀ b o, f' b = some o → f b = none → s.heap.get? b = none) → (∀ b o, f' b = some o → s'.heap.get? b = some o) → VR f' ga la v u → Q u s') → wpAny M A t Q E s
section
variable {C : Cx} {F : Fi} {d : Nat}
theorem Prim.plain {f : FM} {ga : GA} {la : List Addr} {A : Around} {t : Sem Value} {v : PV} {s : Shared} {M : Model} (hf : ∀ b o, f b = some o → s.heap.get? b = some o)
  (h : ∀ (Q E : Value → Shared → Prop), (∀ u h' tk, (∀ b o, s.heap.get? b = some o → h'.get? b = some o) → VR f ga la v u → Q u { s with heap := h', toks := tk }) → wpAny M A t Q E s) : Prim M f ga la A t v s := by
 intro Q E hq
 refine wpAny_with_toks (Nat.le_refl s.toks) (h _ _ fun u h' tk k hv htk => ?_)
 exact hq u _ f k htk rfl rfl (fun _ _ e => e) (fun _ _ e n => by rw [e] at n; cases n) (fun b o e => k b o (hf b o e)) hv
theorem Prim.val {f : FM} {ga : GA} {la : List Addr} {A : Around} {t : Sem Value} {v : PV} {s : Shared} {M : Model} (hf : ∀ b o, f b = some o → s.heap.get? b = some o)
  (h : ∀ (Q E : Value → Shared → Prop), (∀ u tk, VR f ga la v u → Q u { s with toks := tk }) → wpAny M A t Q E s) : Prim M f ga la A t v s :=
 Prim.plain hf fun Q E hq => h Q E fun u tk hv => hq u s.heap tk (fun _ _ e => e) hv
theorem Prim.use {f : FM} {ga : GA} {la : List Addr} {L : Addr} {fs : List Addr} {A : Around} {t : Sem Value} {v : PV} {st : St} {s : Shared} {Q E : Value → Shared → Prop}
  (P : Prim (model C.prog C.w) f ga la A t v s) (M : Mid C F.nm L fs f ga la st s) (h : ∀ f' s' u, (∀ X, Go X f f' s s') → Mid C F.nm L fs f' ga la st s' → VR f' ga la v u → Q u s') : wpAny (model C.prog C.w) A t Q E s :=
 P Q E fun u s' f' k ht hg ho kf kn kz hv => h f' s' u (fun X => ⟨kf, kn, fun b o e _ => k b o e, fun b o e => ⟨o, k b o e⟩⟩) (M.grow k kf kn kz (Nat.lt_of_lt_of_le M.tk ht) hg ho) hv
theorem qXG {o : Option PV} {st st' : St} {v : PV} (h : okP o st = some (v, st')) : o = some v ∧ st' = st := Post.okP (P := fun st' v => o = some v ∧ st' = st) (fun v e => ⟨e, rfl⟩) st' v h
section
variable {nm : List Str} {L : Addr} {fs : List Addr} {f f1 : FM} {ga : GA} {la : List Addr} {st st1 st' : St} {s s1 : Shared}
theorem KE.next {Q : Value → Shared → Prop} {v : PV} (hq : KE C nm L fs f ga la st s Q st' v) (k : keepsV st st1) (g : Go (L :: muts ga la st.g) f f1 s s1) : KE C nm L fs f1 ga la st1 s1 Q st' v :=
 fun f2 s2 u g2 M2 v2 => hq f2 s2 u (g.trans' (k.muts ga la ▸ g2)) M2 v2
theorem KT.next {Q : Bool → Shared → Prop} {v : Bool} (hq : KT C nm L fs f ga la st s Q st' v) (k : keepsV st st1) (g : Go (L :: muts ga la st.g) f f1 s s1) : KT C nm L fs f1 ga la st1 s1 Q st' v :=
 fun f2 s2 g2 M2 => hq f2 s2 (g.trans' (k.muts ga la ▸ g2)) M2
theorem KL.next {Q : List Value → Shared → Prop} {v : List PV} (hq : KL C nm L fs f ga la st s Q st' v) (k : keepsV st st1) (g : Go (L :: muts ga la st.g) f f1 s s1) : KL C nm L fs f1 ga la st1 s1 Q st' v :=
 fun f2 s2 u g2 M2 v2 => hq f2 s2 u (g.trans' (k.muts ga la ▸ g2)) M2 v2
end
theorem Post.tru {α : Type} {x : PV} {st : St} {P : St → α → Prop} {a b : St → Option (α × St)} (h1 : x = .bool true → Post a st P) (h2 : x = .bool false → Post b st P) : Post (fun st => match k6 x with
  | some true => a st
  | some false => b st
  | none => none) st P := by
 cases x with
 | bool r => cases r with
  | true => exact h1 rfl
  | false => exact h2 rfl
 | _ => exact Post.non
theorem Post.tru' {α : Type} {x : PV} {st : St} {P : St → α → Prop} {a b : St → Option (α × St)} (h1 : x = .bool true → Post a st P) (h2 : x = .bool false → Post b st P) : Post (fun st => match k6 x with
  | some false => b st
  | some true => a st
  | none => none) st P := by
 cases x with
 | bool r => cases r with
  | true => exact h1 rfl
  | false => exact h2 rfl
 | _ => exact Post.non
theorem Post.truE {x : PV} {st : St} {P : St → Bool → Prop} (h : ∀ b, x = .bool b → P st b) : Post (fun st => match k6 x with
  | some b => some (b, st)
  | none => none) st P := by
 cases x with
 | bool r => exact Post.pure (h r rfl)
 | _ => exact Post.non
theorem Post.ite {α : Type} {c : Prop} [Decidable c] {st : St} {P : St → α → Prop} {a b : St → Option (α × St)} (h1 : c → Post a st P) (h2 : ¬ c → Post b st P) : Post (fun st => if c then a st else b st) st P := fun st' y e => by
 by_cases q : c
 ·exact h1 q st' y ((if_pos q).symm.trans e)
 ·exact h2 q st' y ((if_neg q).symm.trans e)
theorem qX9 {x n : Expr} {a : EC} {k : PV → St → Option PV} (T : Value → Sem Value) (ha : qX C F d x a)
  (hn : ∀ {A : Around} {L b : Addr} {cd : Value} {s : Shared} {Q E : Value → Shared → Prop}, wpAny (model C.prog C.w) A (eval x (F.env L b cd)) (fun u s1 => wpAny (model C.prog C.w) A (T u) Q E s1) E s → wpAny (model C.prog C.w) A (eval n (F.env L b cd)) Q E s)
  (hp : ∀ {A : Around} {L : Addr} {fs : List Addr} {f : FM} {ga : GA} {la : List Addr} {st : St} {s : Shared} {y v : PV} {u : Value}, Room d A L fs → Mid C F.nm L fs f ga la st s → VR f ga la y u → k y st = some v → Prim (model C.prog C.w) f ga la A (T u) v s) :
  qX C F d n (bnd a fun x st => okP (k x st) st) := fun st =>
 .bnd ((ha st).use fun st1 y h1 => .okP fun v hv => ⟨h1.1, fun hr M hq => hn (h1.2 hr M fun f1 s1 u g1 M1 v1 => (hp hr M1 v1 hv).use M1 fun f2 s2 u2 g2 M2 v2 => hq f2 s2 u2 (g1.trans' (g2 _)) M2 v2)⟩)
theorem qBB {x y n : Expr} {a b : EC} {k : PV → PV → St → Option PV} (T : Value → Value → Sem Value) (ha : qX C F d x a) (hb : qX C F d y b)
  (hn : ∀ {A : Around} {L c : Addr} {cd : Value} {s : Shared} {Q E : Value → Shared → Prop}, wpAny (model C.prog C.w) A (eval x (F.env L c cd)) (fun u s1 => wpAny (model C.prog C.w) A (eval y (F.env L c cd)) (fun w s2 => wpAny (model C.prog C.w) A (T u w) Q E s2) E s1) E s →
   wpAny (model C.prog C.w) A (eval n (F.env L c cd)) Q E s)
  (hp : ∀ {A : Around} {L : Addr} {fs : List Addr} {f : FM} {ga : GA} {la : List Addr} {st : St} {s : Shared} {y z v : PV} {u w : Value}, Room d A L fs → Mid C F.nm L fs f ga la st s → VR f ga la y u → VR f ga la z w → k y z st = some v → Prim (model C.prog C.w) f ga la A (T u w) v s) :
  qX C F d n (bnd a fun x => bnd b fun y st => okP (k x y st) st) := fun st =>
 .bnd ((ha st).use fun st1 y h1 => .bnd ((hb st1).use fun st2 z h2 => .okP fun v hv => ⟨h1.1.trans h2.1, fun hr M hq => hn (h1.2 hr M fun f1 s1 u g1 M1 v1 => h2.2 hr M1 fun f2 s2 u2 g2 M2 v2 => (hp hr M2 (v1.up g2.fle) v2 hv).use M2 fun f3 s3 u3 g3 M3 v3 =>
  hq f3 s3 u3 ((g1.trans' (h1.1.muts _ _ ▸ g2)).trans' (g3 _)) M3 v3)⟩))
theorem qWW {k : Nat} {p : Pos} : qX C F d (.Constant .none k p) (eC .none) := fun st => .pure ⟨.refl _, fun hr M hq => wpAny_pure (hq _ _ _ .refl M rfl)⟩
theorem jp {b : Bool} {k : Nat} {p : Pos} : qX C F d (.Constant (.bool b) k p) (eC (.bool b)) := fun st => .pure ⟨.refl _, fun hr M hq => wpAny_pure (hq _ _ _ .refl M rfl)⟩
theorem ub {C : Cx} {nm : List Str} {L : Addr} {fs : List Addr} {f : FM} {ga : GA} {la : List Addr} {st : St} {s : Shared} (M : Mid C nm L fs f ga la st s) (n : Nat) : Mid C nm L fs f ga la st { s with toks := s.toks + n } :=
 M.same (fun _ _ e => e) (Nat.lt_of_lt_of_le M.tk (Nat.le_add_right _ _)) rfl rfl
theorem tokGo {X : List Addr} {f : FM} {s : Shared} {n : Nat} : Go X f f s { s with toks := n } := ⟨fun _ _ e => e, fun _ _ e n => by (rw [e] at n; cases n), fun _ _ e _ => e, fun _ o e => ⟨o, e⟩⟩
theorem qE {i : Int} {k : Nat} {p : Pos} : qX C F d (.Constant (.int i) k p) (eC (.int i)) := fun st => .pure ⟨.refl _, fun hr M hq => wpAny_Constant_int (hq _ _ _ tokGo (ub M 1) ⟨_, rfl⟩)⟩
theorem qCA {x : Str} {l : List Nat} {k : Nat} {p : Pos} (h1 : x = ⟨l.toArray⟩) (h2 : decide (l.length ≤ line) = true) : qX C F d (.Constant (.str x) k p) (eC (.str l)) :=
 h1 ▸ fun st => .pure ⟨.refl _, fun hr M hq => wpAny_Constant_str (hq _ _ _ tokGo (ub M 1) ⟨of_decide_eq_true h2, _, rfl⟩)⟩
noncomputable def strOk (x : Str) (l : List Nat) : Bool := x == ⟨l.toArray⟩ && decide (l.length ≤ line)
theorem qF {x : Str} {l : List Nat} {k : Nat} {p : Pos} (h : strOk x l = true := by kernel_rfl) : qX C F d (.Constant (.str x) k p) (eC (.str l)) := qCA (beq_iff_eq.mp (Bool.and_eq_true_iff.mp h).1) (Bool.and_eq_true_iff.mp h).2
structure FiOk (F : Fi) : Prop where
 fn : F.sc.kind = .function
 co : F.sc.isCoroutine = false
 gen : F.sc.isGenerator = false
 loc : ∀ x ∈ F.nm, F.sc.names.lookup x = some .local ∧ (x == ("__debug__" : Str)) = false
 nd : F.nm.Nodup
 cell : ∀ x ∈ F.sc.names, x.2 ≠ .cell
theorem Fi.of (h : F.ok = true) : FiOk F := by
 simp only [Fi.ok, Bool.and_eq_true, beq_iff_eq, List.all_eq_true, decide_eq_true_eq, Bool.not_eq_true', bne_iff_ne] at h
 exact ⟨h.1.1.1.1.1, h.1.1.1.1.2, h.1.1.1.2, fun x hx => h.1.1.2 x hx, h.1.2, h.2⟩
theorem Fi.at {i : Nat} {x : Str} (h : (F.ok && (F.nm[i]? == some x)) = true) : F.nm[i]? = some x := beq_iff_eq.mp (Bool.and_eq_true_iff.mp h).2
theorem qST {i : Nat} {x : Str} {p : Pos} (h : (F.ok && (F.nm[i]? == some x)) = true) : qX C F d (.Name x p) (qC i) := fun st st' v hh => by
 have O := Fi.of (Bool.and_eq_true_iff.mp h).1
 have hx := O.loc x (List.mem_of_getElem? (Fi.at h))
 unfold qC at hh
 cases e : st.v[i]? with
 | none => rw [e] at hh; cases hh
 | some o => cases o with
  | none => rw [e] at hh; cases hh
  | some w =>
   rw [e] at hh
   refine Post.pure (x := w) ⟨.refl _, fun hr M hq => ?_⟩ st' v hh
   exact M.loc.elim fun m hm => (hm.2 i x w (Fi.at h) e).elim fun u hu => wpAny_Name (wpAny_loadName_local (env := F.env _ _ _) (m := m) O.fn hx.1 hm.1 hu.1 (hq _ _ _ .refl M hu.2)) hx.2
end
section
variable {C : Cx} {F : Fi} {d : Nat}
theorem jl (x : List Nat) : (⟨x.toArray⟩ : PySem.Str).length = x.length := by simp [PySem.Str.length]
theorem qMJ (x y : List Nat) : (⟨x.toArray⟩ : PySem.Str) ++ ⟨y.toArray⟩ = ⟨(x ++ y).toArray⟩ := by
 show PySem.Str.append _ _ = _
 simp [PySem.Str.append]
theorem yu {n : Nat} (h : n ≤ line) : n ≤ sizeLine := by rw [sizeLine_eq]; unfold line at h; lia
theorem uk (x : List Nat) : (⟨x.toArray⟩ : PySem.Str).cps.toList = x := by simp
theorem VR.str' {f : FM} {ga : GA} {la : List Addr} {l : List Nat} {t : Tok} (h : l.length ≤ line) : VR f ga la (.str l) (.str ⟨l.toArray⟩ t) := ⟨h, t, rfl⟩
theorem VR.int' {f : FM} {ga : GA} {la : List Addr} {i : Int} {t : Tok} : VR f ga la (.int i) (.int i t) := ⟨t, rfl⟩
noncomputable def kt (f : FM) (a : Addr) (o : Obj) : FM := fun b => if b = a then some o else f b
theorem jb {C : Cx} {nm : List Str} {L : Addr} {fs : List Addr} {f : FM} {ga : GA} {la : List Addr} {st : St} {s : Shared} (M : Mid C nm L fs f ga la st s) : f s.heap.objs.size = none :=
 Option.eq_none_iff_forall_ne_some.mpr fun o' q => absurd (Heap.lt_size (M.fz _ _ q)) (Nat.lt_irrefl _)
theorem wp (h : Heap) : h.get? h.objs.size = none := Option.eq_none_iff_forall_ne_some.mpr fun o' q => absurd (Heap.lt_size q) (Nat.lt_irrefl _)
theorem j9 {f : FM} {a : Addr} {o : Obj} (h : f a = none) : ∀ b o', f b = some o' → kt f a o b = some o' := fun b o' e => (if_neg fun q => by rw [q, h] at e; cases e).trans e
theorem jg {f : FM} {a : Addr} {o : Obj} : kt f a o a = some o := if_pos rfl
theorem yx {f : FM} {a : Addr} {o : Obj} {h : Heap} (hn : h.get? a = none) : ∀ b o', kt f a o b = some o' → f b = none → h.get? b = none := fun b o' e n => by
 by_cases q : b = a
 ·exact q ▸ hn
 ·exact qH (n.symm.trans ((if_neg q).symm.trans e))
theorem yN {f : FM} {a : Addr} {o : Obj} {h : Heap} (ho : h.get? a = some o) (hf : ∀ b o', f b = some o' → h.get? b = some o') : ∀ b o', kt f a o b = some o' → h.get? b = some o' := fun b o' e => by
 by_cases q : b = a
 ·exact q ▸ ho.trans ((if_pos q).symm.trans e)
 ·exact hf b o' ((if_neg q).symm.trans e)
theorem Prim.alloc {nm : List Str} {L : Addr} {fs : List Addr} {st : St} {f : FM} {ga : GA} {la : List Addr} {A : Around} {t : Sem Value} {v : PV} {s : Shared} {o : Obj} (M : Mid C nm L fs f ga la st s) (ho : o.isFreed = false)
  (hv : VR (kt f s.heap.objs.size o) ga la v (.ref s.heap.objs.size))
  (h : ∀ (Q E : Value → Shared → Prop), Q (.ref s.heap.objs.size) { s with heap := s.heap.push o } → wpAny (model C.prog C.w) A t Q E s) : Prim (model C.prog C.w) f ga la A t v s := fun Q E hq =>
 h Q E (hq _ _ _ (fun b o' e => Heap.get?_push_of_some _ e) (Nat.le_refl _) rfl rfl (j9 (jb M)) (yx (wp _)) (yN (Heap.get?_push_size _ ho) fun b o' e => Heap.get?_push_of_some _ (M.fz b o' e)) hv)
theorem VR.tup' {f : FM} {ga : GA} {la : List Addr} {vs : List PV} {a : Addr} {us : List Value} (h : TupF f a us) (k : VRs f ga la vs us) : VR f ga la (.tup vs) (.ref a) := by unfold VR; exact ⟨a, us, rfl, h, k⟩
theorem VR.fl' {f : FM} {ga : GA} {la : List Addr} {vs : List PV} {a : Addr} {us : List Value} (hn : vs.length ≤ line) (h : LstF f a us) (k : VRs f ga la vs us) : VR f ga la (.fl vs) (.ref a) := by unfold VR; exact ⟨hn, a, us, rfl, h, k⟩
theorem qRI {A : Around} {L : Addr} {fs : List Addr} {f : FM} {ga : GA} {la : List Addr} {st : St} {s : Shared} {y z v : PV} {u w : Value} (M : Mid C F.nm L fs f ga la st s)
  (hy : VR f ga la y u) (hz : VR f ga la z w) (h : bop .add y z = some v) : Prim (model C.prog C.w) f ga la A (binaryOp .Add u w) v s :=
 VR.on3 hy h (fun a t h => VR.onI hz h fun b t' h => Option.some.inj h ▸ Prim.val M.fz fun Q E hq => add_int (hq _ _ .int'))
  (fun a t h1 h => VR.onS hz h fun b t' h2 h => (qb h).2 ▸ Prim.val M.fz fun Q E hq => PyProof.Rows.add_str (fun t' tk => qMJ a b ▸ hq _ _ (.str' (by rw [List.length_append]; exact (qb h).1))) (by rw [jl, jl]; exact yu (qb h).1))
  fun a l vs h1 hl r1 h => VR.onF hz h fun b l2 ws h2 hl2 r2 h => hl.elim fun o x => x.elim fun n x => hl2.elim fun o2 x2 => x2.elim fun n2 x2 => (qb h).2 ▸ by
   have ho := M.fz _ _ x.1
   have ho2 := M.fz _ _ x2.1
   have hsz : vs.toArray.size + ws.toArray.size ≤ sizeLine := by
    rw [List.size_toArray, List.size_toArray, r1.length, r2.length]; exact yu (qb h).1
   obtain ⟨cls, dd, data, sl⟩ := o
   obtain ⟨cls2, dd2, data2, sl2⟩ := o2
   cases x.2.1
   cases x.2.2
   cases x2.2.1
   cases x2.2.2
   refine Prim.alloc (o := { cls := .type "list", data := .seq (vs.toArray ++ ws.toArray) }) M rfl (VR.fl' (by rw [List.length_append]; exact (qb h).1) (us := vs ++ ws) ⟨_, 0, jg, rfl, by simp⟩ ((r1.up (j9 (jb M))).append (r2.up (j9 (jb M))))) fun Q E hq => ?_
   exact concat_meets ⟨_, ho, rfl⟩ ⟨_, ho2, rfl⟩ noFill_list_add seq_list_add PySem.F.slot_list_add PySem.F.entry_list_add (PySem.F.args_list_add_2 _ _) (list_addW l l2 vs.toArray ws.toArray n n2 dd dd2 sl sl2 hsz) ⟨ho, ho2, hq⟩
theorem qx {x y : Expr} {a b : EC} {p : Pos} (ha : qX C F d x a) (hb : qX C F d y b) : qX C F d (.BinOp x .Add y p) (qY .add a b) :=
 qBB (binaryOp .Add) ha hb (fun h => wpAny_BinOp h) fun _ M h1 h2 h => qRI M h1 h2 h
section
variable {A : Around} {L : Addr} {fs : List Addr} {f : FM} {ga : GA} {la : List Addr} {st : St} {s : Shared} {y z v : PV} {u w : Value}
theorem qRM (M : Mid C F.nm L fs f ga la st s) (hy : VR f ga la y u) (hz : VR f ga la z w) (h : bop .sub y z = some v) : Prim (model C.prog C.w) f ga la A (binaryOp .Sub u w) v s :=
 VR.onI hy h fun a t h => VR.onI hz h fun b t' h => Option.some.inj h ▸ Prim.val M.fz fun Q E hq => sub_int (hq _ _ .int')
theorem qDR {a : Int} (h : small a = true) : Builtin.Int.intBits a ≤ 64 := by
 have := of_decide_eq_true h
 exact intBits_le_64 (by lia) (by lia)
theorem qRK (M : Mid C F.nm L fs f ga la st s) (hy : VR f ga la y u) (hz : VR f ga la z w) (h : bop .mul y z = some v) : Prim (model C.prog C.w) f ga la A (binaryOp .Mult u w) v s :=
 VR.onI hy h fun a t h => VR.onI hz h fun b t' h => (qb h).2 ▸ Prim.val M.fz fun Q E hq => PyProof.Rows.mul_int (hq _ _ .int') ((Bool.or_eq_true_iff.mp (qb h).1).elim (fun q => IntMulOk.of_left (qDR q)) fun q => IntMulOk.of_right (qDR q))
theorem qOT (M : Mid C F.nm L fs f ga la st s) (hy : VR f ga la y u) (hz : VR f ga la z w) (h : bop .fdiv y z = some v) : Prim (model C.prog C.w) f ga la A (binaryOp .FloorDiv u w) v s :=
 VR.onI hy h fun a t h => VR.onI hz h fun b t' h => (qb h).2 ▸ Prim.val M.fz fun Q E hq => floordiv_int (bne_iff_ne.mp (Bool.and_eq_true_iff.mp (qb h).1).2) (hq _ _ .int') (.inl (PyProof.noPylong_small (of_decide_eq_true (Bool.and_eq_true_iff.mp (qb h).1).1)))
theorem qRJ (M : Mid C F.nm L fs f ga la st s) (hy : VR f ga la y u) (hz : VR f ga la z w) (h : bop .mod y z = some v) : Prim (model C.prog C.w) f ga la A (binaryOp .Mod u w) v s :=
 VR.onI hy h fun a t h => VR.onI hz h fun b t' h => (qb h).2 ▸ Prim.val M.fz fun Q E hq => mod_int' (bne_iff_ne.mp (qb h).1) (hq _ _ .int')
theorem qRL (M : Mid C F.nm L fs f ga la st s) (hy : VR f ga la y u) (hz : VR f ga la z w) (h : bop .shr y z = some v) : Prim (model C.prog C.w) f ga la A (binaryOp .RShift u w) v s :=
 VR.onI hy h fun a t h => VR.onI hz h fun b t' h => (qb h).2 ▸ Prim.val M.fz fun Q E hq => rshift_int (qb h).1.1 (hq _ _ .int')
theorem qOS (M : Mid C F.nm L fs f ga la st s) (hy : VR f ga la y u) (hz : VR f ga la z w) (h : bop .band y z = some v) : Prim (model C.prog C.w) f ga la A (binaryOp .BitAnd u w) v s :=
 VR.onI hy h fun a t h => VR.onI hz h fun b t' h => Option.some.inj h ▸ Prim.val M.fz fun Q E hq => and_int (hq _ _ .int')
noncomputable def Cop.op : Cop → CmpOp
 | .eq => .Eq | .ne => .NotEq | .lt => .Lt | .le => .LtE | .gt => .Gt | .ge => .GtE
theorem qHQ (a b : List Nat) : ((⟨a.toArray⟩ : PySem.Str) == ⟨b.toArray⟩) = (a == b) := by
 rw [← toList_beq, uk, uk]
theorem qTZ (a b : List Nat) : ((⟨a.toArray⟩ : PySem.Str) != ⟨b.toArray⟩) = (a != b) := by
 simp only [bne, qHQ]
theorem wE {r : Bool} (o : Cop) (M : Mid C F.nm L fs f ga la st s) (hy : VR f ga la y u) (hz : VR f ga la z w) (h : vx o y z = some r) :
  ∀ (Q E : Value → Shared → Prop), Q (.bool r) s → wpAny (model C.prog C.w) A (compareOp o.op u w) Q E s :=
 VR.onIS hy h (fun a t h => VR.onI hz h fun b t' h => by
   cases Option.some.inj h
   intro Q E hq
   cases o with
   | eq => exact PyProof.Rows.eq_int hq
   | ne => exact PyProof.Rows.ne_int hq
   | lt => exact PyProof.Rows.lt_int hq
   | le => exact PyProof.Rows.le_int hq
   | gt => exact PyProof.Rows.gt_int hq
   | ge => exact PyProof.Rows.ge_int hq)
  fun a t h1 h => VR.onS hz h fun b t' h2 h Q E hq => by
   cases o with
   | eq => exact PyProof.Rows.eq_str ((qHQ a b).trans (Option.some.inj h) ▸ hq)
   | ne => exact PyProof.Rows.ne_str ((qTZ a b).trans (Option.some.inj h) ▸ hq)
   | lt => exact PyProof.Rows.lt_str (Option.some.inj h ▸ hq)
   | le =>
    cases Option.some.inj h
    exact PySem.P.le_str (by rw [uk, uk]; exact hq)
   | gt => exact qH h
   | ge => exact qH h
end
section
variable {x y : Expr} {a b : EC} {p : Pos}
theorem qBK (ha : qX C F d x a) (hb : qX C F d y b) : qX C F d (.BinOp x .Sub y p) (qY .sub a b) :=
 qBB (binaryOp .Sub) ha hb (fun h => wpAny_BinOp h) fun _ M h1 h2 h => qRM M h1 h2 h
theorem um (ha : qX C F d x a) (hb : qX C F d y b) : qX C F d (.BinOp x .Mult y p) (qY .mul a b) :=
 qBB (binaryOp .Mult) ha hb (fun h => wpAny_BinOp h) fun _ M h1 h2 h => qRK M h1 h2 h
theorem jE (ha : qX C F d x a) (hb : qX C F d y b) : qX C F d (.BinOp x .FloorDiv y p) (qY .fdiv a b) :=
 qBB (binaryOp .FloorDiv) ha hb (fun h => wpAny_BinOp h) fun _ M h1 h2 h => qOT M h1 h2 h
theorem zW (ha : qX C F d x a) (hb : qX C F d y b) : qX C F d (.BinOp x .Mod y p) (qY .mod a b) :=
 qBB (binaryOp .Mod) ha hb (fun h => wpAny_BinOp h) fun _ M h1 h2 h => qRJ M h1 h2 h
theorem qSV (ha : qX C F d x a) (hb : qX C F d y b) : qX C F d (.BinOp x .RShift y p) (qY .shr a b) :=
 qBB (binaryOp .RShift) ha hb (fun h => wpAny_BinOp h) fun _ M h1 h2 h => qRL M h1 h2 h
theorem qPU (ha : qX C F d x a) (hb : qX C F d y b) : qX C F d (.BinOp x .BitAnd y p) (qY .band a b) :=
 qBB (binaryOp .BitAnd) ha hb (fun h => wpAny_BinOp h) fun _ M h1 h2 h => qOS M h1 h2 h
theorem gz (o : Cop) (ha : qX C F d x a) (hb : qX C F d y b) (hm : behindInMarks o.op y = false) : qX C F d (.Compare x [o.op] [y] p) (qQ o a b) :=
 qBB (compareOp o.op) ha hb (fun h => wpAny_Compare1 h hm) fun _ M h1 h2 h => by
  obtain ⟨r, h3, rfl⟩ := Option.map_eq_some_iff.mp h
  exact Prim.val M.fz fun Q E hq => wE o M h1 h2 h3 Q E (hq _ _ rfl)
theorem qP (ha : qX C F d x a) (hb : qX C F d y b) (hm : behindInMarks .Eq y = false := by with_unfolding_all rfl) : qX C F d (.Compare x [.Eq] [y] p) (qQ .eq a b) := gz .eq ha hb hm
theorem z7 (ha : qX C F d x a) (hb : qX C F d y b) (hm : behindInMarks .NotEq y = false := by with_unfolding_all rfl) : qX C F d (.Compare x [.NotEq] [y] p) (qQ .ne a b) := gz .ne ha hb hm
theorem z6 (ha : qX C F d x a) (hb : qX C F d y b) (hm : behindInMarks .Lt y = false := by with_unfolding_all rfl) : qX C F d (.Compare x [.Lt] [y] p) (qQ .lt a b) := gz .lt ha hb hm
theorem qU7 (ha : qX C F d x a) (hb : qX C F d y b) (hm : behindInMarks .LtE y = false := by with_unfolding_all rfl) : qX C F d (.Compare x [.LtE] [y] p) (qQ .le a b) := gz .le ha hb hm
theorem jT (ha : qX C F d x a) (hb : qX C F d y b) (hm : behindInMarks .Gt y = false := by with_unfolding_all rfl) : qX C F d (.Compare x [.Gt] [y] p) (qQ .gt a b) := gz .gt ha hb hm
theorem qB6 (ha : qX C F d x a) (hb : qX C F d y b) (hm : behindInMarks .GtE y = false := by with_unfolding_all rfl) : qX C F d (.Compare x [.GtE] [y] p) (qQ .ge a b) := gz .ge ha hb hm
theorem qS {r : Expr} {l : Expr} {op : CmpOp} {c : EC} (h : qX C F d (.Compare l [op] [r] p) c) (hm : behindInMarks op r = false := by with_unfolding_all rfl) : du C F d (.Compare l [op] [r] p) (tE c) := fun st =>
 .bnd ((h st).use fun st1 y h1 => .truE fun b e => ⟨h1.1, fun {A L a cd fs f ga la s Q E} hr M hq => by
  obtain ⟨_, R⟩ := h1
  have := R (Q := fun u s' => wpAny (model C.prog C.w) A (truthy u) Q E s') (E := E) (a := a) (cd := cd) hr M fun f' s' u g M' hv => (show u = .bool b from (show VR f' ga la (.bool b) u from e ▸ hv)) ▸ wpAny_truthy_bool (hq f' s' g M')
  rw [isTrue_Compare1]
  rw [eval_Compare1] at this
  intro Γ q hΓ
  have t := this Γ q hΓ
  simp only [Sem.wp_bind', Sem.wp_holding, Sem.wp_cmd_standAt] at t ⊢
  exact Sem.wp_mono (model C.prog C.w) Γ _ (fun a p₁ s₁ h₁ => Sem.wp_mono (model C.prog C.w) Γ _ (fun b _ s₂ h₂ => Sem.wp_mono (model C.prog C.w) Γ _ (fun c p₃ s₃ h₃ => h₃ Γ _ hΓ) (fun _ _ _ h' => h') _ _ h₂) (fun _ _ _ h' => h') _ _ h₁) (fun _ _ _ h' => h') _ _ t⟩)
end
end
section
variable {C : Cx} {F : Fi} {d : Nat}
theorem dn {e : Expr} {r : List Expr} (env : Env) (h : noStar (e :: r) = true) : starEach (e :: r) env = (false, eval e env) :: starEach r env ∧ noStar r = true :=
 ⟨(by cases e <;> first | rfl | cases h), (Bool.and_eq_true_iff.mp h).2⟩
theorem zp : ∀ {xs : List Expr} (env : Env) (pos : Pos), noStar xs = true → (backTo pos (starEach xs env)).all (fun x => !x.1) = true ∧ (backTo pos (starEach xs env)).any (·.1) = false
 | [], _, _, _ => ⟨rfl, rfl⟩
 | e :: r, env, pos, h => by
  obtain ⟨a, b⟩ := dn env h
  obtain ⟨c, e⟩ := zp env pos b
  rw [a]
  simp only [backTo, List.map_cons, List.all_cons, List.any_cons] at c e ⊢
  exact ⟨Bool.and_eq_true_iff.mpr ⟨rfl, c⟩, Bool.or_eq_false_iff.mpr ⟨rfl, e⟩⟩
theorem jN {M : Model} {A : Around} {E : Value → Shared → Prop} {s : Shared} {fv : Value} {Q : Args → Shared → Prop} : ∀ {t : List (Bool × Sem Value)}, t.any (·.1) = false → wpAny M A (spliced t) (fun vs s' => Q ⟨vs, []⟩ s') E s → wpAny M A (evalArgs fv true t []) Q E s
 | [], _, h => by
  unfold evalArgs
  show wpAny M A (spliced [] >>= _) Q E s
  refine wpAny_bind (wpAny_mono h (fun vs s' h' => ?_) fun _ _ x => x)
  refine wpAny_holding ?_
  exact wpAny_bind (wpAny_pure (wpAny_bind (wpAny_pure (wpAny_pure h'))))
 | (true, x) :: r, e, _ => by simp at e
 | (false, x) :: r, _, h => Calls.evalArgs_plain h
theorem qR : kq C F d [] qI := ⟨rfl, fun st => .pure ⟨.refl _, rfl, fun hr M hq => wpAny_pure (hq _ _ _ .refl M rfl)⟩⟩
theorem VRs.cons {f : FM} {ga : GA} {la : List Addr} {x : PV} {r : List PV} {v : Value} {vs : List Value} (h : VR f ga la x v) (k : VRs f ga la r vs) : VRs f ga la (x :: r) (v :: vs) := by unfold VRs; exact ⟨v, vs, rfl, h, k⟩
theorem qA {x : Expr} {xs : List Expr} {a : EC} {r : LC} (ha : qX C F d x a) (hr : kq C F d xs r) (hs : noStar [x] = true := by exact ttR) : kq C F d (x :: xs) (qB a r) :=
 have hns : noStar (x :: xs) = true := Bool.and_eq_true_iff.mpr ⟨(Bool.and_eq_true_iff.mp hs).1, hr.1⟩
 ⟨hns, fun st => .bnd ((ha st).use fun st1 y h1 => .bnd ((hr.2 st1).use fun st2 ys h2 => .pure ⟨h1.1.trans h2.1, congrArg Nat.succ h2.2.1, fun rm M hq => (dn _ hns).1 ▸ Calls.spliced_cons (h1.2 rm M fun f1 s1 u g1 M1 v1 => h2.2.2 rm M1 fun f2 s2 us g2 M2 v2 =>
  hq.next h1.1 g1 f2 s2 _ g2 M2 (VRs.cons (v1.up g2.fle) v2))⟩))⟩
theorem qL {xs : List Expr} {l : LC} {k : Nat} {p : Pos} (h : kq C F d xs l) : qX C F d (.Tuple xs k p) (qZ l) := fun st =>
 .bnd ((h.2 st).use fun st1 vs h1 => .okP fun v hv => (qb hv).2 ▸ ⟨h1.1, fun rm M hq => PyProof.Rows.Tuple_ (h1.2.2 rm M fun f1 s1 us g1 M1 v1 =>
  (Prim.alloc (v := .tup vs) (o := { cls := .type "tuple", data := .seq us.toArray }) M1 rfl (VR.tup' ⟨_, 0, jg, rfl, rfl⟩ (v1.up (j9 (jb M1)))) fun Q E hq => wpAny_newObj_type hq (by show us.toArray.size ≤ sizeLine; rw [List.size_toArray, v1.length]; exact yu (qb hv).1)).use M1 fun f2 s2 u g2 M2 v2 => hq f2 s2 u (g1.trans' (g2 _)) M2 v2)⟩)
theorem qu {xs : List Expr} {l : LC} {p : Pos} (h : kq C F d xs l) : qX C F d (.List xs p) (zi l) := fun st =>
 .bnd ((h.2 st).use fun st1 vs h1 => .okP fun v hv => (qb hv).2 ▸ ⟨h1.1, fun rm M hq => PyProof.Rows.List_ (h1.2.2 rm M fun f1 s1 us g1 M1 v1 =>
  (Prim.alloc (v := .fl vs) (o := { cls := .type "list", data := .seq us.toArray }) M1 rfl (VR.fl' (qb hv).1 ⟨_, 0, jg, rfl, rfl⟩ (v1.up (j9 (jb M1)))) fun Q E hq => wpAny_newObj_type hq (by show us.toArray.size ≤ sizeLine; rw [List.size_toArray, v1.length]; exact yu (qb hv).1)).use M1 fun f2 s2 u g2 M2 v2 => hq f2 s2 u (g1.trans' (g2 _)) M2 v2)⟩)
theorem kL {i : Int} {k : Nat} {p p' : Pos} : qX C F d (.UnaryOp .USub (.Constant (.int i) k p) p') (eC (.int (-i))) := fun st => .pure ⟨.refl _, fun {A L a cd fs f ga la s Q E} hr M hq => by
 rw [arm_eval_UnaryOp]
 exact wpAny_bind (wpAny_Constant_int (wpAny_bind (wpAny_standAt (wpAny_holding (PySem.P.neg_int (hq _ _ _ tokGo (ub M 2) ⟨_, rfl⟩))))))⟩
theorem qXO {v : PV} {b : Bool} (h : k6 v = some b) : v = .bool b := by
 cases v with
 | bool r => exact congrArg PV.bool (Option.some.inj h)
 | _ => exact qH h
theorem yP {b : Bool} {p q : Prop} (e : b = true) (h : p) : if b = true then p else q := (if_pos e).mpr h
theorem vS {b : Bool} {p q : Prop} (e : b = false) (h : q) : if b = true then p else q := (if_neg (e ▸ Bool.false_ne_true)).mpr h
theorem qUQ {p q : Prop} (h : if true = true then p else q) : p := (if_pos rfl).mp h
theorem qUP {p q : Prop} (h : if false = true then p else q) : q := (if_neg Bool.false_ne_true).mp h
theorem qKJ {A : Around} {s : Shared} {u : Value} {E : Value → Shared → Prop} {M : Model} {f : FM} {ga : GA} {la : List Addr} {Q : Bool → Shared → Prop} {b : Bool} (hv : VR f ga la (.bool b) u) (h : Q b s) : wpAny M A (truthy u) Q E s := (show u = .bool b from hv) ▸ wpAny_truthy_bool h
theorem qMR {x y : Expr} {a b : EC} {p : Pos} (ha : qX C F d x a) (hb : qX C F d y b) : qX C F d (.BoolOp .And [x, y] p) (qN5 a b) := fun st =>
 .bnd ((ha st).use fun st1 y1 h1 => .tru (fun e => (hb st1).use fun st2 y2 h2 => ⟨h1.1.trans h2.1, fun rm M hq => PyProof.Rows.BoolOp_and (h1.2 rm M fun f1 s1 u g1 M1 v1 => qKJ (e ▸ v1) (yP rfl (PyProof.Rows.BoolOp_one (h2.2 rm M1 (hq.next h1.1 g1)))))⟩)
  fun e => .pure ⟨h1.1, fun rm M hq => PyProof.Rows.BoolOp_and (h1.2 rm M fun f1 s1 u g1 M1 v1 => qKJ (e ▸ v1) (vS rfl (hq f1 s1 _ g1 M1 v1)))⟩)
theorem qU8 {x y : Expr} {a b : EC} {p : Pos} (ha : qX C F d x a) (hb : qX C F d y b) : qX C F d (.BoolOp .Or [x, y] p) (eOr a b) := fun st =>
 .bnd ((ha st).use fun st1 y1 h1 => .tru' (fun e => .pure ⟨h1.1, fun rm M hq => PyProof.Rows.BoolOp_or (h1.2 rm M fun f1 s1 u g1 M1 v1 => qKJ (e ▸ v1) (yP rfl (hq f1 s1 _ g1 M1 v1)))⟩)
  fun e => (hb st1).use fun st2 y2 h2 => ⟨h1.1.trans h2.1, fun rm M hq => PyProof.Rows.BoolOp_or (h1.2 rm M fun f1 s1 u g1 M1 v1 => qKJ (e ▸ v1) (vS rfl (PyProof.Rows.BoolOp_one (h2.2 rm M1 (hq.next h1.1 g1)))))⟩)
theorem Post.if2 {α : Type} {r : Bool} {st : St} {P : St → α → Prop} {a b : St → Option (α × St)} (h1 : r = true → Post a st P) (h2 : r = false → Post b st P) : Post (fun st => if r then a st else b st) st P := by
 cases r with
 | true => exact h1 rfl
 | false => exact h2 rfl
theorem db {t x y : Expr} {c : TC} {a b : EC} {p : Pos} (ht : du C F d t c) (ha : qX C F d x a) (hb : qX C F d y b) : qX C F d (.IfExp t x y p) (ko c a b) := fun st =>
 .bnd ((ht st).use fun st1 r h1 => .if2 (fun e => (ha st1).use fun st2 y2 h2 => ⟨h1.1.trans h2.1, fun rm M hq => PyProof.Rows.IfExp_ (h1.2 rm M fun f1 s1 g1 M1 => yP e (h2.2 rm M1 (hq.next h1.1 g1)))⟩)
  fun e => (hb st1).use fun st2 y2 h2 => ⟨h1.1.trans h2.1, fun rm M hq => PyProof.Rows.IfExp_ (h1.2 rm M fun f1 s1 g1 M1 => vS e (h2.2 rm M1 (hq.next h1.1 g1)))⟩)
theorem jU {x : Expr} {a : EC} (ha : qX C F d x a) (he : ∀ (env : Env) (whole : Sem Value), isTrue x env whole = (do let v ← whole; standAt x.pos; holding [v] (truthy v)) := by exact itR _) : du C F d x (tE a) := fun st =>
 .bnd ((ha st).use fun st1 y h1 => .truE fun b e => ⟨h1.1, fun hr M hq => PyProof.Rows.isTrue_plain (h1.2 hr M fun f' s' u g M' hv => qKJ (e ▸ hv) (hq f' s' g M')) (he _ _)⟩)
theorem yY {x : Expr} {a : TC} {p : Pos} (ha : du C F d x a) : du C F d (.UnaryOp .Not x p) (ve a) := fun st =>
 .bnd ((ha st).use fun st1 y h1 => .pure ⟨h1.1, fun hr M hq => PyProof.Rows.isTrue_not (h1.2 hr M fun f' s' g M' => hq f' s' g M')⟩)
noncomputable def qWN (C : Cx) (F : Fi) (d : Nat) (o : BoolOp) (xs : List Expr) (st st' : St) (v : Bool) : Prop :=
 ∀ {A : Around} {L a : Addr} {cd : Value} {fs : List Addr} {f : FM} {ga : GA} {la : List Addr} {s : Shared} {p : Pos} {whole : Sem Value} {Q : Bool → Shared → Prop} {E : Value → Shared → Prop}, Room d A L fs → Mid C F.nm L fs f ga la st s →
  KT C F.nm L fs f ga la st s Q st' v → wpAny (model C.prog C.w) A (isTrue (.BoolOp o xs p) (F.env L a cd) whole) Q E s
noncomputable def qU2 (C : Cx) (F : Fi) (d : Nat) (o : BoolOp) (xs : List Expr) (st st' : St) (v : Bool) : Prop := keepsV st st' ∧ qWN C F d o xs st st' v
noncomputable def qAA (C : Cx) (F : Fi) (d : Nat) (o : BoolOp) (xs : List Expr) (c : TC) : Prop := ∀ st, Post c st (qU2 C F d o xs st)
theorem zH {x : Expr} {a : TC} (ha : du C F d x a) : qAA C F d .And [x] a := fun st => (ha st).use fun st1 v h1 => ⟨h1.1, fun hr M hq => PyProof.Rows.isTrue_and (h1.2 hr M fun f' s' g M' => by
 cases v with
 | true => exact yP rfl (PyProof.Rows.isTrue_and_nil (hq f' s' g M'))
 | false => exact vS rfl (hq f' s' g M'))⟩
theorem qy {x : Expr} {xs : List Expr} {a b : TC} (ha : du C F d x a) (hb : qAA C F d .And xs b) : qAA C F d .And (x :: xs) (zb a b) := fun st =>
 .bnd ((ha st).use fun st1 r h1 => .if2 (fun e => (hb st1).use fun st2 y2 h2 => ⟨h1.1.trans h2.1, fun rm M hq => PyProof.Rows.isTrue_and (h1.2 rm M fun f1 s1 g1 M1 => yP e (h2.2 rm M1 (hq.next h1.1 g1)))⟩)
  fun e => .pure ⟨h1.1, fun rm M hq => PyProof.Rows.isTrue_and (h1.2 rm M fun f1 s1 g1 M1 => vS e (e ▸ hq f1 s1 g1 M1))⟩)
theorem zU {xs : List Expr} {c : TC} {p : Pos} (h : qAA C F d .And xs c) : du C F d (.BoolOp .And xs p) c := fun st => (h st).use fun st1 v h1 => ⟨h1.1, fun hr M hq => h1.2 hr M hq⟩
theorem jZ {x : Expr} {a : TC} (ha : du C F d x a) : qAA C F d .Or [x] a := fun st => (ha st).use fun st1 v h1 => ⟨h1.1, fun hr M hq => PyProof.Rows.isTrue_or (h1.2 hr M fun f' s' g M' => by
 cases v with
 | true => exact yP rfl (hq f' s' g M')
 | false => exact vS rfl (PyProof.Rows.isTrue_or_nil (hq f' s' g M')))⟩
theorem jM {x : Expr} {xs : List Expr} {a b : TC} (ha : du C F d x a) (hb : qAA C F d .Or xs b) : qAA C F d .Or (x :: xs) (tOr a b) := fun st =>
 .bnd ((ha st).use fun st1 r h1 => .if2 (fun e => .pure ⟨h1.1, fun rm M hq => PyProof.Rows.isTrue_or (h1.2 rm M fun f1 s1 g1 M1 => yP e (e ▸ hq f1 s1 g1 M1))⟩)
  fun e => (hb st1).use fun st2 y2 h2 => ⟨h1.1.trans h2.1, fun rm M hq => PyProof.Rows.isTrue_or (h1.2 rm M fun f1 s1 g1 M1 => vS e (h2.2 rm M1 (hq.next h1.1 g1)))⟩)
theorem jv {xs : List Expr} {c : TC} {p : Pos} (h : qAA C F d .Or xs c) : du C F d (.BoolOp .Or xs p) c := fun st => (h st).use fun st1 v h1 => ⟨h1.1, fun hr M hq => h1.2 hr M hq⟩
noncomputable def qX0 (C : Cx) (F : Fi) (d : Nat) (o1 o2 : Cop) (x y z : Expr) (st st' : St) (r : Bool) : Prop :=
 ∀ {A : Around} {L a' : Addr} {cd : Value} {fs : List Addr} {f : FM} {ga : GA} {la : List Addr} {s : Shared} {Q : Bool → Shared → Prop} {E : Value → Shared → Prop}, Room d A L fs → Mid C F.nm L fs f ga la st s → KT C F.nm L fs f ga la st s Q st' r →
  wpAny (model C.prog C.w) A (eval x (F.env L a' cd)) (fun u s1 => wpAny (model C.prog C.w) A (eval y (F.env L a' cd)) (fun w s2 => wpAny (model C.prog C.w) A (compareOp o1.op u w) (fun r1 s3 => ∃ b1, r1 = .bool b1 ∧
   if b1 then wpAny (model C.prog C.w) A (eval z (F.env L a' cd)) (fun t s4 => wpAny (model C.prog C.w) A (compareOp o2.op w t) (fun r2 s5 => ∃ b2, r2 = .bool b2 ∧ Q b2 s5) E s4) E s3 else Q false s3) E s2) E s1) E s
noncomputable def qWO (C : Cx) (F : Fi) (d : Nat) (o1 o2 : Cop) (x y z : Expr) (st st' : St) (v : PV) : Prop := ∃ r, v = .bool r ∧ keepsV st st' ∧ qX0 C F d o1 o2 x y z st st' r
theorem Post.opt {α : Type} {o : Option Bool} {st : St} {P : St → α → Prop} {a b : St → Option (α × St)} (h1 : o = some true → Post a st P) (h2 : o = some false → Post b st P) : Post (fun st => match o with
  | some true => a st
  | some false => b st
  | none => none) st P := by
 cases o with
 | none => exact Post.non
 | some r => cases r with
  | true => exact h1 rfl
  | false => exact h2 rfl
theorem qEX {x y z : Expr} {a b c : EC} (o1 o2 : Cop) (ha : qX C F d x a) (hb : qX C F d y b) (hc : qX C F d z c) (st : St) : Post (vA o1 o2 a b c) st (qWO C F d o1 o2 x y z st) :=
 .bnd ((ha st).use fun st1 xv h1 => .bnd ((hb st1).use fun st2 yv h2 => .opt
  (fun e1 => .bnd ((hc st2).use fun st3 zv h3 => .okP fun v hv => (Option.map_eq_some_iff.mp hv).elim fun r e2 => ⟨r, e2.2.symm, (h1.1.trans h2.1).trans h3.1, fun rm M hq => h1.2 rm M fun f1 s1 u g1 M1 v1 => h2.2 rm M1 fun f2 s2 u2 g2 M2 v2 =>
   wE o1 M2 (v1.up g2.fle) v2 e1 _ _ ⟨_, rfl, yP rfl (h3.2 rm M2 fun f3 s3 u3 g3 M3 v3 => wE o2 M3 (v2.up g3.fle) v3 e2.1 _ _ ⟨_, rfl, (hq.next h1.1 g1).next h2.1 g2 f3 s3 g3 M3⟩)⟩⟩))
  fun e1 => .pure ⟨false, rfl, h1.1.trans h2.1, fun rm M hq => h1.2 rm M fun f1 s1 u g1 M1 v1 => h2.2 rm M1 fun f2 s2 u2 g2 M2 v2 => wE o1 M2 (v1.up g2.fle) v2 e1 _ _ ⟨_, rfl, vS rfl (hq.next h1.1 g1 f2 s2 g2 M2)⟩⟩))
theorem yS {x y z : Expr} {a b c : EC} {p : Pos} (o1 o2 : Cop) (ha : qX C F d x a) (hb : qX C F d y b) (hc : qX C F d z c) (hm : lastMarks [o1.op, o2.op] [y, z] = false) :
  qX C F d (.Compare x [o1.op, o2.op] [y, z] p) (vA o1 o2 a b c) ∧ du C F d (.Compare x [o1.op, o2.op] [y, z] p) (tE (vA o1 o2 a b c)) := by
 constructor
 ·refine fun st => (qEX o1 o2 ha hb hc st).use fun st1 v h1 => h1.elim fun r h => ⟨h.2.1, fun {A L a' cd fs f ga la s Q E} rm M hq => ?_⟩
  refine PyProof.Rows.Compare_chain (wpAny_mono (h.2.2 (Q := fun b s' => Q (.bool b) s') rm M fun f' s' g M' => hq f' s' _ g M' (h.1 ▸ rfl)) (fun u s1 h1 => ?_) fun _ _ e => e) hm
  refine PyProof.Rows.chain_link (wpAny_mono h1 (fun u2 s2 h2 => wpAny_mono h2 (fun r1 s3 h3 => h3.elim fun b1 h3 => h3.1 ▸ wpAny_truthy_bool ?_) fun _ _ e => e) fun _ _ e => e)
  have h3 := h3.2
  cases b1 with
  | true => exact yP rfl (PyProof.Rows.chain_last (wpAny_mono (qUQ h3) (fun t s4 h4 => wpAny_mono h4 (fun r2 s5 h5 => h5.elim fun b2 h5 => h5.1 ▸ h5.2) fun _ _ e => e) fun _ _ e => e))
  | false => exact vS rfl (qUP h3)
 ·refine fun st => .bnd ((qEX o1 o2 ha hb hc st).use fun st1 v h1 => .truE fun b e => h1.elim fun r h => ⟨h.2.1, fun {A L a' cd fs f ga la s Q E} rm M hq => ?_⟩)
  refine PyProof.Rows.isTrue_chain (wpAny_mono (h.2.2 (Q := Q) rm M (PV.bool.inj (e.symm.trans h.1) ▸ hq)) (fun u s1 h1 => ?_) fun _ _ e => e) hm
  refine PyProof.Rows.test_link (wpAny_mono h1 (fun u2 s2 h2 => wpAny_mono h2 (fun r1 s3 h3 => h3.elim fun b1 h3 => h3.1 ▸ wpAny_truthy_bool ?_) fun _ _ e => e) fun _ _ e => e)
  have h3 := h3.2
  cases b1 with
  | true => exact yP rfl (PyProof.Rows.test_last (wpAny_mono (qUQ h3) (fun t s4 h4 => wpAny_mono h4 (fun r2 s5 h5 => h5.elim fun b2 h5 => h5.1 ▸ wpAny_truthy_bool h5.2) fun _ _ e => e) fun _ _ e => e))
  | false => exact vS rfl (qUP h3)
end
structure ClsOk (K : Frag) (c : Addr) : Prop where
 ga : findIn K (.ref c) "__getattribute__" = some (some (.builtin "object.__getattribute__"))
 gt : findIn K (.ref c) "__getattr__" = some none
 hd : hasDictIn K c = true
 no : ∀ x ∈ ([("text" : Str), ("at" : Str), ("diags" : Str), ("tokens" : Str), ("rows" : Str), ("code" : Str)] : List Str), findIn K (.ref c) x = some none
structure ExOk (K : Frag) (c : Addr) : Prop where
 ga : findIn K (.ref c) "__getattribute__" = some (some (.builtin "BaseException.__getattribute__"))
 gt : findIn K (.ref c) "__getattr__" = some none
 hd : hasDictIn K c = true
 no : ∀ x ∈ ([("at" : Str), ("code" : Str)] : List Str), findIn K (.ref c) x = some none
 mro : ∃ cd r, clsIn K c = some cd ∧ cd.mro = [.ref c, .ref r, .type "Exception", .type "BaseException", .type "object"]
 sa : findIn K (.ref c) "__setattr__" = some (some (.builtin "object.__setattr__"))
noncomputable def qAB (C : Cx) (x : Str) (keys : List (List Nat)) : Prop :=
 ∃ a, C.mg x = some (.ref a) ∧ (a == sysModules) = false ∧ ∃ g : Str → Option Value, (∀ l : List Nat, (g ⟨l.toArray⟩).isSome = decide (l ∈ keys)) ∧ C.h0.MapOf (strKind C.prog C.w) a g
noncomputable def qPD (C : Cx) (x : Str) (t : List (List Nat × List Nat)) : Prop :=
 ∃ a, C.mg x = some (.ref a) ∧ ∃ g : Str → Option Value, (∀ (l v : List Nat), yp t l = some v → v.length ≤ line ∧ ∃ tk, g ⟨l.toArray⟩ = some (.str ⟨v.toArray⟩ tk)) ∧ C.h0.MapOf (strKind C.prog C.w) a g
noncomputable def j8 (C : Cx) (x : Str) (p : PV) : Prop := ∃ v, C.mg x = some v ∧ ∀ (f : FM) (ga : GA) (la : List Addr), (∀ b o, C.h0.get? b = some o → f b = some o) → VR f ga la p v
structure Glo (C : Cx) : Prop where
 kin : C.K.In C.h0
 g : C.h0.Ns mainGlobals C.mg
 b : C.h0.Ns builtinsNs C.mb
 nolimit : C.h0.NoLimit
 builtins : ∀ x : Str, x ≠ "__name__" → C.mb x = bootBuiltins x
 noname : ∀ x ∈ ([("len" : Str), ("ord" : Str), ("chr" : Str), ("max" : Str), ("range" : Str)] : List Str), C.mg x = none
 lexOk : ClsOk C.K C.lexC
 dgOk : ClsOk C.K C.dgC
 exOk : ExOk C.K C.excC
section
variable {C : Cx} {F : Fi} {d : Nat}
theorem Mid.up {nm : List Str} {L : Addr} {fs : List Addr} {f : FM} {ga : GA} {la : List Addr} {st : St} {s : Shared} (M : Mid C nm L fs f ga la st s) : ∀ b o, C.h0.get? b = some o → s.heap.get? b = some o := fun b o e => M.fz b o (M.base b o e)
noncomputable def Fi.glob (F : Fi) (x : Str) : Bool := F.sc.kind == .function && F.sc.names.lookup x == some .globalImplicit && !(x == ("__debug__" : Str))
theorem jz (W : Glo C) {A : Around} {L a : Addr} {cd : Value} {fs : List Addr} {f : FM} {ga : GA} {la : List Addr} {st : St} {s : Shared} {x : Str} {p : Pos} {v : Value} {Q E : Value → Shared → Prop}
  (hk : F.glob x = true) (M : Mid C F.nm L fs f ga la st s) (hv : C.mg x = some v) (h : Q v s) : wpAny (model C.prog C.w) A (eval (.Name x p) (F.env L a cd)) Q E s := by
 simp only [Fi.glob, Bool.and_eq_true, beq_iff_eq] at hk
 exact Calls.Name_function_global (env := F.env L a cd) hk.1.1 (show _ = _ from hk.1.2) (Calls.loadGlobal_global (env := F.env L a cd) (W.g.keeps M.up) hv h) (by simpa using hk.2)
theorem qEW (W : Glo C) {A : Around} {L a : Addr} {cd : Value} {fs : List Addr} {f : FM} {ga : GA} {la : List Addr} {st : St} {s : Shared} {x : Str} {p : Pos} {v : Value} {Q E : Value → Shared → Prop}
  (hk : F.glob x = true) (M : Mid C F.nm L fs f ga la st s) (hn : C.mg x = none) (hx : x ≠ "__name__") (hv : bootBuiltins x = some v) (h : Q v s) : wpAny (model C.prog C.w) A (eval (.Name x p) (F.env L a cd)) Q E s := by
 simp only [Fi.glob, Bool.and_eq_true, beq_iff_eq] at hk
 exact Calls.Name_function_global (env := F.env L a cd) hk.1.1 (show _ = _ from hk.1.2) (Calls.loadGlobal_builtin (env := F.env L a cd) (W.g.keeps M.up) hn (W.b.keeps M.up) ((W.builtins x hx).trans hv) h) (by simpa using hk.2)
theorem qB7 (W : Glo C) {x : Str} {p : Pos} {v : PV} (hg : j8 C x v) (hk : F.glob x = true) : qX C F d (.Name x p) (eC v) := fun st =>
 .pure ⟨.refl _, fun hr M hq => hg.elim fun u e => jz W hk M e.1 (hq _ _ _ .refl M (e.2 _ _ _ M.base))⟩
theorem qWT : ∀ x ∈ ([("len" : Str), ("ord" : Str), ("chr" : Str), ("max" : Str), ("range" : Str)] : List Str), x ≠ "__name__" := by decide
theorem qMP (W : Glo C) {x : Str} {id : String} {fp p : Pos} {xs : List Expr} {l : LC} {k : List PV → Option PV} (hx : x ∈ ([("len" : Str), ("ord" : Str), ("chr" : Str), ("max" : Str), ("range" : Str)] : List Str)) (hb : bootBuiltins x = some (.builtin id)) (hk : F.glob x = true) (hl : kq C F d xs l)
  (hp : ∀ {A : Around} {L : Addr} {fs : List Addr} {f : FM} {ga : GA} {la : List Addr} {st : St} {s : Shared} {vs : List PV} {v : PV} {us : List Value}, Room d A L fs → Mid C F.nm L fs f ga la st s → VRs f ga la vs us → k vs = some v → Prim (model C.prog C.w) f ga la A (call (.builtin id) us) v s) :
  qX C F d (.Call (.Name x fp) xs [] p) (bnd l fun vs st => okP (k vs) st) := fun st =>
 .bnd ((hl.2 st).use fun st1 vs h1 => .okP fun v hv => ⟨h1.1, fun rm M hq =>
  wpAny_Call_Name_kw (qEW W hk M (W.noname x hx) (qWT x hx) hb
   (Calls.callWith_builtin (zp _ _ hl.1).2 (jN (zp _ _ hl.1).2 (h1.2.2 rm M fun f1 s1 us g1 M1 v1 => (hp rm M1 v1 hv).use M1 fun f2 s2 u g2 M2 v2 => hq f2 s2 u (g1.trans' (g2 _)) M2 v2))))⟩)
theorem bnd_assoc {α β γ : Type} {a : St → Option (α × St)} {k : α → St → Option (β × St)} {m : β → St → Option (γ × St)} : bnd (bnd a k) m = bnd a fun x => bnd (k x) m := by
 funext st
 unfold bnd
 cases a st <;> rfl
theorem qLH {β : Type} {a : EC} {g : List PV → St → Option (β × St)} : bnd (qB a qI) g = bnd a fun v st => g [v] st := bnd_assoc
theorem qQV {β : Type} {a b : EC} {g : List PV → St → Option (β × St)} : bnd (qB a (qB b qI)) g = bnd a fun v => bnd b fun w st => g [v, w] st :=
 bnd_assoc.trans (congrArg (bnd a) (funext fun v => bnd_assoc.trans qLH))
@[elab_as_elim] theorem VRs.consE {f : FM} {ga : GA} {la : List Addr} {v : PV} {vs : List PV} {us : List Value} {P : List Value → Prop} (h : VRs f ga la (v :: vs) us) (K : ∀ u us, VR f ga la v u → VRs f ga la vs us → P (u :: us)) : P us := by
 unfold VRs at h
 exact h.elim fun u h => h.elim fun us h => h.1 ▸ K u us h.2.1 h.2.2
@[elab_as_elim] theorem VRs.nilE {f : FM} {ga : GA} {la : List Addr} {us : List Value} {P : List Value → Prop} (h : VRs f ga la [] us) (K : P []) : P us := by
 unfold VRs at h
 exact h ▸ K
noncomputable def on1 (k : PV → Option PV) : List PV → Option PV
 | [v] => k v
 | _ => none
noncomputable def on2 (k : PV → PV → Option PV) : List PV → Option PV
 | [v, w] => k v w
 | _ => none
@[elab_as_elim] theorem VRs.on1 {f : FM} {ga : GA} {la : List Addr} {k : PV → Option PV} {vs : List PV} {us : List Value} {v : PV} {P : List Value → Prop} (hv : VRs f ga la vs us) (h : Mine.on1 k vs = some v) (K : ∀ y u, VR f ga la y u → k y = some v → P [u]) : P us := by
 match vs with
 | [] => exact qH h
 | [y] => exact hv.consE fun u us h1 h2 => h2.nilE (P := fun us => P (u :: us)) (K y u h1 h)
 | _ :: _ :: _ => exact qH h
@[elab_as_elim] theorem VRs.on2 {f : FM} {ga : GA} {la : List Addr} {k : PV → PV → Option PV} {vs : List PV} {us : List Value} {v : PV} {P : List Value → Prop} (hv : VRs f ga la vs us) (h : Mine.on2 k vs = some v) (K : ∀ y z u w, VR f ga la y u → VR f ga la z w → k y z = some v → P [u, w]) : P us := by
 match vs with
 | [] => exact qH h
 | [_] => exact qH h
 | [y, z] => exact hv.consE fun u us h1 h2 => h2.consE (P := fun us => P (u :: us)) fun w us h2 h3 => h3.nilE (P := fun us => P (u :: w :: us)) (K y z u w h1 h2 h)
 | _ :: _ :: _ :: _ => exact qH h
theorem qB3 (W : Glo C) {x : Str} {id : String} {fp p : Pos} {e : Expr} {a : EC} {k : PV → Option PV} (hx : x ∈ ([("len" : Str), ("ord" : Str), ("chr" : Str), ("max" : Str), ("range" : Str)] : List Str)) (hb : bootBuiltins x = some (.builtin id)) (hk : F.glob x = true) (ha : qX C F d e a) (hs : noStar [e] = true)
  (hp : ∀ {A : Around} {L : Addr} {fs : List Addr} {f : FM} {ga : GA} {la : List Addr} {st : St} {s : Shared} {y v : PV} {u : Value}, Room d A L fs → Mid C F.nm L fs f ga la st s → VR f ga la y u → k y = some v → Prim (model C.prog C.w) f ga la A (call (.builtin id) [u]) v s) :
  qX C F d (.Call (.Name x fp) [e] [] p) (bnd a fun v st => okP (k v) st) := qLH (g := fun vs st => okP (on1 k vs) st) ▸ qMP (l := qB a qI) (k := on1 k) W hx hb hk (qA ha qR hs) fun rm M hv h => hv.on1 h fun y u h1 h2 => hp rm M h1 h2
theorem ul (W : Glo C) {fp p : Pos} {e : Expr} {a : EC} (hk : F.glob "len" = true) (ha : qX C F d e a) (hs : noStar [e] = true := by exact ttR) : qX C F d (.Call (.Name "len" fp) [e] [] p) (zn a) :=
 qB3 W (.head _) PyProof.Rows.Boot.«len» hk ha hs fun rm M hv h => VR.onSF hv h
  (fun l t h1 h => Option.some.inj h ▸ Prim.val M.fz fun Q E hq => PyProof.Rows.len_str (by rw [jl]; unfold line at h1; lia) (by rw [jl]; exact hq _ _ .int'))
  fun l b vs h1 hl r1 h => Option.some.inj h ▸ hl.elim fun o x => x.elim fun n x => Prim.val M.fz fun Q E hq => PyProof.Rows.len_list ⟨o, M.fz _ _ x.1, x.2.1, n, x.2.2⟩ (by rw [List.size_toArray, r1.length]; unfold line at h1; lia) (by rw [List.size_toArray, r1.length]; exact hq _ _ .int')
theorem uo (W : Glo C) {fp p : Pos} {e : Expr} {a : EC} (hk : F.glob "ord" = true) (ha : qX C F d e a) (hs : noStar [e] = true := by exact ttR) : qX C F d (.Call (.Name "ord" fp) [e] [] p) (qCC a) :=
 qB3 W (.tail _ (.head _)) PyProof.Rows.Boot.«ord» hk ha hs fun rm M hv h => VR.onS hv h fun l t h1 h => by
  match l with
  | [] => exact qH h
  | [c] => exact Option.some.inj h ▸ Prim.val M.fz fun Q E hq => P.ord_of_char (hq _ _ .int')
  | _ :: _ :: _ => exact qH h
theorem qGE (W : Glo C) {fp p : Pos} {e : Expr} {a : EC} (hk : F.glob "chr" = true) (ha : qX C F d e a) (hs : noStar [e] = true := by exact ttR) : qX C F d (.Call (.Name "chr" fp) [e] [] p) (qGG a) :=
 qB3 W (.tail _ (.tail _ (.head _))) PyProof.Rows.Boot.«chr» hk ha hs fun rm M hv h => VR.onI hv h fun i t h => (qb h).2 ▸ Prim.val M.fz fun Q E hq => chr_of_range (qb h).1.1 (qb h).1.2 (hq _ _ (.str' (by decide : 1 ≤ line)))
theorem qSU (W : Glo C) {fp p : Pos} {e e' : Expr} {a b : EC} (hk : F.glob "max" = true) (ha : qX C F d e a) (hb : qX C F d e' b) (hs : noStar [e] = true := by exact ttR) (hs' : noStar [e'] = true := by exact ttR) (hd0 : 0 < d := by decide) : qX C F d (.Call (.Name "max" fp) [e, e'] [] p) (qS2 a b) :=
 (congrArg (qX C F d _) (qQV (g := fun vs st => okP (on2 qTM vs) st))).mp <| qMP (l := qB a (qB b qI)) (k := on2 qTM) W (fp := fp) (p := p) (x := "max") (.tail _ (.tail _ (.tail _ (.head _)))) PyProof.Rows.Boot.«max» hk (qA ha (qA hb qR hs') hs) fun rm M hv h =>
  hv.on2 h fun y z u w v1 v2 h => VR.onI v1 h fun i t h => VR.onI v2 h fun j t' h => Option.some.inj h ▸ Prim.plain M.fz fun Q E hq => max_two_ints (rm.handled hd0) fun h' tk hk => hq _ h' tk hk (by split <;> exact .int')
noncomputable def z9 (o : Expr) : Prop := ∀ n env w, attributeBase o n env w = w
theorem wP {name : Str} {id : String} {o : Expr} {ap p : Pos} {xs : List Expr} {c : EC} {l : LC} {k : List Nat → List PV → Option PV} (slot : Slot "str" name id) (ty : typeOf (.builtin id) = pure (.type "method_descriptor"))
  (ho : qX C F d o c) (hl : kq C F d xs l) (hb : z9 o) (hline : (ap.endLine == p.line) = true) (hn : decide (xs.length < 30) = true)
  (hp : ∀ {A : Around} {L : Addr} {fs : List Addr} {f : FM} {ga : GA} {la : List Addr} {st : St} {s : Shared} {x : List Nat} {t : Tok} {vs : List PV} {v : PV} {us : List Value}, Room d A L fs → Mid C F.nm L fs f ga la st s → VRs f ga la vs us → k x vs = some v →
   Prim (model C.prog C.w) f ga la A (call (.builtin id) (.str ⟨x.toArray⟩ t :: us)) v s) :
  qX C F d (.Call (.Attribute o name ap) xs [] p) (bnd c fun x => bnd l fun vs st => okP (onS x fun x => k x vs) st) := fun st =>
 .bnd ((ho st).use fun st1 x h1 => .bnd ((hl.2 st1).use fun st2 vs h2 => .okP fun v hv => ⟨h1.1.trans h2.1, fun rm M hq =>
  wpAny_Call_method_late (hb _ _ _) (Bool.and_eq_true_iff.mpr ⟨Bool.and_eq_true_iff.mpr ⟨(zp _ _ hl.1).1, rfl⟩, hn⟩) hline rfl (h1.2 rm M fun f1 s1 u g1 M1 v1 => VR.onS v1 hv fun x t n1 hv =>
   ⟨"str", id, PySem.F.plainAttrs_str, slot, ty, typeIs_str _ _ _, (fun _ e => nomatch e), Calls.callWith_builtin (zp _ _ hl.1).2 (jN (zp _ _ hl.1).2 (h2.2.2 rm M1 fun f2 s2 us g2 M2 v2 =>
    (hp rm M2 v2 hv).use M2 fun f3 s3 u3 g3 M3 v3 => hq.next h1.1 g1 f3 s3 u3 (g2.trans' (g3 _)) M3 v3))⟩)⟩))
theorem qIL {o x y : Expr} {a b c : EC} {ap p : Pos} (ho : qX C F d o c) (hx : qX C F d x a) (hy : qX C F d y b) (hb : z9 o := by exact pbR) (hline : (ap.endLine == p.line) = true := by exact ttR) (h1 : noStar [x] = true := by exact ttR) (h2 : noStar [y] = true := by exact ttR) :
  qX C F d (.Call (.Attribute o "find" ap) [x, y] [] p) (qE1 c a b) :=
 have := wP (l := qB a (qB b qI)) (k := fun s => on2 fun y z => onS y fun t => onI z fun i => some (.int (Txt.find3 ⟨s.toArray⟩ ⟨t.toArray⟩ i))) (ap := ap) (p := p) PySem.F.slot_str_find PySem.F.type_str_find ho (qA hx (qA hy qR h2) h1) hb hline rfl
  fun rm M hv h => hv.on2 h fun y z u w v1 v2 h => VR.onS v1 h fun l t' n1 h => VR.onI v2 h fun i t'' h => Option.some.inj h ▸ Prim.val M.fz fun Q E hq => SC.find3 (hq _ _ .int')
 (congrArg (qX C F d _) (congrArg (bnd c) (funext fun x => congrArg (fun z => z) (qQV (g := fun vs st => okP (onS x fun s => on2 (fun y z => onS y fun t => onI z fun i => some (.int (Txt.find3 ⟨s.toArray⟩ ⟨t.toArray⟩ i))) vs) st))))).mp this
theorem qIM {o : Expr} {c : EC} {ap p : Pos} (ho : qX C F d o c) (hb : z9 o := by exact pbR) (hline : (ap.endLine == p.line) = true := by exact ttR) :
  qX C F d (.Call (.Attribute o "isalpha" ap) [] [] p) (qIQ c) :=
 wP (l := qI) (k := fun s vs => if vs.length = 0 then some (.bool (Txt.isalpha ⟨s.toArray⟩)) else none) (ap := ap) (p := p) PySem.F.slot_str_isalpha PySem.F.type_str_isalpha ho qR hb hline rfl
  fun rm M hv h => (qb h).2 ▸ (show _ = [] from List.length_eq_zero_iff.mp (hv.length.trans (qb h).1)) ▸ Prim.val M.fz fun Q E hq => SC.isalpha (hq _ _ rfl)
end
open Builtin Builtin.Str
noncomputable def wc (n : Nat) : Option Int → Nat
 | none => 0
 | some i => zD n i
noncomputable def uz (n : Nat) : Option Int → Nat
 | none => n
 | some i => zD n i
theorem qII (n : Nat) (i : Int) : max (0 : Int) (min (if i < 0 then i + n else i) n) = (zD n i : Nat) := by
 unfold zD
 split
 ·lia
 ·lia
theorem qPT (n : Nat) (i : Int) : zD n i ≤ n := by
 unfold zD
 split <;> lia
theorem qR4 (lo hi : Option Int) (n : Nat) : strSliceIndices lo hi 1 n = (List.range (uz n hi - wc n lo)).map (wc n lo + ·) := by
 rw [← sliceRange_one]
 unfold strSliceIndices
 cases lo <;> cases hi <;> simp only [show (1 : Int) > 0 by decide, if_true, qII, wc, uz] <;> rfl
theorem qDZ {α : Type} (l : List α) (a b : Nat) : (l.drop a).take (b - a) = (l.take b).drop a := by
 rw [List.drop_take]
theorem qO4 (s : List Nat) (lo hi : Option Int) : Txt.slice ⟨s.toArray⟩ lo hi = ⟨((s.take (uz s.length hi)).drop (wc s.length lo)).toArray⟩ := by
 have hp : ∀ n : Nat, ((strSliceIndices lo hi 1 s.length).filterMap ((⟨s.toArray⟩ : PySem.Str).cps[·]?)) = (s.take (uz s.length hi)).drop (wc s.length lo) := fun _ => by
  rw [qR4, pick_run, qDZ]
 unfold Txt.slice
 rw [jl, hp 0]
 split
 ·rename_i h
  have hl : ((s.take (uz s.length hi)).drop (wc s.length lo)).length = s.length := by
   have h1 : (strSliceIndices lo hi 1 s.length).length = s.length := by simpa using h
   rw [qR4, List.length_map, List.length_range] at h1
   rw [List.length_drop, List.length_take]
   have : uz s.length hi ≤ s.length := by cases hi with | none => exact Nat.le_refl _ | some i => exact qPT _ _
   lia
  have h2 : wc s.length lo = 0 ∨ s.length = 0 := by
   rw [List.length_drop, List.length_take] at hl
   lia
  have h3 : s.length ≤ uz s.length hi := by
   rw [List.length_drop, List.length_take] at hl
   lia
  rcases h2 with h2 | h2
  ·rw [h2, List.drop_zero, List.take_of_length_le h3]
  ·rw [List.length_eq_zero_iff] at h2
   subst h2
   simp
 ·rfl
theorem qO3 (vs : List Value) (lo hi : Option Int) : slicePick vs.toArray lo hi none = ((vs.take (uz vs.length hi)).drop (wc vs.length lo)).toArray := by
 unfold slicePick
 have e : sliceBounds lo hi none vs.toArray.size = (((wc vs.length lo : Nat) : Int), ((uz vs.length hi : Nat) : Int), (1 : Int)) := by
  unfold sliceBounds
  rw [List.size_toArray]
  cases lo <;> cases hi <;> simp only [Option.getD_none, show (1 : Int) > 0 by decide, if_true, qII, wc, uz] <;> rfl
 rw [e, sliceRange_one, pick_run]
 congr 1
 rw [qDZ]
theorem VRs.nil' {f : FM} {ga : GA} {la : List Addr} : VRs f ga la [] [] := by unfold VRs; rfl
theorem VRs.take {f : FM} {ga : GA} {la : List Addr} : ∀ {p : List PV} {v : List Value} (n : Nat), VRs f ga la p v → VRs f ga la (p.take n) (v.take n)
 | [], _, n, h => h.nilE (P := fun v => VRs f ga la (List.take n []) (v.take n)) (by rw [List.take_nil, List.take_nil]; exact .nil')
 | x :: p, _, 0, h => .nil'
 | x :: p, _, n + 1, h => h.consE (P := fun v => VRs f ga la (List.take (n + 1) (x :: p)) (v.take (n + 1))) fun u us h1 h2 => VRs.cons h1 (h2.take n)
theorem VRs.drop {f : FM} {ga : GA} {la : List Addr} : ∀ {p : List PV} {v : List Value} (n : Nat), VRs f ga la p v → VRs f ga la (p.drop n) (v.drop n)
 | [], _, n, h => h.nilE (P := fun v => VRs f ga la (List.drop n []) (v.drop n)) (by rw [List.drop_nil, List.drop_nil]; exact .nil')
 | x :: p, _, 0, h => h
 | x :: p, _, n + 1, h => h.consE (P := fun v => VRs f ga la (List.drop (n + 1) (x :: p)) (v.drop (n + 1))) fun u us h1 h2 => h2.drop n
section
variable {C : Cx} {F : Fi} {d : Nat}
theorem vV (y : Expr) (o i : Value) : ∃ ops, subscripted y false o i = operate ops (getItem o i) := by
 cases y with
 | Slice l h s p => cases s <;> exact ⟨_, rfl⟩
 | _ => exact ⟨_, rfl⟩
theorem qRX {i : Int} {n : Nat} (h0 : 0 ≤ i) (h : i.toNat < n) : seqIndex? i n = some i.toNat := by
 have h5 : ¬ i < 0 := by lia
 have h6 : i < n := by lia
 simp [seqIndex?, h5, h6, h0]
theorem qRW {i : Int} {n : Nat} (h0 : ¬ 0 ≤ i) (h : -(n : Int) ≤ i) : seqIndex? i n = some (n + i).toNat := by
 have h5 : i < 0 := by lia
 have h6 : 0 ≤ i + (n : Int) := by lia
 have h7 : i + (n : Int) < n := by lia
 simp only [seqIndex?, h5, if_true, h6, h7, decide_true, Bool.and_self, Int.add_comm]
theorem qJI {f : FM} {b : Addr} {vs : List Value} {h : Heap} (x : LstF f b vs) (k : ∀ b o, f b = some o → h.get? b = some o) : h.IsList b vs.toArray := x.elim fun o x => x.elim fun n x => ⟨o, k _ _ x.1, x.2.1, n, x.2.2⟩
theorem qJD {A : Around} {L : Addr} {fs : List Addr} {f : FM} {ga : GA} {la : List Addr} {st : St} {s : Shared} (x1 x2 : Expr) (M : Mid C F.nm L fs f ga la st s) {l : List Nat} {t t' : Tok} {i : Int} {v : PV} (j : Nat) (hl : l.length ≤ line) (h : (l[j]?).map (fun c => PV.str [c]) = some v)
  (h1 : j < l.length → seqIndex? i l.length = some j ∧ -(l.length : Int) ≤ i ∧ i < l.length) : Prim (model C.prog C.w) f ga la A (subscriptTail x1 x2 (.str ⟨l.toArray⟩ t) (.int i t')) v s :=
 (Option.map_eq_some_iff.mp h).elim fun c hc => hc.2 ▸ (vV x2 (.str ⟨l.toArray⟩ t) (.int i t')).elim fun ops hops => Prim.val M.fz fun Q E hq => by
  have h1 := h1 (List.getElem?_eq_some_iff.mp hc.1).1
  have hl2 := hl
  unfold line at hl2
  refine tail_any (typeIs_str _ _ _) PySem.F.slot_str_getitem.lookup (P.getItem_str (c := c) ?_ ?_ (hq _ _ (.str' (by decide : 1 ≤ line)))) hops
  ·rw [decide_eq_false (by lia), decide_eq_false (by lia)]; rfl
  ·rw [jl, h1.1]; simpa using hc.1
theorem qOW {A : Around} {L : Addr} {fs : List Addr} {f : FM} {ga : GA} {la : List Addr} {st : St} {s : Shared} {y z v : PV} {u w : Value} (x1 x2 : Expr) (M : Mid C F.nm L fs f ga la st s)
  (hy : VR f ga la y u) (hz : VR f ga la z w) (h : gE y z = some v) : Prim (model C.prog C.w) f ga la A (subscriptTail x1 x2 u w) v s :=
 VR.onSF hy h (fun l t hl h => VR.onI hz h fun i t' h => by
   by_cases h0 : 0 ≤ i
   ·exact qJD x1 x2 M i.toNat hl ((if_pos h0).symm.trans h) fun h1 => ⟨qRX h0 h1, by lia, by lia⟩
   ·have h := (if_neg h0).symm.trans h
    by_cases hn : -(l.length : Int) ≤ i
    ·exact qJD x1 x2 M (l.length + i).toNat hl ((if_pos hn).symm.trans h) fun h1 => ⟨qRW h0 hn, hn, by lia⟩
    ·exact qH ((if_neg hn).symm.trans h))
  fun l b vs hl hb r1 h => VR.onI hz h fun i t' h => by
   by_cases h0 : 0 ≤ i
   ·have h := (if_pos h0).symm.trans h
    have hlt := (List.getElem?_eq_some_iff.mp h).1
    unfold line at hl
    exact (r1.get h).elim fun w e => (vV x2 (.ref b) (.int i t')).elim fun ops hops => Prim.val M.fz fun Q E hq => tail_any (qJI hb M.fz).typeIs PySem.F.slot_list_getitem.lookup (wpAny_getItem_list (qJI hb M.fz) h0 (by lia) (by simpa using e.1) (hq w s.toks e.2)) hops
   ·exact qH ((if_neg h0).symm.trans h)
theorem zF {x y : Expr} {a b : EC} {p : Pos} (ha : qX C F d x a) (hb : qX C F d y b) : qX C F d (.Subscript x y p) (zm a b) :=
 qBB (subscriptTail x y) ha hb (fun h => Subscript_ h) fun _ M h1 h2 h => qOW x y M h1 h2 h
theorem qUL {α : Type} (l : List α) (a b : Nat) : ((l.take a).drop b).length ≤ l.length := by
 rw [List.length_drop]
 exact Nat.le_trans (Nat.sub_le _ _) (List.length_take_le' _ _)
noncomputable def qUY (l1 l2 : Value) : Obj := { cls := .type "slice", data := .fields #[l1, l2, .none] }
noncomputable def qET (l1 l2 : Value) (s : Shared) : Shared := { s with heap := s.heap.push (qUY l1 l2) }
theorem qFQ : ∀ p : Option (Int × Tok), IsPart (partValue p) (p.map (·.1))
 | none => .none
 | some (i, t) => .int i t
section
variable {A : Around} {nm : List Str} {L : Addr} {fs : List Addr} {f : FM} {ga : GA} {la : List Addr} {st : St} {s : Shared} {p1 p2 : Option (Int × Tok)}
theorem qNC (M : Mid C nm L fs f ga la st s) (l1 l2 : Value) : Mid C nm L fs f ga la st (qET l1 l2 s) := M.same (fun b o e => Heap.get?_push_of_some _ e) M.tk rfl rfl
theorem qYQ {X : List Addr} (l1 l2 : Value) : Go X f f s (qET l1 l2 s) := ⟨fun _ _ e => e, fun _ _ e n => qH (n.symm.trans e), fun b o e _ => Heap.get?_push_of_some _ e, fun b o e => ⟨o, Heap.get?_push_of_some _ e⟩⟩
theorem wq (x1 e1 : Expr) (M : Mid C nm L fs f ga la st s) {l : List Nat} {t : Tok} (hl : l.length ≤ line) (hops : ∀ o i, ∃ ops, subscripted e1 false o i = operate ops (getItem o i)) :
  Prim (model C.prog C.w) f ga la A (subscriptTail x1 e1 (.str ⟨l.toArray⟩ t) (.ref s.heap.objs.size)) (.str ((l.take (uz l.length (p2.map (·.1)))).drop (wc l.length (p1.map (·.1))))) (qET (partValue p1) (partValue p2) s) :=
 Prim.plain (qNC M _ _).fz fun Q E hq => (hops (.str ⟨l.toArray⟩ t) (.ref s.heap.objs.size)).elim fun ops ho => tail_any (typeIs_str _ _ _) PySem.F.slot_str_getitem.lookup (by
  have fin : (Txt.slice ⟨l.toArray⟩ (p1.map (·.1)) (p2.map (·.1))).length ≤ sizeLine ∧ ∀ t' k, Q (.str (Txt.slice ⟨l.toArray⟩ (p1.map (·.1)) (p2.map (·.1))) t') { qET (partValue p1) (partValue p2) s with toks := k } :=
   ⟨Nat.le_trans (Txt.slice_le _ _ _) (by rw [jl]; exact yu hl), fun t' k => qO4 l _ _ ▸ hq _ (qET (partValue p1) (partValue p2) s).heap k (fun _ _ e => e) (.str' (Nat.le_trans (qUL _ _ _) hl))⟩
  have ob : (qET (partValue p1) (partValue p2) s).heap.get? s.heap.objs.size = some (qUY (partValue p1) (partValue p2)) := Heap.get?_push_size _ rfl
  exact wpAny_getItem_str_slice (l := p1) (u := p2) (st := none) ⟨_, ob, rfl, rfl⟩ rfl (post_val_or_str fin)) ho
theorem qJ8 (x1 e1 : Expr) (M : Mid C nm L fs f ga la st s) {l : List PV} {b : Addr} {vs : List Value} (hl : l.length ≤ line) (hb : LstF f b vs) (r1 : VRs f ga la l vs) (hops : ∀ o i, ∃ ops, subscripted e1 false o i = operate ops (getItem o i)) :
  Prim (model C.prog C.w) f ga la A (subscriptTail x1 e1 (.ref b) (.ref s.heap.objs.size)) (.fl ((l.take (uz l.length (p2.map (·.1)))).drop (wc l.length (p1.map (·.1))))) (qET (partValue p1) (partValue p2) s) :=
 Prim.alloc (o := { cls := .type "list", data := .seq (slicePick vs.toArray (p1.map (·.1)) (p2.map (·.1)) none) }) (qNC M _ _) rfl
  (VR.fl' (us := (vs.take (uz l.length (p2.map (·.1)))).drop (wc l.length (p1.map (·.1)))) (Nat.le_trans (qUL _ _ _) hl) ⟨_, 0, jg, rfl, by dsimp only; rw [qO3, r1.length]⟩ (((r1.take _).drop _).up (j9 (jb (qNC M _ _)))))
  fun Q E hq => (hops (.ref b) (.ref s.heap.objs.size)).elim fun ops ho => tail_any (Heap.IsList.typeIs (s := qET (partValue p1) (partValue p2) s) ((qJI hb M.fz).push _)) PySem.F.slot_list_getitem.lookup
   (wpAny_getItem_list_slice ((qJI hb M.fz).push _) (Heap.IsSliceOf.new ..) (qFQ p1) (qFQ p2) .none (by simp) hq (by rw [List.size_toArray, r1.length]; exact yu hl)) ho
theorem qJ7 {t : Sem Value} {v : PV} {l1 l2 : Value} {Q E : Value → Shared → Prop} {st' : St} (M : Mid C F.nm L fs f ga la st s) (P : Prim (model C.prog C.w) f ga la A t v (qET l1 l2 s)) (hq : KE C F.nm L fs f ga la st s Q st v) : wpAny (model C.prog C.w) A t Q E (qET l1 l2 s) :=
 P.use (qNC M _ _) fun f' s' u' g M' v' => hq f' s' u' ((qYQ _ _).trans' (g _)) M' v'
end
theorem kG (lo hi : Option Expr) (p : Pos) (o i : Value) : ∃ ops, subscripted (.Slice lo hi none p) false o i = operate ops (getItem o i) := ⟨_, rfl⟩
theorem qNH {α : Type} (l : List α) (n : Nat) : ((l.take (uz l.length (Option.map (·.1) (none : Option (Int × Tok))))).drop n) = l.drop n := congrArg (List.drop n) List.take_length
theorem kO {x y : Expr} {a b : EC} {p sp : Pos} (ha : qX C F d x a) (hb : qX C F d y b) : qX C F d (.Subscript x (.Slice (some y) none none sp) p) (jk a b) := fun st =>
 .bnd ((ha st).use fun st1 xv h1 => .bnd ((hb st1).use fun st2 yv h2 => .okP fun v hv => ⟨h1.1.trans h2.1, fun rm M hq => Subscript_ (h1.2 rm M fun f1 s1 u g1 M1 v1 => wpAny_Slice (evalPart_some_step (h2.2 rm M1 fun f2 s2 u2 g2 M2 v2 => evalPart_none_step (evalPart_none_step
  (have hq := (hq.next h1.1 g1).next h2.1 g2
  VR.onSF (v1.up g2.fle) hv (fun l t n1 hv => VR.onI v2 hv fun i t' hv => qJ7 (st' := st2) M2 (wq (p1 := some (i, t')) (p2 := none) x _ M2 n1 (kG _ _ _)) (qNH l _ ▸ Option.some.inj hv ▸ hq))
   fun l a vs n1 hl r1 hv => VR.onI v2 hv fun i t' hv => qJ7 (st' := st2) M2 (qJ8 (p1 := some (i, t')) (p2 := none) x _ M2 n1 hl r1 (kG _ _ _)) (qNH l _ ▸ Option.some.inj hv ▸ hq))))))⟩))
theorem uP {x y : Expr} {a b : EC} {p sp : Pos} (ha : qX C F d x a) (hb : qX C F d y b) : qX C F d (.Subscript x (.Slice none (some y) none sp) p) (vX a b) := fun st =>
 .bnd ((ha st).use fun st1 xv h1 => .bnd ((hb st1).use fun st2 yv h2 => .okP fun v hv => ⟨h1.1.trans h2.1, fun rm M hq => Subscript_ (h1.2 rm M fun f1 s1 u g1 M1 v1 => wpAny_Slice (evalPart_none_step (evalPart_some_step (h2.2 rm M1 fun f2 s2 u2 g2 M2 v2 => evalPart_none_step
  (have hq := (hq.next h1.1 g1).next h2.1 g2
  VR.onSF (v1.up g2.fle) hv (fun l t n1 hv => VR.onI v2 hv fun i t' hv => qJ7 (st' := st2) M2 (wq (p1 := none) (p2 := some (i, t')) x _ M2 n1 (kG _ _ _)) (Option.some.inj hv ▸ hq))
   fun l a vs n1 hl r1 hv => VR.onI v2 hv fun i t' hv => qJ7 (st' := st2) M2 (qJ8 (p1 := none) (p2 := some (i, t')) x _ M2 n1 hl r1 (kG _ _ _)) (Option.some.inj hv ▸ hq))))))⟩))
theorem uO {x y z : Expr} {a b c : EC} {p sp : Pos} (ha : qX C F d x a) (hb : qX C F d y b) (hc : qX C F d z c) : qX C F d (.Subscript x (.Slice (some y) (some z) none sp) p) (yt a b c) := fun st =>
 .bnd ((ha st).use fun st1 xv h1 => .bnd ((hb st1).use fun st2 yv h2 => .bnd ((hc st2).use fun st3 zv h3 => .okP fun v hv => ⟨(h1.1.trans h2.1).trans h3.1, fun rm M hq => Subscript_ (h1.2 rm M fun f1 s1 u g1 M1 v1 => wpAny_Slice (evalPart_some_step (h2.2 rm M1 fun f2 s2 u2 g2 M2 v2 => evalPart_some_step (h3.2 rm M2 fun f3 s3 u3 g3 M3 v3 => evalPart_none_step
  (VR.onS (v1.up fun b o e => g3.fle b o (g2.fle b o e)) hv fun l t n1 hv => VR.onI (v2.up g3.fle) hv fun i t' hv => VR.onI v3 hv fun j t'' hv => qJ7 (st' := st3) M3 (wq (p1 := some (i, t')) (p2 := some (j, t'')) x _ M3 n1 (kG _ _ _)) (Option.some.inj hv ▸ ((hq.next h1.1 g1).next h2.1 g2).next h3.1 g3))))))⟩)))
theorem qQ3 {h h' : Heap} {a : Addr} {g : Str → Option Value} (x : h.MapOf (strKind C.prog C.w) a g) (k : ∀ b o, h.get? b = some o → h'.get? b = some o) : h'.MapOf (strKind C.prog C.w) a g := x.elim fun o x => x.elim fun es x => x.elim fun ep x => ⟨o, es, ep, k _ _ x.1, x.2⟩
theorem wS (W : Glo C) {T : Str} {keys : List (List Nat)} {x : Expr} {a : EC} {tp p : Pos} (ht : qAB C T keys) (hk : F.glob T = true) (ha : qX C F d x a) : qX C F d (.Compare x [.In] [.Name T tp] p) (eIn keys a) := fun st =>
 .bnd ((ha st).use fun st1 y h1 => .okP fun v hv => ⟨h1.1, fun rm M hq => ht.elim fun b e => wpAny_Compare1 (h1.2 rm M fun f1 s1 u g1 M1 v1 => jz W hk M1 e.1 (VR.onS v1 hv fun l t n1 hv => e.2.2.elim fun g e3 =>
  wpAny_in_of (strKind_is C.prog C.w _ t) e.2.1 (qQ3 e3.2 M1.up) (by rw [e3.1]; exact hq _ _ _ (g1.trans' tokGo) (ub M1 1) (Option.some.inj hv ▸ rfl)))) rfl⟩)
theorem qSW (W : Glo C) {T : Str} {tab : List (List Nat × List Nat)} {x : Expr} {a : EC} {tp p : Pos} (ht : qPD C T tab) (hk : F.glob T = true) (ha : qX C F d x a) : qX C F d (.Subscript (.Name T tp) x p) (qVB tab a) := fun st =>
 .bnd ((ha st).use fun st1 y h1 => .okP fun v hv => ⟨h1.1, fun rm M hq => ht.elim fun b e => Subscript_ (jz W hk M e.1 (h1.2 rm M fun f1 s1 u g1 M1 v1 => VR.onS v1 hv fun l t n1 hv => (Option.map_eq_some_iff.mp hv).elim fun w hw => e.2.elim fun g e3 =>
  (e3.1 _ _ hw.1).2.elim fun tk e5 => (vV x (.ref b) (.str ⟨l.toArray⟩ t)).elim fun ops ho => tail_any (qQ3 e3.2 M1.up).typeIs slot_dict_getitem.lookup
   (wpAny_getItem_of (strKind_is C.prog C.w _ t) (qQ3 e3.2 M1.up) e5 (hq _ _ _ (g1.trans' tokGo) (ub M1 1) (hw.2 ▸ .str' (e3.1 _ _ hw.1).1))) ho))⟩)
theorem qEY {x y : Expr} {a b : EC} {p : Pos} (ha : qX C F d x a) (hb : qX C F d y b) (hm : behindInMarks .NotIn y = false := by with_unfolding_all rfl) : qX C F d (.Compare x [.NotIn] [y] p) (uQ a b) :=
 qBB (compareOp .NotIn) ha hb (fun h => wpAny_Compare1 h hm) fun _ M h1 h2 h => VR.onS h1 h fun l t n1 h => by
  match l with
  | [] => exact qH h
  | [c] => exact VR.onS h2 h fun l t' n2 h => Prim.val M.fz fun Q E hq => PyProof.Rows.notIn_str (by
    rw [show (⟨[c].toArray⟩ : PySem.Str) = ⟨#[c]⟩ from rfl, StrLaws.found_one, uk]
    exact hq _ _ (Option.some.inj h ▸ rfl))
  | _ :: _ :: _ => exact qH h
end
open Builtin Builtin.ObjectAttr
theorem bexc_slot : Slot "Exception" "__getattribute__" "BaseException.__getattribute__" := .of (owner := "BaseException") (n := "__getattribute__") (by rw [typeLookup_type, builtinLookup_eq_fast]; kernel_rfl) (by decide +kernel) (by decide +kernel) (by decide +kernel) (.inl (by decide +kernel)) (by rw [isSubtype_type]; kernel_rfl)
section
variable {C : Cx} {F : Fi} {d n : Nat}
theorem qWY {K : Frag} {c : Addr} (h : ExOk K c) {T : String} (hT : ([Value.type "Exception", .type "BaseException", .type "object"] : List Value).contains (.type T) = true) : mroIn K c (.type T) = some true := by
 obtain ⟨cd, r, e1, e2⟩ := h.mro
 unfold mroIn
 rw [e1, Option.bind_some, e2, if_neg (by simp)]
 simp only [List.contains_cons, Bool.or_eq_true] at hT ⊢
 rcases hT with q | q | q | q <;> simp_all
theorem qTB {A : Around} {s : Shared} {x c : Addr} {ox : Obj} {od : Option Obj} {name : Str} {v : Value} {Q E : Value → Shared → Prop} {b : Bool} (X : C.K.In s.heap) (H : ExOk C.K c) (I : InstAt s.heap x ox c od) (hf : findObj C.K c od name = some (.value v)) (hh : handedIn v = true) (h : Q v { s with toks := s.toks + 1 }) :
  wpAny (model C.prog C.w) A (getAttr (.ref x) name b) Q E s := by
 obtain ⟨hp, g, d, t, os⟩ := s
 have L0 := I.type (M := model C.prog C.w)
 have L1 := looks_findIn (M := model C.prog C.w) X H.ga
 have L2 := looks_findIn (M := model C.prog C.w) X H.gt
 have L3 := looks_find (M := model C.prog C.w) X I hf
 have sub : Looks (model C.prog C.w) hp (isInstance (.ref x) (.type "BaseException")) true := L0.andThen (looks_mroIn X (qWY H (by decide)))
 unfold getAttr getAttrBy
 refine wpAny_bind (wpAny_mkText (wpAny_holding (wpAny_bind (L0.at (wpAny_bind (L1.at ?_))))))
 have e1 : (onTheHeap (Value.ref c) && Value.builtin "BaseException.__getattribute__" == Value.builtin "object.__getattribute__") = false := by
  rw [show (Value.builtin "BaseException.__getattribute__" == Value.builtin "object.__getattribute__") = false from by decide +kernel, Bool.and_false]
 dsimp only
 rw [e1, if_neg (by decide)]
 unfold getAttrByItsOwn
 refine wpAny_bind (m := hookBefore (.ref c)) (L2.at ?_)
 refine wpAny_bind (wpAny_attempt (wpAny_holding ?_))
 show wpAny _ _ (callGetattribute _ _ _ _) _ _ _
 unfold callGetattribute
 rw [show (b && onTheHeap (Value.builtin "BaseException.__getattribute__")) = false from by cases b <;> rfl, if_neg (by decide)]
 unfold boundAndCalled
 rw [bexc_slot.bind]
 refine wpAny_bind (wpAny_pure ?_)
 refine wpAny_call (codeAny_call_builtin bexc_slot.plain PySem.F.entry_bexc_ga (@check_slot (model C.prog C.w) _ _ ⟨hp, g, d, t + 1, os⟩ "BaseException.__getattribute__" "BaseException" "__getattribute__" (.ref x) [.str name t] [] _ (by decide +kernel) (by decide +kernel) sub (PySem.F.args_bexc_ga (.ref x) (.str name t)) ?_))
 unfold Builtin.«object.__getattribute__»
 refine wpAny_bind (wpAny_pure (wpAny_bind (wpAny_pure (wpAny_bind (L0.at (wpAny_bind (L3.at ?_)))))))
 refine wpAny_pure ?_
 show wpAny _ _ (handedOut v) _ _ _
 rw [handedOut_of hh]; exact wpAny_pure h
end
open Builtin Builtin.Str
section
variable {C : Cx} {F : Fi} {d : Nat}
theorem ym {h : Heap} {a : Addr} {m : Str → Option Value} {o : Obj} (hn : h.Ns a m) (ho : h.get? a = some o) (name : Str) : lookIn name o = some (m name) :=
 hn.elim fun o' x => x.elim fun es x => x.elim fun ep x => by
 cases Option.some.inj (ho.symm.trans x.1)
 unfold lookIn
 rw [x.2.1]
 have h1 := x.2.2.2 name
 unfold nsFind findBy at h1
 rw [← Array.find?_toList] at h1
 cases q : es.toList.find? (fun e => e.key.isStr name) with
 | some e => rw [q] at h1; rw [← h1]; simp only [q]; rfl
 | none =>
  rw [q] at h1
  have : es.toList.any (·.refKey) = false := List.any_eq_false.mpr fun e he => (x.2.2.1 e (Array.mem_toList_iff.mp he)).elim fun n y => y.elim fun t hk => by simp [DictEntry.refKey, hk]
  rw [← h1]
  simp only [q, this]
  rfl
theorem qH3 {A : Around} {s : Shared} {x c : Addr} {ox od : Obj} {name : Str} {v : Value} {Q E : Value → Shared → Prop} {b : Bool} (K : C.K.In s.heap) (hc : ClsOk C.K c) (hn : name ∈ ([("text" : Str), ("at" : Str), ("diags" : Str), ("tokens" : Str), ("rows" : Str), ("code" : Str)] : List Str))
  (I : InstAt s.heap x ox c (some od)) (hl : lookIn name od = some (some v)) (hv : handedIn v = true) (h : Q v { s with toks := s.toks + 1 }) : wpAny (model C.prog C.w) A (getAttr (.ref x) name b) Q E s :=
 get_value K I hc.ga (findObj_own hc.hd (hc.no name hn) rfl hl) hv h
theorem vj {x : Expr} {a : EC} {n : Str} {at_ : Attr} {p : Pos} (ha : qX C F d x a) (hb : z9 x)
  (hp : ∀ {A : Around} {L : Addr} {fs : List Addr} {f : FM} {ga : GA} {la : List Addr} {st : St} {s : Shared} {y v : PV} {u : Value}, Mid C F.nm L fs f ga la st s → VR f ga la y u → qKQ at_ y st = some v → Prim (model C.prog C.w) f ga la A (getAttr u n true) v s) :
  qX C F d (.Attribute x n p) (qg a at_) :=
 qX9 (fun u => getAttr u n true) ha (fun {A L b cd s Q E} h => by
  show wpAny (model C.prog C.w) A (do
   let o ← attributeBase x n (F.env L b cd) (eval x (F.env L b cd))
   standAt p.atName
   let r ← holding [o] (getAttr o n true)
   letTemporaryGo x o r
   pure r) Q E s
  rw [hb]
  exact wpAny_bind (wpAny_mono h (fun o s₁ h₁ => wpAny_bind (wpAny_standAt (wpAny_bind (wpAny_holding (wpAny_mono h₁ (fun r s₂ h₂ => wpAny_bind (wpAny_letTemporaryGo (wpAny_pure h₂))) fun _ _ x => x))))) fun _ _ x => x))
  fun rm M hv h => hp M hv h
theorem qBM (W : Glo C) {A : Around} {L : Addr} {fs : List Addr} {f : FM} {ga : GA} {la : List Addr} {st : St} {s : Shared} {n : Str} {v : PV} (M : Mid C F.nm L fs f ga la st s) (hl : st.g.hl = true) (hn : n ∈ ([("text" : Str), ("at" : Str), ("diags" : Str), ("tokens" : Str), ("rows" : Str), ("code" : Str)] : List Str))
  (hx : ∀ m, LxD f ga la st.g.text st.g.at_ m → ∃ val, m n = some val ∧ handedIn val = true ∧ VR f ga la v val) : Prim (model C.prog C.w) f ga la A (getAttr (.ref ga.lxA) n true) v s :=
 Prim.val M.fz fun Q E hq => (M.lx hl).2.2.1.elim fun o x => x.elim fun m x => (hx m x.2.2.2).elim fun val e => qH3 (W.kin.keeps M.up) W.lexOk hn ⟨M.fz _ _ (M.lx hl).2.1, rfl, rfl, x.1⟩ ((ym x.2.2.1 x.1 _).trans (congrArg some e.1)) e.2.1 (hq _ _ e.2.2)
@[elab_as_elim] theorem VR.excE {f : FM} {ga : GA} {la : List Addr} {c : List Nat} {i : Int} {u : Value} {P : Value → Prop} (hv : VR f ga la (.exc c i) u) (K : ∀ e dx oe od t1 t2, c.length ≤ line → f e = some oe → f dx = some od → oe.cls = .ref ga.exC → notCls oe = true → oe.dict = some dx →
  lookIn "code" od = some (some (.str ⟨c.toArray⟩ t1)) → lookIn "at" od = some (some (.int i t2)) → P (.ref e)) : P u := by
 unfold VR at hv
 obtain ⟨h0, e, dx, oe, od, t1, t2, rfl, h⟩ := hv
 exact K e dx oe od t1 t2 h0 h.1 h.2.1 h.2.2.1 h.2.2.2.1 h.2.2.2.2.1 h.2.2.2.2.2.1 h.2.2.2.2.2.2
theorem qMV (W : Glo C) {A : Around} {L : Addr} {fs : List Addr} {f : FM} {ga : GA} {la : List Addr} {st : St} {s : Shared} {n : Str} {v : PV} {c : List Nat} {i : Int} {u : Value} (M : Mid C F.nm L fs f ga la st s) (hu : VR f ga la (.exc c i) u) (hn : n ∈ ([("at" : Str), ("code" : Str)] : List Str))
  (hx : ∀ od t1 t2, c.length ≤ line → lookIn "code" od = some (some (.str ⟨c.toArray⟩ t1)) → lookIn "at" od = some (some (.int i t2)) → ∃ val, lookIn n od = some (some val) ∧ handedIn val = true ∧ VR f ga la v val) : Prim (model C.prog C.w) f ga la A (getAttr u n true) v s :=
 VR.excE hu fun e dx oe od t1 t2 h0 h2 h3 h4 h5 h6 h7 h8 => (hx od t1 t2 h0 h7 h8).elim fun val x => Prim.val M.fz fun Q E hq =>
  qTB (W.kin.keeps M.up) W.exOk ⟨M.fz _ _ h2, h4.trans (congrArg Value.ref M.exc), h5, (by rw [h6]; exact M.fz _ _ h3)⟩ (findObj_own W.exOk.hd (W.exOk.no _ hn) rfl x.1) x.2.1 (hq _ _ x.2.2)
theorem yf (W : Glo C) {at_ : Attr} {A : Around} {L : Addr} {fs : List Addr} {f : FM} {ga : GA} {la : List Addr} {st : St} {s : Shared} {y v : PV} {u : Value} (M : Mid C F.nm L fs f ga la st s) (hy : VR f ga la y u) (h : qKQ at_ y st = some v) : Prim (model C.prog C.w) f ga la A (getAttr u at_.name true) v s := by
 cases y with
 | lex =>
  have e : u = .ref ga.lxA := hy
  subst e
  cases at_ with
  | «at» => exact (qb h).2 ▸ qBM W M (qb h).1 (.tail _ (.head _)) fun m x => x.at_.elim fun t e => ⟨_, e, rfl, .int'⟩
  | text => exact (qb h).2 ▸ qBM W M (qb h).1 (.head _) fun m x => x.text.elim fun u e => ⟨u, e.1, e.2.2.elim fun t q => q ▸ rfl, e.2⟩
  | diags => exact (qb h).2 ▸ qBM W M (Bool.and_eq_true_iff.mp (qb h).1).1 (.tail _ (.tail _ (.head _))) fun m x => ⟨_, x.diags, rfl, rfl⟩
  | tokens => exact (qb h).2 ▸ qBM W M (qb h).1 (.tail _ (.tail _ (.tail _ (.head _)))) fun m x => ⟨_, x.tokens, rfl, ⟨_, rfl, rfl⟩⟩
  | _ => exact qH h
 | dg =>
  have e : u = .ref ga.dgA := hy
  subst e
  cases at_ with
  | rows => exact (qb h).2 ▸ (M.dg (qb h).1).1.elim fun dd x => x.elim fun od x => Prim.val M.fz fun Q E hq => qH3 (W.kin.keeps M.up) W.dgOk (.tail _ (.tail _ (.tail _ (.tail _ (.head _))))) ⟨M.fz _ _ x.1, rfl, rfl, M.fz _ _ x.2.1⟩ x.2.2.1 rfl (hq _ _ ⟨_, rfl, rfl⟩)
  | _ => exact qH h
 | exc c i =>
  cases at_ with
  | «at» => exact Option.some.inj h ▸ qMV W M hy (.head _) fun od t1 t2 h0 h7 h8 => ⟨_, h8, rfl, .int'⟩
  | code => exact Option.some.inj h ▸ qMV W M hy (.tail _ (.head _)) fun od t1 t2 h0 h7 h8 => ⟨_, h7, rfl, .str' h0⟩
  | _ => exact qH h
 | _ => exact qH h
theorem qm (W : Glo C) {x : Expr} {a : EC} {p : Pos} (ha : qX C F d x a) (hb : z9 x := by exact pbR) : qX C F d (.Attribute x "at" p) (qg a .at) := vj ha hb (yf W)
theorem zP (W : Glo C) {x : Expr} {a : EC} {p : Pos} (ha : qX C F d x a) (hb : z9 x := by exact pbR) : qX C F d (.Attribute x "text" p) (qg a .text) := vj ha hb (yf W)
theorem qB5 (W : Glo C) {x : Expr} {a : EC} {p : Pos} (ha : qX C F d x a) (hb : z9 x := by exact pbR) : qX C F d (.Attribute x "diags" p) (qg a .diags) := vj ha hb (yf W)
theorem ke (W : Glo C) {x : Expr} {a : EC} {p : Pos} (ha : qX C F d x a) (hb : z9 x := by exact pbR) : qX C F d (.Attribute x "tokens" p) (qg a .tokens) := vj ha hb (yf W)
theorem gp (W : Glo C) {x : Expr} {a : EC} {p : Pos} (ha : qX C F d x a) (hb : z9 x := by exact pbR) : qX C F d (.Attribute x "rows" p) (qg a .rows) := vj ha hb (yf W)
theorem qEH (W : Glo C) {x : Expr} {a : EC} {p : Pos} (ha : qX C F d x a) (hb : z9 x := by exact pbR) : qX C F d (.Attribute x "code" p) (qg a .code) := vj ha hb (yf W)
end
noncomputable def Flies (h : Heap) (e : Addr) (cls : Value) (dx : Addr) (T : Option Addr) (fl : Value) : Prop :=
 ∃ oe vs, h.get? e = some oe ∧ oe.cls = cls ∧ oe.dict = some dx ∧ oe.data = .fields vs ∧
  ((T = none ∧ vs[1]? = some .none) ∨ ∃ t oT ts, T = some t ∧ vs[1]? = some (.ref t) ∧ t ≠ e ∧ h.get? t = some oT ∧ oT.data = .fields ts ∧ ts[3]? = some fl)
structure TD where
 e : Addr
 dx : Addr
 od : Obj
 t1 : Tok
 t2 : Tok
 T : Option Addr
 fl : Value
structure ThrownD (C : Cx) (L : Addr) (f : FM) (c : List Nat) (i : Int) (h0 : Heap) (s : Shared) (D : TD) : Prop where
 fly : Flies s.heap D.e (.ref C.excC) D.dx D.T D.fl
 fl : D.fl = .none ∨ D.fl = rawInt L
 old : ∀ b ∈ D.e :: D.T.toList, h0.get? b = none
 off : ∀ b ∈ D.e :: D.T.toList, f b = none
 od : f D.dx = some D.od
 len : c.length ≤ line
 code : lookIn "code" D.od = some (some (.str ⟨c.toArray⟩ D.t1))
 at_ : lookIn "at" D.od = some (some (.int i D.t2))
noncomputable def Thrown (C : Cx) (L : Addr) (f : FM) (c : List Nat) (i : Int) (e : Value) (h0 : Heap) (s : Shared) : Prop := ∃ D : TD, e = .ref D.e ∧ ThrownD C L f c i h0 s D
theorem Thrown.back {C : Cx} {L : Addr} {f : FM} {c : List Nat} {i : Int} {e : Value} {h0 h1 : Heap} {s : Shared} (T : Thrown C L f c i e h1 s) (k : ∀ b o, h0.get? b = some o → ∃ o', h1.get? b = some o') : Thrown C L f c i e h0 s :=
 T.elim fun D x => ⟨D, x.1, { x.2 with old := fun b hb => Option.eq_none_iff_forall_ne_some.mpr fun o q => (k b o q).elim fun o' e' => qH ((x.2.old b hb).symm.trans e') }⟩
noncomputable def yq (fs : List Addr) (s s' : Shared) : Prop := ∀ b ∈ fs, ∀ o, s.heap.get? b = some o → ∃ sl, s'.heap.get? b = some { o with slots := sl }
noncomputable def KF (C : Cx) (nm : List Str) (L : Addr) (fs : List Addr) (f : FM) (ga : GA) (la : List Addr) (st : St) (s : Shared) (Q E : Value → Shared → Prop) (G2 : G) (r : RV) : Prop := match r with
 | .ok v => ∀ f' s' u, Go (muts ga [] st.g) f f' s s' → Mid C nm L fs f' ga la { st with g := G2 } s' → VR f' ga la v u → Q u s'
 | .exc c i => ∀ f' s' e, Go (L :: fs ++ muts ga [] st.g) f f' s s' → yq (L :: fs) s s' → Mid C nm L fs f' ga la { st with g := G2 } s' → Thrown C L f' c i e s.heap s' → E e s'
noncomputable def RunF (C : Cx) (d : Nat) (fA : Addr) (vs : List PV) (G1 G2 : G) (r : RV) : Prop :=
 ∀ {A : Around} {nm : List Str} {L : Addr} {fs : List Addr} {f : FM} {ga : GA} {la : List Addr} {st : St} {s : Shared} {us : List Value} {Q E : Value → Shared → Prop}, Room d A L fs → Mid C nm L fs f ga la st s → st.g = G1 → PV.cleans vs = true → VRs f ga la vs us →
  KF C nm L fs f ga la st s Q E G2 r → wpAny (model C.prog C.w) A (call (.ref fA) us) Q E s
noncomputable def qSJ (C : Cx) (fA : Addr) : Prop := ∃ o fd, C.h0.get? fA = some o ∧ o.data = .func fd
noncomputable def DenF (C : Cx) (d : Nat) (fA : Addr) (g : Fn) : Prop :=
 qSJ C fA ∧ ∀ (vs : List PV) (G1 G2 : G) (r : RV), g vs G1 = some (r, G2) → (G2.hl = G1.hl ∧ G2.hd = G1.hd) ∧ RunF C d fA vs G1 G2 r
section
variable {C : Cx} {F : Fi} {d : Nat}
theorem Post.runF {fA : Addr} {g : Fn} {vs : List PV} {st : St} {P : St → RV → Prop} (hg : DenF C d fA g) (h : ∀ G' r, PV.cleans vs = true → keepsV st { st with g := G' } → RunF C d fA vs st.g G' r → P { st with g := G' } r) : Post (Mine.runF g vs) st P := fun st' r e => by
 unfold Mine.runF at e
 cases hc : PV.cleans vs with
 | false => rw [hc] at e; exact qH e
 | true =>
  rw [hc] at e
  cases q : g vs st.g with
  | none => rw [q] at e; exact qH e
  | some z =>
   rw [q] at e
   exact Post.pure (P := P) (st := { st with g := z.2 }) (h z.2 z.1 hc ⟨(hg.2 _ _ _ _ q).1.1, (hg.2 _ _ _ _ q).1.2, rfl, rfl⟩ (hg.2 _ _ _ _ q).2) st' r e
theorem qWK {g : Fn} {vs : List PV} {st st' : St} {r : RV} (h : runF g vs st = some (r, st')) : PV.cleans vs = true ∧ ∃ G', g vs st.g = some (r, G') ∧ st' = { st with g := G' } := by
 unfold runF at h
 cases hc : PV.cleans vs with
 | false => rw [hc] at h; exact qH h
 | true =>
  rw [hc] at h
  cases q : g vs st.g with
  | none => rw [q] at h; exact qH h
  | some z =>
   rw [q] at h
   exact ⟨rfl, Post.pure (P := fun st' r => ∃ G', some (z.1, z.2) = some (r, G') ∧ st' = { st with g := G' }) (st := { st with g := z.2 }) ⟨z.2, rfl, rfl⟩ st' r h⟩
theorem qV2 {fA : Addr} {g : Fn} {vs : List PV} {st st' : St} {r : RV} (hg : DenF C d fA g) (h : runF g vs st = some (r, st')) : keepsV st st' := Post.runF (P := fun st' r => keepsV st st') hg (fun G' r _ k _ => k) st' r h
theorem gF {ga : GA} {la : List Addr} {g : G} : ∀ b ∈ muts ga [] g, b ∈ muts ga la g := fun b hb => by
 unfold muts at hb ⊢
 rw [List.append_nil] at hb
 exact (List.mem_append.mp hb).elim (List.mem_append_left _) fun h => List.mem_append_right _ (List.mem_append_left _ h)
theorem Go.wider {X Y : List Addr} {f f' : FM} {s s' : Shared} (g : Go X f f' s s') (h : ∀ b ∈ X, b ∈ Y) : Go Y f f' s s' := ⟨g.fle, g.fnew, fun b o e n => g.keep b o e fun q => n (h b q), g.ex⟩
theorem RunF.val {fA : Addr} {vs : List PV} {st : St} {G' : G} {v : PV} (R : RunF C d fA vs st.g G' (.ok v)) {A : Around} {nm : List Str} {L : Addr} {fs : List Addr} {f : FM} {ga : GA} {la : List Addr} {s : Shared} {us : List Value} {Q E : Value → Shared → Prop} (rm : Room d A L fs) (M : Mid C nm L fs f ga la st s) (hc : PV.cleans vs = true) (hv : VRs f ga la vs us)
  (hq : KE C nm L fs f ga la st s Q { st with g := G' } v) : wpAny (model C.prog C.w) A (call (.ref fA) us) Q E s :=
 R rm M rfl hc hv fun f2 s2 u g2 M2 v2 => hq f2 s2 u (g2.wider fun b hb => .tail _ (gF b hb)) M2 v2
theorem Post.okV {c : St → Option (RV × St)} {st : St} {P : St → PV → Prop} (h : Post c st fun st' r => ∀ v, r = .ok v → P st' v) : Post (fun st => match c st with
  | some (.ok v, st') => some (v, st')
  | _ => none) st P := fun st' v e => by
 dsimp only at e
 cases q : c st with
 | none => rw [q] at e; exact qH e
 | some z =>
  rw [q] at e
  obtain ⟨r, z⟩ := z
  cases r with
  | ok w => exact Post.pure (P := P) (h _ _ q w rfl) st' v e
  | exc => exact qH e
theorem jq (W : Glo C) {g : Fn} {fA : Addr} {x : Str} {fp p : Pos} {xs : List Expr} {l : LC} (hg : DenF C d fA g) (hx : C.mg x = some (.ref fA)) (hk : F.glob x = true) (hl : kq C F d xs l) :
  qX C F d (.Call (.Name x fp) xs [] p) (qT g l) := fun st =>
 .bnd ((hl.2 st).use fun st1 vs h1 => .okV (.runF hg fun G' r hc k R v e => ⟨h1.1.trans k, fun rm M hq => hg.1.elim fun o x => x.elim fun fd x =>
  wpAny_Call_Name_kw (jz W hk M hx (callWith_function_kw (o := o) (fd := fd) (jN (zp _ _ hl.1).2 (h1.2.2 rm M fun f1 s1 us g1 M1 v1 =>
   ⟨⟨M1.up _ _ x.1, x.2⟩, RunF.val (e ▸ R) rm M1 hc v1 (hq.next h1.1 g1)⟩))))⟩))
structure MethAt (C : Cx) (c : Addr) (x : Str) (fA : Addr) : Prop where
 find : findIn C.K (.ref c) x = some (some (.ref fA))
 fn : typeIn C.K (.ref fA) = some (.type "function")
theorem qFH (W : Glo C) {A : Around} {L a : Addr} {cd : Value} {fs : List Addr} {f : FM} {ga : GA} {la : List Addr} {s : Shared} {o : Expr} {x : Str} {ap p : Pos} {xs : List Expr} {Q E : Value → Shared → Prop} {c fA : Addr} {st st1 st2 : St} {y v : PV} {vs : List PV} {G' : G} (hc : ClsOk C.K c) (hm : MethAt C c x fA)
  (hf : qSJ C fA) (hb : z9 o) (hline : (ap.endLine == p.line) = true) (hs : noStar xs = true) (hn : decide (xs.length < 30) = true) (rm : Room d A L fs) (M : Mid C F.nm L fs f ga la st s) (h1 : qUF C F d o st st1 y) (h2 : qPE C F d xs st1 st2 vs) (hcl : PV.cleans (y :: vs) = true) (R : RunF C d fA (y :: vs) st2.g G' (.ok v)) (hq : KE C F.nm L fs f ga la st s Q { st2 with g := G' } v)
  (hy : ∀ {f' s' u}, Mid C F.nm L fs f' ga la st1 s' → VR f' ga la y u → ∃ b ox od, u = .ref b ∧ InstAt s'.heap b ox c (some od) ∧ lookIn x od = some none) :
  wpAny (model C.prog C.w) A (eval (.Call (.Attribute o x ap) xs [] p) (F.env L a cd)) Q E s := by
 rw [arm_eval_Call, hb]
 refine wpAny_bind (h1.2 rm M fun f1 s1 u g1 M1 v1 => ?_)
 obtain ⟨b, ox, od, rfl, I, hno⟩ := hy M1 v1
 obtain ⟨fo, fd, ho, hd⟩ := hf
 refine wpAny_bind (wpAny_standAt ?_)
 have hform : methodCallForm (xs.length + ([] : List Keyword).length) (backTo p (starEach xs (F.env L a cd))) (backToKw p (keywordEach [] (F.env L a cd))) = true := Bool.and_eq_true_iff.mpr ⟨Bool.and_eq_true_iff.mpr ⟨(zp _ _ hs).1, rfl⟩, hn⟩
 have hpos : methodCallPos true o (F.env L a cd) ap p = pure p := by unfold methodCallPos; simp [hline]
 unfold methodCall
 rw [hform]
 refine wpAny_bind (wpAny_holding ?_)
 unfold calleeOf
 rw [if_pos rfl]
 refine method_fn (W.kin.keeps M1.up) I hc.ga hc.gt hm.find hm.fn (congrArg (Option.map Option.isSome) hno) (wpAny_bind (wpAny_of_eq hpos ?_))
 exact callWith_function_kw (o := fo) (fd := fd) (jN (zp _ _ hs).2 (h2.2.2 rm M1 fun f2 s2 us g2 M2 v2 => ⟨⟨M2.up _ _ ho, hd⟩, RunF.val R rm M2 hcl (VRs.cons (v1.up g2.fle) v2) ((hq.next h1.1 g1).next h2.1 g2)⟩))
theorem Post.lex {α : Type} {y : PV} {a : St → Option (α × St)} {st : St} {P : St → α → Prop} (h : y = .lex → st.g.hl = true → Post a st P) : Post (fun st => match y with
  | .lex => if st.g.hl then a st else none
  | _ => none) st P := fun st' v e => by
 cases y with
 | lex =>
  cases q : st.g.hl with
  | true => exact h rfl q st' v ((if_pos q).symm.trans e)
  | false => exact qH ((if_neg (by rw [q]; exact Bool.false_ne_true)).symm.trans e)
 | _ => exact qH e
theorem Post.dg {α : Type} {y : PV} {a : St → Option (α × St)} {st : St} {P : St → α → Prop} (h : y = .dg → st.g.hd = true → Post a st P) : Post (fun st => match y with
  | .dg => if st.g.hd then a st else none
  | _ => none) st P := fun st' v e => by
 cases y with
 | dg =>
  cases q : st.g.hd with
  | true => exact h rfl q st' v ((if_pos q).symm.trans e)
  | false => exact qH ((if_neg (by rw [q]; exact Bool.false_ne_true)).symm.trans e)
 | _ => exact qH e
theorem qN2 (W : Glo C) {g : Fn} {fA : Addr} {x : Str} {o : Expr} {ap p : Pos} {xs : List Expr} {l : LC} {co : EC} (hg : DenF C d fA g) (hm : MethAt C C.lexC x fA) (ho : qX C F d o co) (hl : kq C F d xs l)
  (hx : ((x == "text") || (x == "at") || (x == "diags") || (x == "tokens")) = false := by decide +kernel) (hb : z9 o := by exact pbR) (hline : (ap.endLine == p.line) = true := by exact ttR) (hn : decide (xs.length < 30) = true := by exact ttR) :
  qX C F d (.Call (.Attribute o x ap) xs [] p) (qO g co l) := fun st =>
 .bnd ((ho st).use fun st1 y h1 => .bnd ((hl.2 st1).use fun st2 vs h2 => .lex fun ey hhl => .okV (.runF hg fun G' r hc k R v e => ⟨(h1.1.trans h2.1).trans k, fun rm M hq =>
  qFH W W.lexOk hm hg.1 hb hline hl.1 hn rm M h1 h2 (ey ▸ hc) (ey ▸ e ▸ R) hq fun {f' s' u} M1 v1 => by
   subst ey
   simp only [Bool.or_eq_false_iff, beq_eq_false_iff_ne] at hx
   have L1 := M1.lx (h2.1.1 ▸ hhl)
   exact L1.2.2.1.elim fun od y => y.elim fun m y => ⟨_, _, od, v1, ⟨M1.fz _ _ L1.2.1, rfl, rfl, y.1⟩, (ym y.2.2.1 y.1 x).trans (congrArg some (y.2.2.2.none x hx.1.1.1 hx.1.1.2 hx.1.2 hx.2))⟩⟩)))
theorem qN1 (W : Glo C) {g : Fn} {fA : Addr} {o : Expr} {ap p : Pos} {xs : List Expr} {l : LC} {co : EC} (hg : DenF C d fA g) (hm : MethAt C C.dgC "put" fA) (ho : qX C F d o co) (hl : kq C F d xs l)
  (hb : z9 o := by exact pbR) (hline : (ap.endLine == p.line) = true := by exact ttR) (hn : decide (xs.length < 30) = true := by exact ttR) :
  qX C F d (.Call (.Attribute o "put" ap) xs [] p) (qK7 g co l) := fun st =>
 .bnd ((ho st).use fun st1 y h1 => .bnd ((hl.2 st1).use fun st2 vs h2 => .dg fun ey hhl => .okV (.runF hg fun G' r hc k R v e => ⟨(h1.1.trans h2.1).trans k, fun rm M hq =>
  qFH W W.dgOk hm hg.1 hb hline hl.1 hn rm M h1 h2 (ey ▸ hc) (ey ▸ e ▸ R) hq fun {f' s' u} M1 v1 => by
   subst ey
   exact (M1.dg (h2.1.2.1 ▸ hhl)).1.elim fun dd y => y.elim fun od y => ⟨_, _, od, v1, ⟨M1.fz _ _ y.1, rfl, rfl, M1.fz _ _ y.2.1⟩, y.2.2.2⟩⟩)))
end
open Builtin Builtin.Str
theorem qOY {h : Heap} {a : Addr} {vs : List Value} {f : FM} {l : List PyData} {as : List Addr} (k : ∀ b o, f b = some o → h.get? b = some o) (t : TupF f a vs) (q : ReadsAll h vs l as) : ∃ as, Reads h (.ref a) (.tuple l) as := t.elim fun o x => x.elim fun n x => ⟨_, .tuple (k _ _ x.1) x.2.1 x.2.2 (by simpa using q)⟩
theorem qRQ {h : Heap} {a : Addr} {vs : List Value} {f : FM} {l : List PyData} {as : List Addr} (k : ∀ b o, f b = some o → h.get? b = some o) (t : LstF f a vs) (q : ReadsAll h vs l as) : ∃ as, Reads h (.ref a) (.list l) as := t.elim fun o x => x.elim fun n x => ⟨_, .list (k _ _ x.1) x.2.1 x.2.2 (by simpa using q)⟩
mutual
theorem VR.reads {f : FM} {ga : GA} {la : List Addr} {h : Heap} (k : ∀ b o, f b = some o → h.get? b = some o) : ∀ {p : PV} {v : Value}, p.solid = true → VR f ga la p v → ∃ as, Reads h v p.toD as
 | .none, _, _, e => (show _ = Value.none from e) ▸ ⟨_, .none⟩
 | .bool b, _, _, e => (show _ = Value.bool b from e) ▸ ⟨_, .bool b⟩
 | .int i, _, _, e => e.elim fun t e => e ▸ ⟨_, .int i t⟩
 | .str s, _, _, e => e.2.elim fun t e => e ▸ ⟨_, .str _ t⟩
 | .tup l, _, s, e => by
  unfold VR at e
  exact e.elim fun a e => e.elim fun vs e => e.1 ▸ (VRs.reads k s e.2.2).elim fun as q => qOY k e.2.1 q
 | .fl l, _, s, e => by
  unfold VR at e
  exact e.2.elim fun a e => e.elim fun vs e => e.1 ▸ (VRs.reads k s e.2.2).elim fun as q => qRQ k e.2.1 q
 | .lst _, _, s, _ => Bool.noConfusion s
 | .lex, _, s, _ => Bool.noConfusion s
 | .dg, _, s, _ => Bool.noConfusion s
 | .exc _ _, _, s, _ => Bool.noConfusion s
theorem VRs.reads {f : FM} {ga : GA} {la : List Addr} {h : Heap} (k : ∀ b o, f b = some o → h.get? b = some o) : ∀ {p : List PV} {v : List Value}, PV.solids p = true → VRs f ga la p v → ∃ as, ReadsAll h v (PV.toDs p) as
 | [], _, _, e => by
  unfold VRs at e
  exact e ▸ ⟨_, .nil⟩
 | _ :: _, _, s, e => by
  unfold VRs at e
  have s := Bool.and_eq_true_iff.mp s
  exact e.elim fun v e => e.elim fun vs e => e.1 ▸ (VR.reads k s.1 e.2.1).elim fun as q1 => (VRs.reads k s.2 e.2.2).elim fun bs q2 => ⟨_, .cons q1 q2⟩
end
section
variable {C : Cx} {F : Fi} {d : Nat}
theorem wQ {nm : List Str} {L : Addr} {fs : List Addr} {f : FM} {ga : GA} {la : List Addr} {st : St} {s : Shared} (M : Mid C nm L fs f ga la st s) {r : LRef} {l : List PV} {a : Addr} (h : dI r st = some l) (ha : r.addr ga la = some a) : Cell f ga la s.heap a l := by
 cases r with
 | toks => exact Option.some.inj ha ▸ (qb h).2 ▸ (M.lx (qb h).1).2.2.2
 | rows => exact Option.some.inj ha ▸ (qb h).2 ▸ (M.dg (qb h).1).2
 | loc i => exact M.ls i a l ha h
theorem qDK {nm : List Str} {L : Addr} {fs : List Addr} {f : FM} {ga : GA} {la : List Addr} {st : St} {s : Shared} (M : Mid C nm L fs f ga la st s) {x y : PV} {u : Value} (hx : VR f ga la x u) (h : uK x st = some y) (hs : y.solid = true) : ∃ as, Reads s.heap u y.toD as := by
 cases x with
 | lst r =>
  obtain ⟨l, h1, rfl⟩ := Option.map_eq_some_iff.mp h
  exact hx.elim fun a h2 => h2.1 ▸ (wQ M h1 h2.2).2.2.elim fun vs x => x.1.elim fun o y => y.elim fun n y => (x.2.reads M.fz (wQ M h1 h2.2).2.1).elim fun as q => ⟨_, .list y.1 y.2.1 y.2.2.2 (by simpa using q)⟩
 | _ => exact (Option.some.inj h ▸ hx : VR f ga la y u).reads M.fz hs
theorem qIV {A : Around} {L : Addr} {fs : List Addr} {f : FM} {ga : GA} {la : List Addr} {st : St} {s : Shared} {y z : PV} {u w : Value} {r : Bool} (rm : Room d A L fs) (M : Mid C F.nm L fs f ga la st s)
  (hy : VR f ga la y u) (hz : VR f ga la z w) (h : kh y z st = some r) : (∀ Q E : Value → Shared → Prop, Q (.bool r) s → wpAny (model C.prog C.w) A (compareOp .Eq u w) Q E s) ∧ (∀ Q E : Value → Shared → Prop, Q (.bool !r) s → wpAny (model C.prog C.w) A (compareOp .NotEq u w) Q E s) := by
 unfold kh at h
 cases h1 : uK y st with
 | none => rw [h1] at h; exact qH h
 | some a =>
  rw [h1] at h
  cases h2 : uK z st with
  | none => rw [h2] at h; exact qH h
  | some b =>
   rw [h2] at h
   have hc := qb h
   have c1 := Bool.and_eq_true_iff.mp hc.1
   have c2 := Bool.and_eq_true_iff.mp c1.1
   have c3 := Bool.and_eq_true_iff.mp c2.1
   have hu : A.units + 64 < cLine := by have := rm.units; lia
   exact (qDK M hy h1 c3.1).elim fun as ra => (qDK M hz h2 c3.2).elim fun bs rb =>
    ⟨fun Q E hq => PyProof.Rows.eq_dataH ra rb c2.2 c1.2 hu (hc.2 ▸ hq), fun Q E hq => PyProof.Rows.ne_dataH ra rb c2.2 c1.2 hu (hc.2 ▸ hq)⟩
theorem qMS {x y : Expr} {a b : EC} {p : Pos} (ha : qX C F d x a) (hb : qX C F d y b) (hm : behindInMarks .Eq y = false := by with_unfolding_all rfl) : qX C F d (.Compare x [.Eq] [y] p) (qEI a b) :=
 qBB (compareOp .Eq) ha hb (fun h => wpAny_Compare1 h hm) fun rm M h1 h2 h => (Option.map_eq_some_iff.mp h).elim fun r h3 => h3.2 ▸ Prim.val M.fz fun Q E hq => (qIV rm M h1 h2 h3.1).1 Q E (hq _ _ rfl)
theorem qMT {x y : Expr} {a b : EC} {p : Pos} (ha : qX C F d x a) (hb : qX C F d y b) (hm : behindInMarks .NotEq y = false := by with_unfolding_all rfl) : qX C F d (.Compare x [.NotEq] [y] p) (qIS a b) :=
 qBB (compareOp .NotEq) ha hb (fun h => wpAny_Compare1 h hm) fun rm M h1 h2 h => (Option.map_eq_some_iff.mp h).elim fun r h3 => h3.2 ▸ Prim.val M.fz fun Q E hq => (qIV rm M h1 h2 h3.1).2 Q E (hq _ _ rfl)
theorem gT {o : Expr} {c : EC} {y z : List Nat} {ys zs : Str} {ap p p1 p2 : Pos} {k1 k2 : Nat} (ho : qX C F d o c) (hy : ys = ⟨y.toArray⟩) (hz : zs = ⟨z.toArray⟩) (hne : decide (y ≠ z ∧ z.length = 1) = true := by decide +kernel) (hb : z9 o := by exact pbR) (hline : (ap.endLine == p.line) = true := by exact ttR) :
  qX C F d (.Call (.Attribute o "replace" ap) [.Constant (.str ys) k1 p1, .Constant (.str zs) k2 p2] [] p) (jt c y z) := by
 subst hy hz
 exact fun st => .bnd ((ho st).use fun st1 x h1 => .okP fun v hv => ⟨h1.1, fun rm M hq => wpAny_Call_method_late (hb _ _ _) rfl hline rfl (h1.2 rm M fun f1 s1 u g1 M1 v1 => VR.onS v1 hv fun l tk n1 hv =>
  ⟨"str", "str.replace", PySem.F.plainAttrs_str, PySem.F.slot_str_replace, PySem.F.type_str_replace, typeIs_str _ _ _, (fun _ e => nomatch e),
   Calls.callWith_builtin rfl (Calls.evalArgs_plain (Calls.spliced_cons (wpAny_Constant_str (k := k1) (pos := p1) (Calls.spliced_cons (wpAny_Constant_str (k := k2) (pos := p2) (Calls.spliced_nil (by
    have t0 := M1.tk
    have hne := of_decide_eq_true hne
    have hyz : ((⟨y.toArray⟩ : PySem.Str) == ⟨z.toArray⟩) = false := (qHQ y z).trans (beq_eq_false_iff_ne.mpr hne.1)
    refine wpAny_with_toks (Nat.le_refl _) (SC.replace (u := s1.toks) (v := s1.toks + 1) (Nat.ne_of_gt t0) (Nat.succ_ne_zero _) (Nat.ne_of_lt (Nat.lt_succ_self _)) hyz (by rw [jl, jl, hne.2]; have := (qb hv).1.1; lia) fun t' k hk => ?_)
    exact hq _ _ _ (g1.trans' tokGo) (M1.same (fun _ _ e => e) (Nat.lt_of_lt_of_le t0 (Nat.le_trans (Nat.le_add_right _ 2) hk)) rfl rfl) ((qb hv).2 ▸ ⟨(qb hv).1.2, t', by simp⟩))))))))⟩)⟩)
theorem qND {f : FM} {ga : GA} {la : List Addr} : ∀ (l : List (Str × Tok)), (∀ p ∈ l, p.1.cps.toList.length ≤ line) → VRs f ga la (l.map fun p => .str p.1.cps.toList) (strValues l)
 | [], _ => .nil'
 | p :: r, h => VRs.cons (x := .str p.1.cps.toList) ⟨h p (.head _), p.2, rfl⟩ (qND r fun q hq => h q (.tail _ hq))
theorem qL8 {A : Around} {L : Addr} {fs : List Addr} {f : FM} {ga : GA} {la : List Addr} {st : St} {s : Shared} {x y : Str} {t u : Tok} (M : Mid C F.nm L fs f ga la st s) (hx : x.length ≤ 8192) (hy : (y.length == 0) = false) (h1 : (Txt.split x y).length ≤ line) (h2 : ∀ p ∈ Txt.split x y, p.cps.toList.length ≤ line) :
  Prim (model C.prog C.w) f ga la A (call (.builtin "str.split") [.str x t, .str y u]) (.fl ((Txt.split x y).map fun t => .str t.cps.toList)) s := by
 have hsz : x.length ≤ sizeLine := by rw [sizeLine_eq]; lia
 have fin : ∀ (l : List (Str × Tok)) (tk : Nat), l.map (·.1) = Txt.split x y → ∀ {Q E : Value → Shared → Prop}, (∀ u s' f', (∀ b o, s.heap.get? b = some o → s'.heap.get? b = some o) → s.toks ≤ s'.toks → s'.gens = s.gens → s'.os = s.os →
   (∀ b o, f b = some o → f' b = some o) → (∀ b o, f' b = some o → f b = none → s.heap.get? b = none) → (∀ b o, f' b = some o → s'.heap.get? b = some o) → VR f' ga la (.fl ((Txt.split x y).map fun t => .str t.cps.toList)) u → Q u s') → s.toks ≤ tk →
   Q (.ref s.heap.objs.size) { s with toks := tk, heap := s.heap.push { cls := .type "list", data := .seq (strValues l).toArray } } := by
  intro l tk hl Q E hq ht
  refine hq _ _ (kt f s.heap.objs.size { cls := .type "list", data := .seq (strValues l).toArray }) (fun b o e => Heap.get?_push_of_some _ e) ht rfl rfl (j9 (jb M)) (yx (wp _)) (yN (Heap.get?_push_size _ rfl) fun b o' e => Heap.get?_push_of_some _ (M.fz b o' e)) ?_
  simp only [VR]
  refine ⟨by rw [List.length_map]; exact h1, _, strValues l, rfl, ⟨_, 0, jg, rfl, rfl⟩, ?_⟩
  rw [← hl, List.map_map]
  exact qND l fun p hp => h2 _ (by rw [← hl]; exact List.mem_map_of_mem hp)
 intro Q E hq
 refine wpAny_with_toks (Nat.le_refl s.toks) ?_
 cases c1 : (decide (x.length < y.length) || decide (strKind x < strKind y))
 ·cases hf : (occurrences x y 0 x.length (x.length + 1)).isEmpty
  ·have e : Txt.split x y = partsBetween x (occurrences x y 0 x.length (x.length + 1)) y.length := (if_neg (ne_true_of_eq_false c1)).trans (if_neg (ne_true_of_eq_false hf))
   refine call_meets PySem.F.slot_str_split (typeIs_str _ _ _) PySem.F.entry_str_split (PySem.F.args_str_split_2 _ _) (meets_str_split_sep x y t u c1 hy hf hsz (by rw [← e]; exact yu h1)) ?_
   show wants _ _ _ { s with toks := _, heap := s.heap.push { cls := .type "list", data := .seq (strsFrom s.toks (partsBetween x (occurrences x y 0 x.length (x.length + 1)) y.length)).toArray } }
   rw [strsFrom_eq]
   exact fun ht => fin (numbered s.toks _) _ ((numbered_texts _ _).trans e.symm) (E := E) hq ht
  ·exact call_meets PySem.F.slot_str_split (typeIs_str _ _ _) PySem.F.entry_str_split (PySem.F.args_str_split_2 _ _) (meets_str_split_not_found x y t u c1 hy hf) fun ht => fin [(x, t)] _ ((if_neg (ne_true_of_eq_false c1)).trans (if_pos hf)).symm (E := E) hq ht
 ·exact call_meets PySem.F.slot_str_split (typeIs_str _ _ _) PySem.F.entry_str_split (PySem.F.args_str_split_2 _ _) (meets_str_split_cannot_occur x y t u c1) fun ht => fin [(x, t)] _ (if_pos c1).symm (E := E) hq ht
theorem qO5 {y : List Nat} (x : PV) : (bnd (eC (.str y)) fun v st => okP (onS x fun x => on1 (fun z => onS z fun y' => if y' = y then wr y (.str x) else none) [v]) st) = fun st => okP (wr y x) st := funext fun st => by
 cases x with
 | str s => exact congrArg (fun o => okP o st) (if_pos rfl)
 | _ => rfl
theorem kA {o : Expr} {c : EC} {y : List Nat} {ys : Str} {ap p p1 : Pos} {k1 : Nat} (ho : qX C F d o c) (hy : ys = ⟨y.toArray⟩) (hne : decide (0 < y.length ∧ y.length ≤ line) = true := by decide +kernel) (hb : z9 o := by exact pbR) (hline : (ap.endLine == p.line) = true := by exact ttR) :
  qX C F d (.Call (.Attribute o "split" ap) [.Constant (.str ys) k1 p1] [] p) (yh c y) :=
 have hd := of_decide_eq_true hne
 have := wP (l := qB (eC (.str y)) qI) (k := fun x => on1 fun z => onS z fun y' => if y' = y then wr y (.str x) else none) (ap := ap) (p := p) PySem.F.slot_str_split PySem.F.type_str_split ho (qA (qCA (k := k1) (p := p1) hy (decide_eq_true hd.2)) qR) hb hline rfl
  fun {A L fs f ga la st s x t vs v us} rm M hv h => hv.on1 h fun z u v1 h => VR.onS v1 h fun y' t' n1 h => by
   by_cases q : y' = y
   ·subst q
    have h := qb ((if_pos rfl).symm.trans h)
    exact h.2 ▸ qL8 M (by rw [jl]; exact h.1.1) (by rw [jl]; exact beq_eq_false_iff_ne.mpr (Nat.ne_of_gt hd.1)) h.1.2.1 fun p hp => of_decide_eq_true (List.all_eq_true.mp h.1.2.2 p hp)
   ·exact qH ((if_neg q).symm.trans h)
 (congrArg (qX C F d _) (congrArg (bnd c) (funext fun x => (qLH (g := fun vs st => okP (onS x fun x => on1 (fun z => onS z fun y' => if y' = y then wr y (.str x) else none) vs) st)).trans (qO5 x)))).mp this
theorem qNE {f : FM} {ga : GA} {la : List Addr} : ∀ {p : List PV} {v : List Value} {l : List (List Nat)}, VRs f ga la p v → u8 p = some l → ∃ q : List (Str × Tok), v = strValues q ∧ q.map (·.1) = l.map fun s => ⟨s.toArray⟩
 | [], _, l, h, e => h.nilE (P := fun v => ∃ q : List (Str × Tok), v = strValues q ∧ q.map (·.1) = l.map fun s => ⟨s.toArray⟩) ((Option.some.inj e : [] = l) ▸ ⟨[], rfl, rfl⟩)
 | x :: r, _, l, h, e => h.consE (P := fun v => ∃ q : List (Str × Tok), v = strValues q ∧ q.map (·.1) = l.map fun s => ⟨s.toArray⟩) fun u us h1 h2 => VR.onS (P := fun _ u => ∃ q, u :: us = strValues q ∧ q.map (·.1) = l.map fun s => (⟨s.toArray⟩ : PySem.Str)) h1 e fun s t n1 e => (Option.map_eq_some_iff.mp e).elim fun l' e => (qNE h2 e.1).elim fun q y =>
   e.2 ▸ ⟨(⟨s.toArray⟩, t) :: q, y.1 ▸ rfl, congrArg (List.cons _) y.2⟩
theorem qOE (l : List (List Nat)) : ∀ acc : Array Nat, ((l.map fun s => (⟨s.toArray⟩ : PySem.Str)).foldl (fun acc p => acc ++ (⟨#[]⟩ : PySem.Str).cps ++ p.cps) acc) = acc ++ l.flatten.toArray := by
 induction l with
 | nil => intro acc; simp
 | cons x r ih =>
  intro acc
  rw [List.map_cons, List.foldl_cons, ih]
  simp
theorem qTH (l : List (List Nat)) : Txt.join ⟨#[]⟩ (l.map fun s => ⟨s.toArray⟩) = ⟨l.flatten.toArray⟩ := by
 unfold Txt.join glued
 cases l with
 | nil => rfl
 | cons x r =>
  have := qOE r x.toArray
  simp only [List.map_cons, List.drop_succ_cons, List.drop_zero, List.headD_cons]
  rw [this]
  simp [List.flatten_cons]
theorem qOG {A : Around} {nm : List Str} {L : Addr} {fs : List Addr} {f : FM} {ga : GA} {la : List Addr} {st : St} {s : Shared} {x v : PV} {u : Value} {t : Tok} (M : Mid C nm L fs f ga la st s) (hx : VR f ga la x u) (h : qMZ x st = some v) :
  Prim (model C.prog C.w) f ga la A (call (.builtin "str.join") [.str ⟨#[]⟩ t, u]) v s := by
 cases x with
 | lst r =>
  unfold qMZ at h
  dsimp only at h
  cases hl : (dI r st).bind u8 with
  | none => rw [hl] at h; exact qH h
  | some l =>
   rw [hl] at h
   have h := qb h
   exact h.2 ▸ hx.elim fun a h3 => h3.1 ▸ (Option.bind_eq_some_iff.mp hl).elim fun ps hp => (wQ M hp.1 h3.2).2.2.elim fun vs y => (qNE y.2 hp.2).elim fun q hq => Prim.val M.fz fun Q E hQ => SC.join (hq.1 ▸ y.1.isList) hq.2 (PyProof.Rows.joinOk_of (by
    have : ((l.map fun s => (⟨s.toArray⟩ : PySem.Str)).map (·.length)).sum = (l.map List.length).sum := by
     rw [List.map_map]
     exact congrArg List.sum (List.map_congr_left fun s _ => jl s)
    rw [this]
    have hn := h.1
    unfold line at hn
    simp only [PySem.Str.length, List.size_toArray, List.length_nil, Nat.mul_zero]
    lia)) fun t' k => qTH l ▸ hQ _ _ (.str' (by rw [List.length_flatten]; exact h.1))
 | _ => exact qH h
theorem qB8 {e : Expr} {a : EC} {es : Str} {ap p p1 : Pos} {k1 : Nat} (ha : qX C F d e a) (hs : es = ⟨#[]⟩) (hn : noStar [e] = true := by exact ttR) (hline : (ap.endLine == p.line) = true := by exact ttR) :
  qX C F d (.Call (.Attribute (.Constant (.str es) k1 p1) "join" ap) [e] [] p) (qIR a) := by
 subst hs
 exact fun st => .bnd ((ha st).use fun st1 x h1 => .okP fun v hv => ⟨h1.1, fun rm M hq => wpAny_Call_method_late rfl (by rw [(zp _ _ hn).1]; rfl) hline rfl (wpAny_Constant_str
  ⟨"str", "str.join", PySem.F.plainAttrs_str, PySem.F.slot_str_join, PySem.F.type_str_join, typeIs_str _ _ _, (fun _ e => nomatch e), (dn _ hn).1 ▸ Calls.callWith_builtin rfl (Calls.evalArgs_plain (Calls.spliced_cons (h1.2 rm (ub M 1) fun f1 s1 u g1 M1 v1 => Calls.spliced_nil
   ((qOG M1 v1 hv).use M1 fun f2 s2 u2 g2 M2 v2 => hq f2 s2 u2 ((tokGo.trans' g1).trans' (g2 _)) M2 v2))))⟩)⟩)
end
section
variable {C : Cx} {F : Fi} {d : Nat} {nm : List Str} {L : Addr} {fs : List Addr} {f : FM} {ga : GA} {la : List Addr} {st : St} {s : Shared}
theorem Mid.apart (M : Mid C nm L fs f ga la st s) : (st.g.hd = true → ga.rwA ∉ la) ∧ (st.g.hl = true → ga.lxD ∉ la ∧ ga.tkA ∉ la ∧ ga.lxD ≠ ga.tkA) ∧ (st.g.hd = true → st.g.hl = true → ga.rwA ≠ ga.lxD ∧ ga.rwA ≠ ga.tkA) ∧ la.Nodup := by
 have h := M.nodup
 unfold muts at h
 refine ⟨fun a => ?_, fun a => ?_, fun a b => ?_, ?_⟩
 ·rw [if_pos a] at h
  have := (List.nodup_append.mp h).2.2 _ (List.mem_singleton.mpr rfl)
  exact fun q => this _ (List.mem_append_right _ q) rfl
 ·rw [if_pos a] at h
  have h := (List.nodup_append.mp h).2.1
  obtain ⟨h1, h2, h3⟩ := List.nodup_append.mp h
  refine ⟨fun q => h3 _ (.head _) _ q rfl, fun q => h3 _ (.tail _ (.head _)) _ q rfl, ?_⟩
  simpa using h1
 ·rw [if_pos a, if_pos b] at h
  have := (List.nodup_append.mp h).2.2 _ (List.mem_singleton.mpr rfl)
  exact ⟨this _ (.head _), this _ (.tail _ (.head _))⟩
 ·exact (List.nodup_append.mp (List.nodup_append.mp h).2.1).2.1
theorem qJL {r : LRef} {l : List PV} {a : Addr} (hr : r.addr ga la = some a) (hg : dI r st = some l) : a ∈ muts ga la st.g := by
 cases r with
 | toks => exact Option.some.inj hr ▸ qC2 (qb hg).1
 | rows => exact Option.some.inj hr ▸ wd (qb hg).1
 | loc i => exact vT hr
theorem gL (r : LRef) (l : List PV) (st : St) : keepsV st (qHI r l st) := by
 cases r with
 | loc i => exact ⟨rfl, rfl, rfl, List.length_set ..⟩
 | _ => exact ⟨rfl, rfl, rfl, rfl⟩
theorem Mid.one (M : Mid C nm L fs f ga la st s) {st' : St} {a : Addr} {h' : Heap} {tk : Nat} (ha : a ∈ muts ga la st.g) (hs : Heap.SameBut a s.heap h') (hx : ∃ o, h'.get? a = some o) (htk : 0 < tk) (k : keepsV st st')
  (ls : ∀ (kc : ∀ {b l}, b ≠ a → Cell f ga la s.heap b l → Cell f ga la h' b l) (i : Nat) (b : Addr) (l : List PV), la[i]? = some b → st'.ls[i]? = some l → Cell f ga la h' b l)
  (dg : ∀ (kc : ∀ {b l}, b ≠ a → Cell f ga la s.heap b l → Cell f ga la h' b l), st.g.hd = true → Cell f ga la h' ga.rwA st'.g.rows)
  (lx : ∀ (kc : ∀ {b l}, b ≠ a → Cell f ga la s.heap b l → Cell f ga la h' b l), st.g.hl = true → LxAt f ga la st'.g.text st'.g.at_ h' ∧ Cell f ga la h' ga.tkA st'.g.toks) :
  Mid C nm L fs f ga la st' { s with heap := h', toks := tk } ∧ Go (L :: muts ga la st.g) f f s { s with heap := h', toks := tk } :=
 have kp : ∀ b o, b ≠ a → s.heap.get? b = some o → h'.get? b = some o := fun b o hb e => (hs.2 b hb).trans e
 have kc : ∀ {b l}, b ≠ a → Cell f ga la s.heap b l → Cell f ga la h' b l := fun hb c => c.keeps (fun _ _ e => e) fun o e => kp _ o hb e
 have hm := k.muts ga la
 have hf := M.mutF a ha
 ⟨⟨M.base, fun b o e => kp b o (fun q => qH (hf.1.symm.trans (q ▸ e))) (M.fz b o e), htk, M.gens, M.os, (congrArg List.length k.2.2.1).trans M.lenv,
   M.loc.elim fun m x => ⟨m, ju x.1 fun o e => kp L o (Ne.symm hf.2) e, k.2.2.1 ▸ x.2⟩, M.freshL, fun b hb => M.mutF b (hm ▸ hb), hm ▸ M.nodup, M.len.trans k.2.2.2.symm, ls kc, fun h => ⟨(M.dg (k.2.1 ▸ h)).1, dg kc (k.2.1 ▸ h)⟩,
   fun h => ⟨k.2.1.trans (M.lx (k.1 ▸ h)).1, (M.lx (k.1 ▸ h)).2.1, (lx kc (k.1 ▸ h)).1, (lx kc (k.1 ▸ h)).2⟩, M.exc,
   fun b hb => ⟨(M.fr b hb).1, (M.fr b hb).2.1, hm ▸ (M.fr b hb).2.2.1, (M.fr b hb).2.2.2.elim fun o x => ⟨o, kp b o (fun z => (M.fr b hb).2.2.1 (z ▸ ha)) x.1, x.2⟩⟩⟩,
  ⟨fun _ _ e => e, fun _ _ e n => qH (n.symm.trans e), fun b o e n => kp b o (fun z => n (z ▸ List.mem_cons_of_mem _ ha)) e, fun b o e => by
   by_cases q : b = a
   ·exact q ▸ hx
   ·exact ⟨o, kp b o q e⟩⟩⟩
theorem Mid.cell (M : Mid C nm L fs f ga la st s) {r : LRef} {l l' : List PV} {a : Addr} {h' : Heap} {tk : Nat} (hr : r.addr ga la = some a) (hg : dI r st = some l) (hs : Heap.SameBut a s.heap h') (hc : Cell f ga la h' a l') (htk : 0 < tk) :
  Mid C nm L fs f ga la (qHI r l' st) { s with heap := h', toks := tk } ∧ Go (L :: muts ga la st.g) f f s { s with heap := h', toks := tk } := by
 have ha := qJL hr hg
 have p := M.apart
 have kx : ga.lxD ≠ a → st.g.hl = true → LxAt f ga la st.g.text st.g.at_ h' := fun n h => (M.lx h).2.2.1.keeps fun o e => (hs.2 _ n).trans e
 cases r with
 | toks =>
  have q := (qb hg).1
  cases hr
  exact M.one ha hs hc.there htk (gL .toks l' st) (fun kc i b l e1 e2 => kc (fun z => (p.2.1 q).2.1 (z ▸ List.mem_of_getElem? e1)) (M.ls i b l e1 e2)) (fun kc hd => kc (p.2.2.1 hd q).2 (M.dg hd).2) fun kc hl => ⟨kx (p.2.1 q).2.2 hl, hc⟩
 | rows =>
  have q := (qb hg).1
  cases hr
  exact M.one ha hs hc.there htk (gL .rows l' st) (fun kc i b l e1 e2 => kc (fun z => p.1 q (z ▸ List.mem_of_getElem? e1)) (M.ls i b l e1 e2)) (fun kc hd => hc) fun kc hl => ⟨kx (Ne.symm (p.2.2.1 q hl).1) hl, kc (Ne.symm (p.2.2.1 q hl).2) (M.lx hl).2.2.2⟩
 | loc j =>
  have hr : la[j]? = some a := hr
  refine M.one ha hs hc.there htk (gL (.loc j) l' st) (fun kc i b k e1 e2 => ?_) (fun kc hd => kc (fun z => p.1 hd (z ▸ List.mem_of_getElem? hr)) (M.dg hd).2) fun kc hl => ⟨kx (fun z => (p.2.1 hl).1 (z ▸ List.mem_of_getElem? hr)) hl, kc (fun z => (p.2.1 hl).2.1 (z ▸ List.mem_of_getElem? hr)) (M.lx hl).2.2.2⟩
  have e2 : (st.ls.set j l')[i]? = some k := e2
  by_cases q : i = j
  ·subst q
   rw [List.getElem?_set_self (by rw [← M.len]; exact (List.getElem?_eq_some_iff.mp hr).1)] at e2
   exact Option.some.inj (hr.symm.trans e1) ▸ Option.some.inj e2 ▸ hc
  ·rw [List.getElem?_set_ne (Ne.symm q)] at e2
   exact kc (fun z => q ((List.getElem?_inj (List.getElem?_eq_some_iff.mp e1).1 p.2.2.2).mp (e1.trans (z ▸ hr.symm)))) (M.ls i b k e1 e2)
theorem qOD {r : LRef} {a b : St} {l : List PV} (k : keepsV a b) (h : dI r b = some l) : ∃ l1, dI r a = some l1 := by
 cases r with
 | toks => exact ⟨_, if_pos (k.1 ▸ (qb h).1)⟩
 | rows => exact ⟨_, if_pos (k.2.1 ▸ (qb h).1)⟩
 | loc i => exact ⟨_, List.getElem?_eq_getElem (k.2.2.2 ▸ (List.getElem?_eq_some_iff.mp h).1)⟩
theorem Post.app {x y : PV} {st : St} {P : St → PV → Prop} (h : ∀ r l, x = .lst r → dI r st = some l → y.solid = true → l.length < line → P (qHI r (l ++ [y]) st) .none) : Post (fun st => match x with
  | .lst r => (match dI r st with
   | some l => if y.solid && decide (l.length < line) then some (.none, qHI r (l ++ [y]) st) else none
   | none => none)
  | _ => none) st P := fun st' v e => by
 cases x with
 | lst r =>
  dsimp only at e
  cases hl : dI r st with
  | none => rw [hl] at e; exact qH e
  | some l =>
   rw [hl] at e
   have e := qb e
   have c := Bool.and_eq_true_iff.mp e.1
   exact Post.pure (P := P) (st := qHI r (l ++ [y]) st) (h r l rfl hl c.1 (of_decide_eq_true c.2)) st' v (congrArg some e.2)
 | _ => exact qH e
theorem zV {o e : Expr} {c a : EC} {ap p : Pos} (ho : qX C F d o c) (ha : qX C F d e a) (hn : noStar [e] = true := by exact ttR) (hb : z9 o := by exact pbR) (hline : (ap.endLine == p.line) = true := by exact ttR) :
  qX C F d (.Call (.Attribute o "append" ap) [e] [] p) (qw c a) := fun st =>
 .bnd ((ho st).use fun st1 x h1 => .bnd ((ha st1).use fun st2 y h2 => .app fun r l er hl hsol hlen => ⟨(h1.1.trans h2.1).trans (gL _ _ _), fun rm M hq =>
  wpAny_Call_method_late (hb _ _ _) (by rw [(zp _ _ hn).1]; rfl) hline rfl (h1.2 rm M fun f1 s1 u g1 M1 v1 => by
   subst er
   obtain ⟨b, rfl, hr⟩ := v1
   refine (qOD h2.1 hl).elim fun l1 hl1 => (wQ M1 hl1 hr).2.2.elim fun vs1 c1 => ⟨"list", "list.append", PySem.F.plainAttrs_list, PySem.F.slot_list_append, PySem.F.type_list_append, c1.1.isList.typeIs, fun b' e' => Value.ref.inj e' ▸ c1.1.elim fun o' z => z.elim fun n' z => ⟨o', z.1, z.2.2.1⟩, ?_⟩
   rw [(dn _ hn).1]
   refine Calls.callWith_builtin rfl (Calls.evalArgs_plain (Calls.spliced_cons (h2.2 rm M1 fun f2 s2 u2 g2 M2 v2 => Calls.spliced_nil ?_)))
   have c2 := wQ M2 hl hr
   refine c2.2.2.elim fun vs hp => list_append_plainL hp.1 (fun h' hp' hs' => ?_) (by rw [List.size_toArray, hp.2.length]; exact yu c2.1)
   have M3 := M2.cell (l' := l ++ [y]) hr hl hs' ⟨by rw [List.length_append]; exact hlen, gw c2.2.1 (Bool.and_eq_true_iff.mpr ⟨hsol, rfl⟩), vs ++ [u2], by simpa using hp', hp.2.append (VRs.cons v2 .nil')⟩ M2.tk
   exact (hq.next h1.1 g1).next h2.1 g2 f2 _ .none M3.2 M3.1 rfl)⟩))
end
structure Turned (S hot : List Addr) (h h' : Heap) : Prop where
 keep : ∀ b o, b ∉ S → b ∉ hot → h.get? b = some o → h'.get? b = some o
 slots : ∀ b ∈ S, ∀ o, h.get? b = some o → b ∉ hot → ∃ sl, h'.get? b = some { o with slots := sl }
 ex : ∀ b o, h.get? b = some o → ∃ o', h'.get? b = some o'
theorem Turned.refl {S hot : List Addr} {h : Heap} : Turned S hot h h := ⟨fun _ _ _ _ e => e, fun _ _ o e _ => ⟨o.slots, e⟩, fun _ o e => ⟨o, e⟩⟩
theorem Turned.trans {S hot hot' : List Addr} {h h' h'' : Heap} (x : Turned S hot h h') (y : Turned S hot' h' h'') : Turned S (hot ++ hot') h h'' where
 keep := fun b o n1 n2 e => y.keep b o n1 (fun q => n2 (List.mem_append_right _ q)) (x.keep b o n1 (fun q => n2 (List.mem_append_left _ q)) e)
 slots := fun b hb o e n2 => (x.slots b hb o e fun q => n2 (List.mem_append_left _ q)).elim fun sl e1 => (y.slots b hb { o with slots := sl } e1 fun q => n2 (List.mem_append_right _ q)).elim fun sl2 e2 => ⟨sl2, e2⟩
 ex := fun b o e => (x.ex b o e).elim fun o' e' => y.ex b o' e'
theorem Turned.more {S hot hot' : List Addr} {h h' : Heap} (x : Turned S hot h h') (k : ∀ b ∈ hot, b ∈ hot' ∨ h.get? b = none) : Turned S hot' h h' where
 keep := fun b o n1 n2 e => x.keep b o n1 (fun q => (k b q).elim n2 fun z => qH (z.symm.trans e)) e
 slots := fun b hb o e n2 => x.slots b hb o e (fun q => (k b q).elim n2 fun z => qH (z.symm.trans e))
 ex := x.ex
noncomputable def noHeap : Heap := {}
theorem qLT (b : Addr) : noHeap.get? b = none := by
 unfold noHeap Heap.get?
 simp
noncomputable def Live (S : List Addr) (h : Heap) : Prop := ∀ b ∈ S, ∃ o, h.get? b = some o ∧ ∀ vs, o.data ≠ .fields vs
theorem uu {h : Heap} : ∀ {l : List Env} {S : List Addr}, uF l S → Live S h → h.FunFrames noHeap l ∧ l.filterMap (·.frame) = S
 | [], [], _, _ => ⟨trivial, rfl⟩
 | [], _ :: _, h, _ => h.elim
 | _ :: _, [], h, _ => h.elim
 | e :: r, b :: t, ⟨h1, h2, h3⟩, hl => by
  obtain ⟨o, ho, hd⟩ := hl b (.head _)
  obtain ⟨a1, a2⟩ := uu h3 fun x hx => hl x (.tail _ hx)
  exact ⟨⟨h1, ⟨b, o, h2, qLT b, ho, hd⟩, a1⟩, by rw [List.filterMap_cons, h2, a2]⟩
theorem Live.turned {S hot : List Addr} {h h' : Heap} (x : Live S h) (t : Turned S hot h h') (hh : ∀ b ∈ hot, b ∉ S) : Live S h' := fun b hb => (x b hb).elim fun o e => (t.slots b hb o e.1 fun q => hh b q hb).elim fun sl e' => ⟨_, e', e.2⟩
section
variable {M : Model} {A : Around} {E : Value → Shared → Prop} {s : Shared} {env : Env} {l : List Env} {L : Addr} {fs : List Addr}
theorem qI5 {Q : Value → Shared → Prop} (hfr : A.frames = some l) (ho : uF l (L :: fs)) (hk : Live (L :: fs) s.heap) (hf : env.frame = some L)
  (h : ∀ h', Heap.SlotsOnly (L :: fs) s.heap h' → Q (.ref L) { s with heap := h' }) : wpAny M A (frameOf env) Q E s := by
 cases l with
 | nil => exact ho.elim
 | cons env' outer =>
  obtain ⟨f1, f2⟩ := uu ho hk
  obtain ⟨h1, h2, h3⟩ := ho
  unfold PySem.frameOf
  refine wpAny_bind (wpAny_frameEnvs hfr ?_)
  have hdw : ((env' :: outer).dropWhile fun x => x.frame != env.frame) = env' :: outer := by simp [List.dropWhile, h2, hf]
  rw [hdw]
  unfold frameObject
  refine wpAny_bind (wpAny_bind (wpAny_readyFrames_fun f1 fun h₁ hs₁ => wpAny_pure ?_))
  rw [h2]
  rw [f2] at hs₁
  exact wpAny_pure (h h₁ hs₁)
noncomputable def qR6 (head : Value) (L : Addr) (pl : List Value) : Obj := { cls := .type "traceback", dict := none, data := .fields ([head, .ref L, .none, rawInt L, .none] ++ (if pl.isEmpty then List.replicate 6 Value.none else pl)).toArray }
theorem qE2 {e : Addr} {oe : Obj} {vs : Array Value} {head : Value} {hadNext : Bool} {Q : Unit → Shared → Prop}
  (hfr : A.frames = some l) (ho : uF l (L :: fs)) (hk : Live (L :: fs) s.heap) (hf : env.frame = some L) (he : s.heap.get? e = some oe) (hd : oe.data = .fields vs) (hsz : 1 < vs.size)
  (h : ∀ h' T, s.heap.get? T = none → Flies h' e oe.cls (oe.dict.getD 0) (some T) (rawInt L) ∨ oe.dict = none → Turned (L :: fs) [e] s.heap h' → Q () { s with heap := h' }) :
  wpAny M A (do let a ← frameOf env; let pl ← entryPlaceOf L hadNext; let b ← EntryCells.newEntry head a .none (rawInt L) .none pl; setField (.ref e) 1 b) Q E s := by
 have hene : e ∉ L :: fs := fun hm => (hk e hm).elim fun o x => x.2 vs (Option.some.inj (he.symm.trans x.1) ▸ hd)
 refine wpAny_bind (qI5 hfr ho hk hf fun h₁ hs₁ => ?_)
 refine wpAny_bind (wpAny_entryPlaceOf fun pl hpl => ?_)
 unfold EntryCells.newEntry newFields
 refine wpAny_bind (wpAny_newObj_type ?_ (hpl.sizeOk5 _ _ _ _ _))
 have he₁ : h₁.get? e = some oe := (hs₁.2.1 e hene).trans he
 have he₂ := Heap.get?_push_of_some (h := h₁) (qR6 head L pl) he₁
 have hTe : h₁.objs.size ≠ e := Nat.ne_of_gt (Heap.lt_size he₁)
 have hd₃ := Obj.data_mapFields hd (·.setIfInBounds 1 (Value.ref h₁.objs.size))
 have he₃ := Heap.get?_update_self (Obj.mapFields (·.setIfInBounds 1 (Value.ref h₁.objs.size))) he₂ (Obj.isFreed_of_fields hd₃)
 have hT₃ := (Heap.get?_update_other (h₁.push (qR6 head L pl))
  (Obj.mapFields (·.setIfInBounds 1 (Value.ref h₁.objs.size))) (Ne.symm hTe)).trans (Heap.get?_push_size h₁ rfl)
 have keep : ∀ b o, b ≠ e → h₁.get? b = some o →
   ((h₁.push (qR6 head L pl)).update e (Obj.mapFields (·.setIfInBounds 1 (Value.ref h₁.objs.size)))).get? b = some o :=
  fun b o hbe hb => by
   rw [Heap.get?_update_other _ _ (Ne.symm hbe)]
   exact Heap.get?_push_of_some _ hb
 refine wpAny_setField he₂ hd hsz (h _ h₁.objs.size ?_ ?_ ?_)
 ·exact Option.eq_none_iff_forall_ne_some.mpr fun o q => absurd (hs₁.1 ▸ Heap.lt_size q) (Nat.lt_irrefl _)
 ·cases hdx : oe.dict with
  | none => exact .inr rfl
  | some dx =>
   refine .inl ⟨_, _, he₃, Obj.cls_mapFields _ _, ?_, hd₃, .inr ⟨_, _, _, rfl, by simp [hsz], hTe, hT₃, rfl, by simp⟩⟩
   obtain ⟨c, dd, dt, sl⟩ := oe
   dsimp only at hd hdx
   subst hd hdx
   rfl
 ·refine ⟨fun b o n1 n2 e1 => keep b o (by simpa using n2) ((hs₁.2.1 b n1).trans e1), fun b hb o e1 n2 => ?_, fun b o e1 => ?_⟩
  ·obtain ⟨sl, e2⟩ := hs₁.2.2 b o e1
   exact ⟨sl, keep b _ (by simpa using n2) e2⟩
  ·obtain ⟨sl, e2⟩ := hs₁.2.2 b o e1
   by_cases q : b = e
   ·rw [q]; exact ⟨_, he₃⟩
   ·exact ⟨_, keep b _ q e2⟩
theorem qD4 {S : List Addr} {h : Heap} {t : Addr} {oT : Obj} {ts : Array Value} {k : Nat} {v : Value} (hT : h.get? t = some oT) (hdT : oT.data = .fields ts) :
  (h.update t (Obj.mapFields (·.setIfInBounds k v))).get? t = some (Obj.mapFields (·.setIfInBounds k v) oT) ∧ (∀ b, b ≠ t → (h.update t (Obj.mapFields (·.setIfInBounds k v))).get? b = h.get? b) ∧ Turned S [t] h (h.update t (Obj.mapFields (·.setIfInBounds k v))) :=
 have hTk := Heap.get?_update_self (Obj.mapFields (·.setIfInBounds k v)) hT (Obj.isFreed_of_fields (Obj.data_mapFields hdT _))
 have other : ∀ b, b ≠ t → (h.update t (Obj.mapFields (·.setIfInBounds k v))).get? b = h.get? b := fun b hb => Heap.get?_update_other _ _ (Ne.symm hb)
 ⟨hTk, other, fun b o n1 n2 e1 => (other b fun q => n2 (List.mem_singleton.mpr q)).trans e1, fun b hb o e1 n2 => ⟨o.slots, (other b fun q => n2 (List.mem_singleton.mpr q)).trans e1⟩, fun b o e1 => by
  by_cases q : b = t
  ·rw [q]; exact ⟨_, hTk⟩
  ·exact ⟨o, (other b q).trans e1⟩⟩
theorem qC5 {e dx : Addr} {cls : Value} {T : Option Addr} {fl : Value} {Q : Unit → Shared → Prop}
  (hfr : A.frames = some l) (ho : uF l (L :: fs)) (hk : Live (L :: fs) s.heap) (hf : env.frame = some L) (x : Flies s.heap e cls dx T fl) (hfl : fl = .none ∨ fl = rawInt L)
  (h : ∀ h' t, (some t = T ∨ s.heap.get? t = none) → Flies h' e cls dx (some t) (rawInt L) → Turned (L :: fs) (e :: T.toList) s.heap h' → Q () { s with heap := h' }) : wpAny M A (noteFrame (.ref e) env) Q E s := by
 obtain ⟨oe, vs, he, hcls, hdx, hd, h1⟩ := x
 have fin : ∀ {h' T}, Flies h' e oe.cls (oe.dict.getD 0) (some T) (rawInt L) ∨ oe.dict = none → Flies h' e cls dx (some T) (rawInt L) := fun y => y.elim (fun y => by rw [hdx, hcls] at y; exact y) fun q => qH (q.symm.trans hdx)
 unfold noteFrame
 simp only [hf]
 refine h1.elim (fun h1 => wpAny_bind (wpAny_field he hd h1.2 ?_)) fun h1 => ?_
 ·rw [if_neg (by decide)]
  exact qE2 hfr ho hk hf he hd (Array.getElem?_eq_some_iff.mp h1.2).1 fun h' T' hT hfl' ht => h h' T' (.inr hT) (fin hfl') (ht.more fun b hb => .inl (List.mem_cons.mpr (.inl (List.mem_singleton.mp hb))))
 ·obtain ⟨t, oT, ts, rfl, hv, hTe, hT, hdT, h3⟩ := h1
  refine wpAny_bind (wpAny_field he hd hv ?_)
  rw [if_pos (show (Value.ref t != Value.none) = true from by simp)]
  refine wpAny_bind (wpAny_field hT hdT h3 ?_)
  refine hfl.elim (fun q => ?_) fun q => ?_
  ·subst q
   rw [if_neg (show ¬ ((Value.none == rawInt L) = true) from by simp [rawInt])]
   refine wpAny_bind (wpAny_setField hT hdT (Array.getElem?_eq_some_iff.mp h3).1 ?_)
   have tt := qD4 (S := L :: fs) (k := 3) (v := .none) hT hdT
   have tS : t ∉ L :: fs := fun hm => (hk t hm).elim fun o x => x.2 ts (Option.some.inj (hT.symm.trans x.1) ▸ hdT)
   exact qE2 (s := { s with heap := s.heap.update t (Obj.mapFields (·.setIfInBounds 3 Value.none)) }) hfr ho (hk.turned tt.2.2 fun b hb => List.mem_singleton.mp hb ▸ tS) hf ((tt.2.1 e (Ne.symm hTe)).trans he) hd (Array.getElem?_eq_some_iff.mp hv).1 fun h' T hT' hfl' ht =>
    h h' T (.inr (Option.eq_none_iff_forall_ne_some.mpr fun o q => (tt.2.2.ex T o q).elim fun o' e' => qH (hT'.symm.trans e'))) (fin hfl') ((tt.2.2.trans ht).more fun b hb => .inl ((List.mem_cons.mp hb).elim (fun q => q ▸ .tail _ (.head _)) fun q => List.mem_singleton.mp q ▸ .head _))
  ·rw [if_pos (by rw [q]; simp)]
   exact wpAny_pure (h s.heap t (.inl rfl) ⟨oe, vs, he, hcls, hdx, hd, .inr ⟨t, oT, ts, rfl, hv, hTe, hT, hdT, h3.trans (congrArg some q)⟩⟩ .refl)
theorem Flies.get {h : Heap} {e dx t : Addr} {cls fl : Value} (x : Flies h e cls dx (some t) fl) : ∃ oe vs oT ts, h.get? e = some oe ∧ oe.cls = cls ∧ oe.dict = some dx ∧ oe.data = .fields vs ∧ vs[1]? = some (.ref t) ∧ t ≠ e ∧ h.get? t = some oT ∧ oT.data = .fields ts ∧ ts[3]? = some fl :=
 x.elim fun oe x => x.elim fun vs x => x.2.2.2.2.elim (fun q => qH q.1.symm) fun y => y.elim fun t' y => y.elim fun oT y => y.elim fun ts y => ⟨oe, vs, oT, ts, x.1, x.2.1, x.2.2.1, x.2.2.2.1, Option.some.inj y.1 ▸ y.2⟩
theorem Flies.fields {h : Heap} {e dx : Addr} {T : Option Addr} {cls fl : Value} (x : Flies h e cls dx T fl) : ∀ b ∈ e :: T.toList, ∃ o vs, h.get? b = some o ∧ o.data = .fields vs := fun b hb =>
 x.elim fun oe x => x.elim fun vs x => (List.mem_cons.mp hb).elim (fun q => ⟨oe, vs, q ▸ x.1, x.2.2.2.1⟩) fun hb => x.2.2.2.2.elim (fun q => by rw [q.1] at hb; cases hb) fun y => y.elim fun t' y => y.elim fun oT y => y.elim fun ts y =>
  ⟨oT, ts, by rw [y.1] at hb; exact (List.mem_singleton.mp hb) ▸ y.2.2.2.1, y.2.2.2.2.1⟩
theorem yw {e dx : Addr} {cls : Value} {t : Addr} {fl : Value} {fr : Option Addr} {Q : Unit → Shared → Prop} (x : Flies s.heap e cls dx (some t) fl)
  (h : ∀ h', Flies h' e cls dx (some t) (fr.elim .none fun f => rawInt f) → Turned (L :: fs) [t] s.heap h' → Q () { s with heap := h' }) : wpAny M A (setFlight (.ref e) fr) Q E s := by
 obtain ⟨oe, vs, oT, ts, he, hcls, hdx, hd, h1, hTe, hT, hdT, h3⟩ := x.get
 unfold setFlight
 refine wpAny_bind (wpAny_field he hd h1 ?_)
 rw [if_pos (show (Value.ref t != Value.none) = true from by simp)]
 have hsz := (Array.getElem?_eq_some_iff.mp h3).1
 have tt := qD4 (S := L :: fs) (k := 3) (v := fr.elim .none fun f => rawInt f) hT hdT
 exact wpAny_setField hT hdT hsz (h _ ⟨oe, vs, (tt.2.1 e (Ne.symm hTe)).trans he, hcls, hdx, hd, .inr ⟨t, _, _, rfl, h1, hTe, tt.1, Obj.data_mapFields hdT _, by simp [hsz]⟩⟩ tt.2.2)
end
section
variable {C : Cx} {F : Fi} {d : Nat}
theorem Room.out {A : Around} {L : Addr} {fs : List Addr} (rm : Room d A L fs) : ∃ l, A.frames = some l ∧ uF l (L :: fs) := rm.frames
theorem Mid.live {nm : List Str} {L : Addr} {fs : List Addr} {f : FM} {ga : GA} {la : List Addr} {st : St} {s : Shared} (M : Mid C nm L fs f ga la st s) : Live (L :: fs) s.heap := fun b hb =>
 (List.mem_cons.mp hb).elim (fun q => q ▸ M.loc.elim fun m x => x.1.elim fun o x => x.elim fun es x => x.elim fun ep x => ⟨o, x.1, fun vs q => Data.noConfusion (x.2.1.symm.trans q)⟩) fun hb => (M.fr b hb).2.2.2
theorem Mid.turned {nm : List Str} {L : Addr} {fs : List Addr} {f : FM} {ga : GA} {la : List Addr} {st : St} {s : Shared} {h' : Heap} {hot : List Addr} (M : Mid C nm L fs f ga la st s) (t : Turned (L :: fs) hot s.heap h') (hf : ∀ b ∈ hot, f b = none) (hd : ∀ b ∈ hot, ∃ o vs, s.heap.get? b = some o ∧ o.data = .fields vs) :
  Mid C nm L fs f ga la st { s with heap := h' } :=
 have nh : ∀ b o, s.heap.get? b = some o → (∀ vs, o.data ≠ .fields vs) → b ∉ hot := fun b o e n q => (hd b q).elim fun o' x => x.elim fun vs x => n vs (Option.some.inj (x.1.symm.trans e) ▸ x.2)
 have off : ∀ b ∈ L :: fs, f b = none := fun b hb => (List.mem_cons.mp hb).elim (fun q => q ▸ M.freshL) fun hb => (M.fr b hb).1
 M.reV (v' := st.v) (fun _ _ e => e) (fun _ _ _ _ e => e) (fun b o e => t.keep b o (fun q => qH ((off b q).symm.trans e)) (fun q => qH ((hf b q).symm.trans e)) (M.fz b o e))
  (fun b o hb e n => t.keep b o (fun q => (List.mem_cons.mp q).elim (M.mutF b hb).2 fun q => (M.fr b q).2.2.1 hb) (nh b o e n) e) (fun b o hb e n => (t.slots b (.tail _ hb) o e (nh b o e n)).elim fun sl e' => ⟨_, e', n⟩) M.tk rfl rfl rfl
  (M.loc.elim fun m x => ⟨m, x.1.elim fun o y => y.elim fun es y => y.elim fun ep y => (t.slots L (.head _) o y.1 (nh L o y.1 fun vs q => Data.noConfusion (y.2.1.symm.trans q))).elim fun sl e' => ⟨_, es, ep, e', y.2⟩, x.2⟩)
structure Still (C : Cx) (nm : List Str) (L : Addr) (fs : List Addr) (f : FM) (ga : GA) (la : List Addr) (st : St) (s : Shared) (h0 : Heap) (s' : Shared) : Prop where
 mid : Mid C nm L fs f ga la st s'
 kp : ∀ b o, (∃ o0, h0.get? b = some o0) → b ∉ L :: fs → s.heap.get? b = some o → s'.heap.get? b = some o
 ex : ∀ b o, s.heap.get? b = some o → ∃ o', s'.heap.get? b = some o'
 sl : ∀ b ∈ L :: fs, ∀ o, s.heap.get? b = some o → ∃ sl, s'.heap.get? b = some { o with slots := sl }
theorem qGJ {nm : List Str} {L : Addr} {fs : List Addr} {f : FM} {ga : GA} {la : List Addr} {st : St} {s : Shared} {c : List Nat} {i : Int} {h0 h1 h2 : Heap} {D : TD} {t : Addr} {fl : Value} (M : Mid C nm L fs f ga la st s) (T : ThrownD C L f c i h0 s D) (k0 : ∀ b o, h0.get? b = some o → ∃ o', s.heap.get? b = some o')
  (ht : some t = D.T ∨ s.heap.get? t = none) (tu1 : Turned (L :: fs) (D.e :: D.T.toList) s.heap h1) (tu2 : Turned (L :: fs) [t] h1 h2) (fly : Flies h2 D.e (.ref C.excC) D.dx (some t) fl) :
  Still C nm L fs f ga la st s h0 { s with heap := h2 } ∧ ∀ L' : Addr, (fl = .none ∨ fl = rawInt L') → Thrown C L' f c i (.ref D.e) h0 { s with heap := h2 } :=
 have t0 : t ∈ D.e :: D.T.toList ∨ s.heap.get? t = none := ht.imp (fun q => List.mem_cons_of_mem _ (by rw [← q]; exact .head _)) id
 have tu := (tu1.trans tu2).more (hot' := D.e :: D.T.toList) fun b hb => (List.mem_append.mp hb).elim .inl fun hb => List.mem_singleton.mp hb ▸ t0
 have nt : ∀ {g : FM}, (∀ b ∈ D.e :: D.T.toList, g b = none) → (∀ b o, g b = some o → ∃ o', s.heap.get? b = some o') → ∀ b ∈ D.e :: [t], g b = none := fun {g} h1 h2 b hb => (List.mem_cons.mp hb).elim (fun q => h1 b (q ▸ .head _)) fun hb => t0.elim (fun q => List.mem_singleton.mp hb ▸ h1 t q)
  fun q => Option.eq_none_iff_forall_ne_some.mpr fun o z => (h2 b o z).elim fun o' e' => qH (q.symm.trans (List.mem_singleton.mp hb ▸ e'))
 ⟨⟨M.turned tu T.off T.fly.fields, fun b o h nb e => tu.keep b o nb (fun q => h.elim fun o0 e0 => qH ((T.old b q).symm.trans e0)) e, tu.ex, fun b hb o e => tu.slots b hb o e fun q => (T.fly.fields b q).elim fun o1 x => x.elim fun vs x => (M.live b hb).elim fun o2 y => y.2 vs (Option.some.inj (x.1.symm.trans y.1) ▸ x.2)⟩,
  fun L' hl => ⟨⟨D.e, D.dx, D.od, D.t1, D.t2, some t, fl⟩, rfl, ⟨fly, hl, nt (g := fun b => h0.get? b) T.old k0, nt T.off fun b o e => ⟨o, M.fz b o e⟩, T.od, T.len, T.code, T.at_⟩⟩⟩
theorem qGW {A : Around} {L a : Addr} {cd : Value} {fs : List Addr} {f : FM} {ga : GA} {la : List Addr} {st : St} {s : Shared} {c : List Nat} {i : Int} {e : Value} {h0 : Heap} {E : Value → Shared → Prop}
  (rm : Room d A L fs) (M : Mid C F.nm L fs f ga la st s) (T : Thrown C L f c i e h0 s) (k0 : ∀ b o, h0.get? b = some o → ∃ o', s.heap.get? b = some o')
  (hE : ∀ s', Still C F.nm L fs f ga la st s h0 s' → Thrown C L f c i e h0 s' → E e s') :
  notedBy (model C.prog C.w) A (F.env L a cd) (cameBackBy (model C.prog C.w) A (F.env L a cd) E) e s :=
 rm.frames.elim fun l hl => T.elim fun D T => T.1 ▸ qC5 (env := F.env L a cd) hl.1 hl.2 M.live rfl T.2.fly T.2.fl fun h1 t ht fly1 tu1 => by
  obtain ⟨oe1, vs1, oT, ts, u1, u2, u3, u4, u6, u7⟩ := fly1.get
  refine wpAny_bind (wpAny_field u1 u4 u6 ?_)
  rw [if_neg (show ¬ ((Value.ref t == Value.none) = true) from Bool.false_ne_true)]
  exact yw (s := { s with heap := h1 }) (L := L) (fs := fs) fly1 fun h2 fly2 tu2 => have q := qGJ M T.2 k0 ht tu1 tu2 fly2; T.1 ▸ hE _ q.1 (T.1 ▸ q.2 L (.inr rfl))
theorem qAR {A : Around} {L a : Addr} {cd : Value} {fs : List Addr} {f : FM} {ga : GA} {la : List Addr} {st : St} {s : Shared} {c : List Nat} {i : Int} {e : Value} {h0 : Heap} {Q : Unit → Shared → Prop} {E : Value → Shared → Prop}
  (rm : Room d A L fs) (M : Mid C F.nm L fs f ga la st s) (T : Thrown C L f c i e h0 s) (k0 : ∀ b o, h0.get? b = some o → ∃ o', s.heap.get? b = some o')
  (hE : ∀ s', Still C F.nm L fs f ga la st s h0 s' → (∀ L', Thrown C L' f c i e h0 s') → Q () s') :
  wpAny (model C.prog C.w) A (leaving (F.env L a cd) e) Q E s :=
 rm.frames.elim fun l hl => T.elim fun D T => T.1 ▸ wpAny_bind (qC5 (env := F.env L a cd) hl.1 hl.2 M.live rfl T.2.fly T.2.fl fun h1 t ht fly1 tu1 =>
  yw (s := { s with heap := h1 }) (L := L) (fs := fs) fly1 fun h2 fly2 tu2 => have q := qGJ M T.2 k0 ht tu1 tu2 fly2; hE _ q.1 fun L' => T.1 ▸ q.2 L' (.inl rfl))
end
structure Adv (C : Cx) (nm : List Str) (L : Addr) (fs : List Addr) (n : Nat) (X : List Addr) (f f' : FM) (ga ga' : GA) (la la' : List Addr) (st st' : St) (s s' : Shared) : Prop where
 go : Go X f f' s s'
 fix0 : n = 0 → ga' = ga
 fix1 : n ≤ 1 → ga'.dgA = ga.dgA ∧ ga'.rwA = ga.rwA
 fresh : ∀ b ∈ muts ga' la' st'.g, b ∈ muts ga la st.g ∨ s.heap.get? b = none
 mid : Mid C nm L fs f' ga' la' st' s'
noncomputable def flags (n : Nat) (st st' : St) : Prop := (n = 0 → st'.g.hl = st.g.hl) ∧ (n ≤ 1 → st'.g.hd = st.g.hd) ∧ st'.v.length = st.v.length
theorem flags.refl {n : Nat} {st : St} : flags n st st := ⟨fun _ => rfl, fun _ => rfl, rfl⟩
theorem flags.trans {n : Nat} {a b c : St} (x : flags n a b) (y : flags n b c) : flags n a c := ⟨fun h => (y.1 h).trans (x.1 h), fun h => (y.2.1 h).trans (x.2.1 h), y.2.2.trans x.2.2⟩
theorem keepsV.flags {n : Nat} {a b : St} (x : keepsV a b) : flags n a b := ⟨fun _ => x.1, fun _ => x.2.1, congrArg List.length x.2.2.1⟩
noncomputable def Ends (C : Cx) (nm : List Str) (n : Nat) (A : Around) (L : Addr) (fs : List Addr) (f : FM) (ga : GA) (la : List Addr) (st : St) (s : Shared) (Q : Flow → Shared → Prop) (E : Value → Shared → Prop) (o : Out) (st' : St) : Prop := match o with
 | .nxt => ∀ f' ga' la' s', Adv C nm L fs n (L :: muts ga la st.g) f f' ga ga' la la' st st' s s' → Q .next s'
 | .brk => ∀ f' ga' la' s', Adv C nm L fs n (L :: muts ga la st.g) f f' ga ga' la la' st st' s s' → Q .brk s'
 | .ret v => ∀ f' ga' la' s' u, Adv C nm L fs n (L :: muts ga la st.g) f f' ga ga' la la' st st' s s' → VR f' ga' la' v u → Q (.ret u) s'
 | .exc c i => ∀ f' ga' la' s' e, Adv C nm L fs n (L :: fs ++ muts ga la st.g) f f' ga ga' la la' st st' s s' → yq fs s s' → Thrown C L f' c i e s.heap s' → E e s'
noncomputable def qX4 (C : Cx) (F : Fi) (d n : Nat) (x : Stmt) (st st' : St) (o : Out) : Prop :=
 ∀ {A : Around} {L a : Addr} {cd : Value} {fs : List Addr} {f : FM} {ga : GA} {la : List Addr} {s : Shared} {Q : Flow → Shared → Prop} {E : Value → Shared → Prop}, Room d A L fs → Mid C F.nm L fs f ga la st s →
  Ends C F.nm n A L fs f ga la st s Q E o st' → wpAny (model C.prog C.w) A (exec x (F.env L a cd)) Q E s
noncomputable def qWP (C : Cx) (F : Fi) (d n : Nat) (x : Stmt) (st st' : St) (o : Out) : Prop := flags n st st' ∧ qX4 C F d n x st st' o
noncomputable def yc (C : Cx) (F : Fi) (d n : Nat) (x : Stmt) (c : SC) : Prop := ∀ st, Post c st (qWP C F d n x st)
noncomputable def qX1 (C : Cx) (F : Fi) (d n : Nat) (xs : List Stmt) (st st' : St) (o : Out) : Prop :=
 ∀ {A : Around} {L a : Addr} {cd : Value} {fs : List Addr} {f : FM} {ga : GA} {la : List Addr} {s : Shared} {Q : Flow → Shared → Prop} {E : Value → Shared → Prop}, Room d A L fs → Mid C F.nm L fs f ga la st s →
  Ends C F.nm n A L fs f ga la st s Q E o st' → wpAny (model C.prog C.w) A (execs xs (F.env L a cd)) Q E s
noncomputable def qUE (C : Cx) (F : Fi) (d n : Nat) (xs : List Stmt) (st st' : St) (o : Out) : Prop := flags n st st' ∧ qX1 C F d n xs st st' o
noncomputable def vP (C : Cx) (F : Fi) (d n : Nat) (xs : List Stmt) (c : SC) : Prop := ∀ st, Post c st (qUE C F d n xs st)
section
variable {C : Cx} {F : Fi} {d n : Nat}
section
variable {nm : List Str} {L : Addr} {fs : List Addr} {X Y : List Addr} {f f' f'' : FM} {ga ga' ga'' : GA} {la la' la'' : List Addr} {st st' st'' : St} {s s' s'' : Shared}
theorem Adv.refl (M : Mid C nm L fs f ga la st s) : Adv C nm L fs n X f f ga ga la la st st s s := ⟨.refl, fun _ => rfl, fun _ => ⟨rfl, rfl⟩, fun b h => .inl h, M⟩
theorem dF {P Q R : List Addr} (x : ∀ b ∈ Q, b ∈ P ∨ s.heap.get? b = none) (y : ∀ b ∈ R, b ∈ Q ∨ s'.heap.get? b = none) (g : Go X f f' s s') : ∀ b ∈ R, b ∈ P ∨ s.heap.get? b = none := fun b hb =>
 (y b hb).elim (x b) fun h => .inr (Option.eq_none_iff_forall_ne_some.mpr fun o q => (g.ex b o q).elim fun o' e => qH (h.symm.trans e))
theorem Adv.trans (x : Adv C nm L fs n (L :: muts ga la st.g) f f' ga ga' la la' st st' s s') (y : Adv C nm L fs n (L :: muts ga' la' st'.g) f' f'' ga' ga'' la' la'' st' st'' s' s'') : Adv C nm L fs n (L :: muts ga la st.g) f f'' ga ga'' la la'' st st'' s s'' :=
 ⟨x.go.trans y.go fun b hb => (List.mem_cons.mp hb).elim (fun q => .inl (q ▸ .head _)) fun hb => (x.fresh b hb).imp (.tail _) id, fun h => (y.fix0 h).trans (x.fix0 h), fun h => ⟨(y.fix1 h).1.trans (x.fix1 h).1, (y.fix1 h).2.trans (x.fix1 h).2⟩, dF x.fresh y.fresh x.go, y.mid⟩
theorem Adv.transX (x : Adv C nm L fs n (L :: muts ga la st.g) f f' ga ga' la la' st st' s s') (y : Adv C nm L fs n (L :: fs ++ muts ga' la' st'.g) f' f'' ga' ga'' la' la'' st' st'' s' s'') : Adv C nm L fs n (L :: fs ++ muts ga la st.g) f f'' ga ga'' la la'' st st'' s s'' :=
 ⟨(x.go.wider fun b hb => (List.mem_cons.mp hb).elim (fun q => q ▸ .head _) (List.mem_append_right (L :: fs))).trans y.go fun b hb => (List.mem_append.mp hb).elim (fun hb => .inl (List.mem_append_left _ hb)) fun hb => (x.fresh b hb).imp (List.mem_append_right _) id,
  fun h => (y.fix0 h).trans (x.fix0 h), fun h => ⟨(y.fix1 h).1.trans (x.fix1 h).1, (y.fix1 h).2.trans (x.fix1 h).2⟩, dF x.fresh y.fresh x.go, y.mid⟩
theorem qJ9 (x : Adv C nm L fs n (L :: muts ga la st.g) f f' ga ga' la la' st st' s s') (M : Mid C nm L fs f ga la st s) (h : yq fs s' s'') : yq fs s s'' := fun b hb o e =>
 h b hb o (x.go.keep b o e fun q => (List.mem_cons.mp q).elim (M.fr b hb).2.1 (M.fr b hb).2.2.1)
theorem Ends.after {A : Around} {Q : Flow → Shared → Prop} {E : Value → Shared → Prop} {o : Out} (M : Mid C nm L fs f ga la st s) (x : Adv C nm L fs n (L :: muts ga la st.g) f f' ga ga' la la' st st' s s') (h : Ends C nm n A L fs f ga la st s Q E o st'') : Ends C nm n A L fs f' ga' la' st' s' Q E o st'' := by
 cases o with
 | nxt => exact fun f2 ga2 la2 s2 y => h f2 ga2 la2 s2 (x.trans y)
 | brk => exact fun f2 ga2 la2 s2 y => h f2 ga2 la2 s2 (x.trans y)
 | ret v => exact fun f2 ga2 la2 s2 u y hv => h f2 ga2 la2 s2 u (x.trans y) hv
 | exc c i => exact fun f2 ga2 la2 s2 e y hs ht => h f2 ga2 la2 s2 e (x.transX y) (qJ9 x M hs) (ht.back x.go.ex)
theorem keepsV.adv (k : keepsV st st') (g : Go (L :: Mine.muts ga la st.g) f f' s s') (M : Mid C nm L fs f' ga la st' s') : Adv C nm L fs n (L :: Mine.muts ga la st.g) f f' ga ga la la st st' s s' :=
 ⟨g, fun _ => rfl, fun _ => ⟨rfl, rfl⟩, fun b h => .inl (k.muts ga la ▸ h), M⟩
end
theorem jr : vP C F d n [] qK := fun st => .pure ⟨.refl, fun hr M hq => wpAny_execs_nil (hq _ _ _ _ (.refl M))⟩
theorem qG {x : Stmt} {xs : List Stmt} {a b : SC} (ha : yc C F d n x a) (hb : vP C F d n xs b) : vP C F d n (x :: xs) (qD a b) := fun st => .bnd ((ha st).use fun st1 o1 h1 => by
 cases o1 with
 | nxt => exact (hb st1).use fun st2 o h2 => ⟨h1.1.trans h2.1, fun rm M hq => wpAny_execs_cons (h1.2 rm M fun f1 ga1 la1 s1 x1 => h2.2 rm x1.mid (hq.after M x1))⟩
 | brk => exact .pure ⟨h1.1, fun rm M hq => wpAny_execs_cons (h1.2 rm M hq)⟩
 | ret v => exact .pure ⟨h1.1, fun rm M hq => wpAny_execs_cons (h1.2 rm M hq)⟩
 | exc c i => exact .pure ⟨h1.1, fun rm M hq => wpAny_execs_cons (h1.2 rm M hq)⟩)
theorem kg {F : Fi} {L a : Addr} {cd : Value} (hk : F.sc.kind = .function) : interactive (F.env L a cd) = false := by unfold interactive; rw [show (F.env L a cd).scope.kind = .function from hk]; rfl
theorem q0 {x : Expr} {a : EC} {p : Pos} (ha : qX C F d x a) (hk : F.sc.kind = .function := by exact kfR) (hs : ∀ env : Env, swapsWith x none p.line env = pure false := by exact swR) : yc C F d n (.Expr x p) (qc a) := fun st =>
 .bnd ((ha st).use fun st1 v h1 => .pure ⟨h1.1.flags, fun {A L a cd fs f ga la s Q E} rm M hq => by
  rw [exec_Expr (F.env L a cd) x p (kg hk) (hs _)]
  exact wpAny_bind (wpAny_standAt (wpAny_bind (h1.2 rm M fun f1 s1 u g1 M1 v1 => wpAny_dropValue (hq _ _ _ _ (h1.1.adv g1 M1)))))⟩)
theorem Mid.put {L : Addr} {fs : List Addr} {f : FM} {ga : GA} {la : List Addr} {st st' : St} {s : Shared} {i : Nat} {x : Str} {v : PV} {u : Value} {A : Around} {a : Addr} {cd : Value} {Q : Unit → Shared → Prop} {E : Value → Shared → Prop}
  (M : Mid C F.nm L fs f ga la st s) (hok : (F.ok && (F.nm[i]? == some x)) = true) (hv : VR f ga la v u) (hp : za i v st = some st')
  (h : ∀ h', Mid C F.nm L fs f ga la st' { s with heap := h', toks := s.toks + 1 } → Go (L :: muts ga la st.g) f f s { s with heap := h', toks := s.toks + 1 } → Q () { s with heap := h', toks := s.toks + 1 }) :
  wpAny (model C.prog C.w) A (storeName (F.env L a cd) x u) Q E s := by
 have O := Fi.of (Bool.and_eq_true_iff.mp hok).1
 have a7 := Fi.at hok
 have hx := O.loc x (List.mem_of_getElem? a7)
 have hp := qb hp
 have hlt := hp.1
 subst_vars
 refine M.loc.elim fun m hm => wpAny_storeName_local (env := F.env L a cd) (show _ = _ from hx.1) hm.1 (fun h' hn hs => ?_) (by show (F.sc.kind == .class || (F.sc.kind == .module && _)) = false; rw [O.fn]; rfl)
 have kp : ∀ b o, b ≠ L → s.heap.get? b = some o → h'.get? b = some o := fun b o hb e => (hs.2 b hb).trans e
 refine h h' (hp.2 ▸ M.reV (fun _ _ e => e) (fun _ _ _ _ e => e) (fun b o e => kp b o (fun q => qH (M.freshL.symm.trans (q ▸ e))) (M.fz b o e)) (fun b o hb e _ => kp b o (M.mutF b hb).2 e) (fun b o hb e n => ⟨o, kp b o (M.fr b hb).2.1 e, n⟩) (Nat.succ_pos _) rfl rfl (List.length_set ..) ⟨_, hn, fun j y w e1 e2 => ?_⟩) ⟨fun _ _ e => e, fun _ _ e n => qH (n.symm.trans e), fun b o e n => kp b o (fun q => n (q ▸ .head _)) e, fun b o e => ?_⟩
 ·by_cases q : i = j
  ·subst q
   rw [List.getElem?_set_self hlt] at e2
   exact ⟨u, if_pos (Option.some.inj (e1.symm.trans a7)), Option.some.inj (Option.some.inj e2) ▸ hv⟩
  ·rw [List.getElem?_set_ne q] at e2
   exact (hm.2 j y w e1 e2).elim fun w' e => ⟨w', (if_neg fun z => q ((List.getElem?_inj (List.getElem?_eq_some_iff.mp a7).1 O.nd).mp (a7.trans ((congrArg some z).symm.trans e1.symm)))).trans e.1, e.2⟩
 ·by_cases q : b = L
  ·rw [q]; exact hn.elim fun o' z => z.elim fun _ z => z.elim fun _ z => ⟨o', z.1⟩
  ·exact ⟨o, kp b o q e⟩
theorem jW {i : Nat} {v : PV} {st st' : St} (h : za i v st = some st') : st'.g = st.g ∧ st'.ls = st.ls ∧ st'.v.length = st.v.length := (qb h).2 ▸ ⟨rfl, rfl, List.length_set ..⟩
theorem uX {i : Nat} {v : PV} {st st' : St} (h : za i v st = some st') : flags n st st' := (qb h).2 ▸ ⟨fun _ => rfl, fun _ => rfl, List.length_set ..⟩
theorem Post.put {i : Nat} {v : PV} {st : St} {P : St → Out → Prop} (h : ∀ st2, za i v st = some st2 → P st2 .nxt) : Post (fun st => match za i v st with
  | some st' => some (.nxt, st')
  | none => none) st P := fun st' o e => by
 dsimp only at e
 cases q : za i v st with
 | none => rw [q] at e; exact qH e
 | some z => rw [q] at e; exact Post.pure (P := P) (h z q) st' o e
theorem gI {ga : GA} {la : List Addr} {s : Shared} {i : Nat} {v : PV} {st st1 st2 : St} (k : keepsV st st1) (h : za i v st1 = some st2) : ∀ b ∈ muts ga la st2.g, b ∈ muts ga la st.g ∨ s.heap.get? b = none := fun b hb => .inl (k.muts ga la ▸ (jW h).1 ▸ hb)
theorem qN {i : Nat} {x : Str} {e : Expr} {a : EC} {xp p : Pos} (hok : (F.ok && (F.nm[i]? == some x)) = true) (ha : qX C F d e a) (hs : ∀ env : Env, swapsWith e (some (.Name x xp)) p.line env = pure false := by exact swR) : yc C F d n (.Assign [.Name x xp] e p) (qV i a) := fun st =>
 .bnd ((ha st).use fun st1 v h1 => .put fun st2 hp => ⟨h1.1.flags.trans (uX hp), fun rm M hq => wpAny_Assign_Name (h1.2 rm M fun f1 s1 u g1 M1 v1 => M1.put hok v1 hp fun h' M2 g2 =>
  hq _ _ _ _ ⟨g1.trans' (h1.1.muts _ _ ▸ g2), fun _ => rfl, fun _ => ⟨rfl, rfl⟩, gI h1.1 hp, M2⟩) (hs _)⟩)
theorem zG {t : Expr} {xs ys : List Stmt} {c : TC} {a b : SC} {p : Pos} (ht : du C F d t c) (ha : vP C F d n xs a) (hb : vP C F d n ys b) : yc C F d n (.If t xs ys p) (sIf c a b) := fun st =>
 .bnd ((ht st).use fun st1 r h1 => .if2 (fun e => (ha st1).use fun st2 y2 h2 => ⟨h1.1.flags.trans h2.1, fun rm M hq => wpAny_If (h1.2 rm M fun f1 s1 g1 M1 => yP e (h2.2 rm M1 (hq.after M (h1.1.adv g1 M1))))⟩)
  fun e => (hb st1).use fun st2 y2 h2 => ⟨h1.1.flags.trans h2.1, fun rm M hq => wpAny_If (h1.2 rm M fun f1 s1 g1 M1 => vS e (h2.2 rm M1 (hq.after M (h1.1.adv g1 M1))))⟩)
theorem qW {e : Expr} {a : EC} {p : Pos} (ha : qX C F d e a) : yc C F d n (.Return (some e) p) (zL a) := fun st =>
 .bnd ((ha st).use fun st1 v h1 => .pure ⟨h1.1.flags, fun rm M hq => wpAny_Return_some (h1.2 rm M fun f1 s1 u g1 M1 v1 => hq _ _ _ _ _ (h1.1.adv g1 M1) v1)⟩)
theorem wT {p : Pos} : yc C F d n (.Return none p) qFV := fun st => .pure ⟨.refl, fun hr M hq => wpAny_Return_none (hq _ _ _ _ _ (.refl M) rfl)⟩
theorem ur {p : Pos} : yc C F d n (.Break p) qHG := fun st => .pure ⟨.refl, fun hr M hq => wpAny_bind (wpAny_standAt (wpAny_pure (hq _ _ _ _ (.refl M))))⟩
end
section
variable {C : Cx} {F : Fi} {d n : Nat}
theorem qIT {A : Around} {L a : Addr} {cd : Value} {fs : List Addr} {f : FM} {ga : GA} {la : List Addr} {st st' : St} {s : Shared} {Q Q' : Flow → Shared → Prop} {E : Value → Shared → Prop} {c : List Nat} {i : Int}
  (rm : Room d A L fs) (hq : Ends C F.nm n A L fs f ga la st s Q E (.exc c i) st') :
  Ends C F.nm n A L fs f ga la st s Q' (notedBy (model C.prog C.w) A (F.env L a cd) fun e s' => cameBackBy (model C.prog C.w) A (F.env L a cd) E e s') (.exc c i) st' := fun f2 ga2 la2 s2 e y hs ht =>
 qGW rm y.mid ht y.go.ex fun s3 S T3 => hq f2 ga2 la2 s3 e ⟨⟨y.go.fle, y.go.fnew, fun b o e nx => S.kp b o ⟨o, e⟩ (fun q => nx (List.mem_append_left _ q)) (y.go.keep b o e nx), fun b o e => (y.go.ex b o e).elim fun o' e' => S.ex b o' e'⟩, y.fix0, y.fix1, y.fresh, S.mid⟩
  (fun b hb o e => (hs b hb o e).elim fun sl e1 => (S.sl b (.tail _ hb) _ e1).elim fun sl2 e2 => ⟨sl2, e2⟩) T3
theorem Post.wh {t : TC} {b : SC} {k : Nat} {st : St} {P : St → Out → Prop} (hf : ∀ st1, t st = some (false, st1) → P st1 .nxt)
  (hn : ∀ st1 st2 o1, t st = some (true, st1) → b st1 = some (o1, st2) → match o1 with
   | .nxt => Post (jK t b k) st2 P
   | .brk => P st2 .nxt
   | .ret v => P st2 (.ret v)
   | .exc c i => P st2 (.exc c i)) : Post (jK t b (k + 1)) st P := fun st' o e => by
 rw [jK] at e
 cases q : t st with
 | none => rw [q] at e; exact qH e
 | some z =>
  obtain ⟨r, st1⟩ := z
  rw [q] at e
  cases r with
  | false => exact Post.pure (P := P) (hf st1 q) st' o e
  | true =>
   dsimp only at e
   cases q2 : b st1 with
   | none => rw [q2] at e; exact qH e
   | some z =>
    obtain ⟨o1, st2⟩ := z
    rw [q2] at e
    have := hn st1 st2 o1 q q2
    cases o1 with
    | nxt => exact this st' o e
    | _ => exact Post.pure (P := P) this st' o e
theorem Post.zero {t : TC} {b : SC} {st : St} {P : St → Out → Prop} : Post (jK t b 0) st P := fun _ _ e => qH e
theorem qKM {t : Expr} {xs : List Stmt} {c : TC} {b : SC} (ht : du C F d t c) (hb : vP C F d n xs b) : ∀ k st, Post (jK c b k) st fun st' o => flags n st st' ∧ o ≠ .brk
 | 0, st => .zero
 | k + 1, st => .wh (fun st1 e => ⟨(ht _ _ _ e).1.flags, Out.noConfusion⟩) fun st1 st2 o1 e e2 => by
  have fl : flags n st st2 := (ht _ _ _ e).1.flags.trans (hb _ _ _ e2).1
  cases o1 with
  | nxt => exact (qKM ht hb k st2).use fun st' o h => ⟨fl.trans h.1, h.2⟩
  | _ => exact ⟨fl, Out.noConfusion⟩
noncomputable def WI (C : Cx) (nm : List Str) (n : Nat) (c : TC) (b : SC) (A : Around) (L : Addr) (fs : List Addr) (Q : Flow → Shared → Prop) (E : Value → Shared → Prop) (k : Nat) (s : Shared) : Prop :=
 ∃ f ga la st st' o, Mid C nm L fs f ga la st s ∧ jK c b k st = some (o, st') ∧ Ends C nm n A L fs f ga la st s Q E o st'
theorem zy {t : Expr} {xs : List Stmt} {c : TC} {b : SC} {p : Pos} (ht : du C F d t c) (hb : vP C F d n xs b) : yc C F d n (.While t xs [] p) (whileC c b) := fun st st' o hh =>
 (ud _ _ hh).elim fun k hk => ⟨(qKM ht hb k st st' o hk).1, fun {A L a cd fs f ga la s Q E} rm M hq => wpAny_While (codeAny_whileLoop (fun k s' => WI C F.nm n c b A L fs Q E k s') (fun k s1 h => by
  refine hid fun G K => ?_
  obtain ⟨f1, ga1, la1, st1, st2, o2, M1, e, hq1⟩ := h
  cases k with
  | zero => exact qH e
  | succ k =>
   refine Post.wh (P := fun st2 o2 => Ends C F.nm n A L fs f1 ga1 la1 st1 s1 Q E o2 st2 → G) (fun st3 e3 hq1 => K ?_) (fun st3 st4 o1 e3 e4 => ?_) st2 o2 e hq1
   ·exact (ht _ _ _ e3).2 rm M1 fun f2 s2 g2 M2 => vS rfl (wpAny_execs_nil (hq1 _ _ _ _ ((ht _ _ _ e3).1.adv g2 M2)))
   ·have h1 := ht _ _ _ e3
    have h2 := hb _ _ _ e4
    cases o1 with
    | nxt => exact fun st5 o5 e5 hq1 => K <| h1.2 rm M1 fun f2 s2 g2 M2 => yP rfl (h2.2 rm M2 fun f3 ga3 la3 s3 x3 => ⟨k, Nat.lt_succ_self k, f3, ga3, la3, st4, st5, o5, x3.mid, e5, (hq1.after M1 (h1.1.adv g2 M2)).after M2 x3⟩)
    | brk => exact fun hq1 => K <| h1.2 rm M1 fun f2 s2 g2 M2 => yP rfl (h2.2 rm M2 (hq1.after M1 (h1.1.adv g2 M2) : Ends C F.nm n A L fs f2 ga1 la1 st3 s2 Q E .nxt st4))
    | ret v => exact fun hq1 => K <| h1.2 rm M1 fun f2 s2 g2 M2 => yP rfl (h2.2 rm M2 (hq1.after M1 (h1.1.adv g2 M2) : Ends C F.nm n A L fs f2 ga1 la1 st3 s2 Q E (.ret v) st4))
    | exc cc i => exact fun hq1 => K <| h1.2 rm M1 fun f2 s2 g2 M2 => yP rfl (h2.2 rm M2 (qIT rm (hq1.after M1 (h1.1.adv g2 M2))))) k ⟨f, ga, la, st, st', o, M, hk, hq⟩)⟩
end
section
variable {C : Cx} {F : Fi} {d n : Nat}
section
variable {nm : List Str} {L I : Addr} {fs : List Addr} {X : List Addr} {f f' : FM} {ga ga' : GA} {la la' : List Addr} {st st' : St} {s s' s'' : Shared}
structure Off (I : Addr) (nm : List Str) (L : Addr) (fs : List Addr) (f : FM) (ga : GA) (la : List Addr) (st : St) (s : Shared) : Prop where
 f : f I = none
 L : I ≠ L
 m : I ∉ muts ga la st.g
 fs : I ∉ fs
 ex : ∃ o, s.heap.get? I = some o
theorem Off.new (M : Mid C nm L fs f ga la st s) (hI : s.heap.get? I = none) (ho : ∃ o, s'.heap.get? I = some o) : Off I nm L fs f ga la st s' :=
 have no : ∀ {P : Obj → Prop}, (∃ o, s.heap.get? I = some o ∧ P o) → False := fun h => h.elim fun o h => qH (hI.symm.trans h.1)
 ⟨Option.eq_none_iff_forall_ne_some.mpr fun o q => qH (hI.symm.trans (M.fz _ _ q)), fun q => M.hasL.elim fun o e => no (P := fun _ => True) ⟨o, q ▸ e, trivial⟩, fun q => no (yQ M _ q), fun q => no (M.fr _ q).2.2.2, ho⟩
theorem Off.after (O : Off I nm L fs f ga la st s) (x : Adv C nm L fs n (L :: muts ga la st.g) f f' ga ga' la la' st st' s s') : Off I nm L fs f' ga' la' st' s' :=
 O.ex.elim fun o ho => ⟨Option.eq_none_iff_forall_ne_some.mpr fun o' q => qH ((x.go.fnew _ _ q O.f).symm.trans ho), O.L, fun q => (x.fresh _ q).elim O.m fun h => qH (h.symm.trans ho), O.fs, x.go.ex _ _ ho⟩
theorem Off.kept (O : Off I nm L fs f ga la st s) (x : Adv C nm L fs n (L :: muts ga la st.g) f f' ga ga' la la' st st' s s') : ∀ o, s.heap.get? I = some o → s'.heap.get? I = some o := fun o e =>
 x.go.keep _ _ e fun q => (List.mem_cons.mp q).elim O.L O.m
theorem Mid.touch (M : Mid C nm L fs f ga la st s) (O : Off I nm L fs f ga la st s) (k : ∀ b o, b ≠ I → s.heap.get? b = some o → s'.heap.get? b = some o) (ht : 0 < s'.toks) (hg : s'.gens = s.gens) (ho : s'.os = s.os) : Mid C nm L fs f ga la st s' :=
 M.re (fun _ _ e => e) (fun _ _ _ _ e => e) (fun b o e => k b o (fun q => by rw [q, O.f] at e; cases e) (M.fz b o e)) (fun b o h => k b o fun q => h.elim (fun z => O.L (q.symm.trans z)) fun h => h.elim (fun z => O.m (q ▸ z)) fun z => O.fs (q ▸ z)) ht hg ho
theorem Adv.touch (x : Adv C nm L fs n X f f' ga ga' la la' st st' s s') (O : Off I nm L fs f' ga' la' st' s') (hI : s.heap.get? I = none) (k : ∀ b o, b ≠ I → s'.heap.get? b = some o → s''.heap.get? b = some o)
  (ht : 0 < s''.toks) (hg : s''.gens = s'.gens) (ho : s''.os = s'.os) : Adv C nm L fs n X f f' ga ga' la la' st st' s s'' :=
 have nI : ∀ b o, s.heap.get? b = some o → b ≠ I := fun b o e q => qH (hI.symm.trans (q ▸ e))
 ⟨⟨x.go.fle, x.go.fnew, fun b o e nx => k b o (nI b o e) (x.go.keep b o e nx), fun b o e => (x.go.ex b o e).elim fun o' e' => ⟨o', k b o' (nI b o e) e'⟩⟩, x.fix0, x.fix1, x.fresh, x.mid.touch O k ht hg ho⟩
theorem Adv.up0 (x : Adv C nm L fs 0 X f f' ga ga' la la' st st' s s') : Adv C nm L fs n X f f' ga ga' la la' st st' s s' :=
 have := x.fix0 rfl
 ⟨x.go, fun _ => this, fun _ => this ▸ ⟨rfl, rfl⟩, x.fresh, x.mid⟩
theorem Adv.same (x : Adv C nm L fs 0 X f f' ga ga' la la' st st' s s') : Adv C nm L fs 0 X f f' ga ga la la' st st' s s' := (x.fix0 rfl) ▸ x
theorem Ends.up0 {A : Around} {Q : Flow → Shared → Prop} {E : Value → Shared → Prop} {o : Out} (h : Ends C nm n A L fs f ga la st s Q E o st') : Ends C nm 0 A L fs f ga la st s Q E o st' := by
 cases o with
 | nxt => exact fun f2 ga2 la2 s2 y => h f2 ga2 la2 s2 y.up0
 | brk => exact fun f2 ga2 la2 s2 y => h f2 ga2 la2 s2 y.up0
 | ret v => exact fun f2 ga2 la2 s2 u y hv => h f2 ga2 la2 s2 u y.up0 hv
 | exc c i => exact fun f2 ga2 la2 s2 e y hs ht => h f2 ga2 la2 s2 e y.up0 hs ht
end
theorem flags.up0 {a b : St} (h : flags 0 a b) : flags n a b := ⟨fun _ => h.1 rfl, fun _ => h.2.1 (Nat.zero_le _), h.2.2⟩
noncomputable def qWM (C : Cx) (F : Fi) (tgt : Expr) (T : Value → Heap → Prop) (x : PV) (st st1 : St) : Prop :=
 ∀ {A : Around} {L a : Addr} {cd : Value} {fs : List Addr} {f : FM} {ga : GA} {la : List Addr} {s : Shared} {u it : Value} {Q : Unit → Shared → Prop} {E : Value → Shared → Prop}, A.handled = none → Mid C F.nm L fs f ga la st s → VR f ga la x u → T it s.heap →
  (∀ s', Mid C F.nm L fs f ga la st1 s' → Go (L :: muts ga la st.g) f f s s' → Q () s') →
  wpAny (model C.prog C.w) A (letOwnedTupleGo tgt it u) (fun _ s1 => wpAny (model C.prog C.w) A (assign tgt (F.env L a cd) u) Q E s1) E s
noncomputable def Takes (C : Cx) (F : Fi) (tgt : Expr) (T : Value → Heap → Prop) (bindv : PV → St → Option St) : Prop :=
 ∀ (x : PV) (st st1 : St), bindv x st = some st1 → (st1.g = st.g ∧ st1.ls = st.ls ∧ st1.v.length = st.v.length) ∧ qWM C F tgt T x st st1
theorem gN {i : Nat} {x : Str} {p : Pos} (hok : (F.ok && (F.nm[i]? == some x)) = true) : Takes C F (.Name x p) (fun _ _ => True) (za i) := fun v st st1 h =>
 ⟨jW h, fun hh M hv _ hq => wpAny_pure (wpAny_assign_Name (M.put hok hv h fun h' M' g' => hq _ M' g'))⟩
theorem Post.forC {bindv : PV → St → Option St} {b : SC} {x : PV} {r : List PV} {st : St} {P : St → Out → Prop} (h : ∀ st1 st2 o1, bindv x st = some st1 → b st1 = some (o1, st2) → match o1 with
   | .nxt => Post (Mine.forC bindv b r) st2 P
   | .brk => P st2 .nxt
   | .ret v => P st2 (.ret v)
   | .exc c i => P st2 (.exc c i)) : Post (Mine.forC bindv b (x :: r)) st P := fun st' o e => by
 rw [Mine.forC] at e
 cases q : bindv x st with
 | none => rw [q] at e; exact qH e
 | some st1 =>
  rw [q] at e
  dsimp only at e
  cases q2 : b st1 with
  | none => rw [q2] at e; exact qH e
  | some z =>
   obtain ⟨o1, st2⟩ := z
   rw [q2] at e
   have := h st1 st2 o1 q q2
   cases o1 with
   | nxt => exact this st' o e
   | _ => exact Post.pure (P := P) this st' o e
theorem kR {tgt : Expr} {T : Value → Heap → Prop} {bindv : PV → St → Option St} {xs : List Stmt} {b : SC} (ht : Takes C F tgt T bindv) (hb : vP C F d 0 xs b) : ∀ (l : List PV) (st : St), Post (forC bindv b l) st fun st' o => flags 0 st st' ∧ o ≠ .brk
 | [], st => .pure ⟨.refl, Out.noConfusion⟩
 | x :: r, st => .forC fun st1 st2 o1 e e2 => by
  have k := (ht _ _ _ e).1
  have fl : flags 0 st st2 := flags.trans ⟨fun _ => congrArg G.hl k.1, fun _ => congrArg G.hd k.1, k.2.2⟩ (hb _ _ _ e2).1
  cases o1 with
  | nxt => exact (kR ht hb r st2).use fun st' o h => ⟨fl.trans h.1, h.2⟩
  | _ => exact ⟨fl, Out.noConfusion⟩
structure FI (C : Cx) (nm : List Str) (I L : Addr) (fs : List Addr) (f f1 : FM) (ga : GA) (la : List Addr) (st : St) (s : Shared) (bindv : PV → St → Option St) (b : SC) (items : List PV) (St' : Nat → Heap → Prop) (o : Out) (st' : St) (k : Nat) (s' : Shared) (i : Nat) (f2 : FM) (la2 : List Addr) (st2 : St) : Prop where
 hi : i ≤ items.length
 hk : k = items.length + 1 - i
 adv : Adv C nm L fs 0 (L :: muts ga la st.g) f f2 ga ga la la2 st st2 s s'
 off : Off I nm L fs f2 ga la2 st2 s'
 up : ∀ b o, f1 b = some o → f2 b = some o
 st : St' i s'.heap
 run : forC bindv b (items.drop i) st2 = some (o, st')
noncomputable def FIs (C : Cx) (nm : List Str) (A : Around) (I L : Addr) (fs : List Addr) (f f1 : FM) (ga : GA) (la : List Addr) (st : St) (s : Shared) (bindv : PV → St → Option St) (b : SC) (items : List PV) (St' : Nat → Heap → Prop) (Q : Flow → Shared → Prop) (E : Value → Shared → Prop) (k : Nat) (s' : Shared) : Prop :=
 ∃ i f2 la2 st2 o st', FI C nm I L fs f f1 ga la st s bindv b items St' o st' k s' i f2 la2 st2 ∧ Ends C nm 0 A L fs f ga la st s Q E o st'
theorem qCL {A : Around} {L a : Addr} {cd : Value} {fs : List Addr} {f f1 : FM} {ga : GA} {la : List Addr} {st st1 st' : St} {s s1 : Shared} {Q : Flow → Shared → Prop} {E : Value → Shared → Prop} {o : Out}
  {tgt : Expr} {T : Value → Heap → Prop} {bindv : PV → St → Option St} {xs : List Stmt} {b : SC} (ht : Takes C F tgt T bindv) (hb : vP C F d 0 xs b) {I : Addr} {fp : List Addr} {items : List PV} {P : Nat → Value → Prop} {St' : Nat → Heap → Prop}
  (W : Walks C.prog C.w A I fp [I] items.length P St') (hP : ∀ i v x, P i v → items[i]? = some x → x.clean = true ∧ VR f1 ga la x v) (hT : ∀ i h, St' i h → T (.ref I) h) (hfp : ∀ b ∈ fp, b = I ∨ ∃ o, f1 b = some o)
  (hd0 : 0 < d) (rm : Room d A L fs) (x1 : Adv C F.nm L fs 0 (L :: muts ga la st.g) f f1 ga ga la la st st1 s s1) (hI : s.heap.get? I = none) (O : Off I F.nm L fs f1 ga la st1 s1) (hSt : St' 0 s1.heap) (hex : ∀ i h, St' i h → ∃ o, h.get? I = some o)
  (M : Mid C F.nm L fs f ga la st s) (h : forC bindv b items st1 = some (o, st')) (hq : Ends C F.nm n A L fs f ga la st s Q E o st') :
  codeAny (model C.prog C.w) A (.forLoop tgt (.ref I) xs [] (F.env L a cd)) (fun r s' => match r with | .ok f => Q f s' | .error e => cameBackBy (model C.prog C.w) A (F.env L a cd) E e s') s1 := by
 refine codeAny_forLoop_any (FIs C F.nm A I L fs f f1 ga la st s bindv b items St' Q E) (fun k s2 hh => ?_) (items.length + 1) ⟨0, f1, la, st1, o, st', ⟨Nat.zero_le _, rfl, x1, O, fun _ _ e => e, hSt, h⟩, hq.up0⟩
 refine hid fun G K => ?_
 obtain ⟨i, f2, la2, st2, o, st', Y, hq⟩ := hh
 have mI : ∀ {b : Addr}, b ≠ I → b ∉ [I] := fun n q => n (List.mem_singleton.mp q)
 by_cases hlt : i < items.length
 ·have h2 := Y.run
  rw [List.drop_eq_getElem_cons hlt] at h2
  refine K (wpAny_with_toks (Nat.le_refl s2.toks) (W.item i _ _ _ hlt Y.st fun v h3 tk3 hv hS3 hk3 htk => ?_))
  have hv := hP _ _ _ hv (List.getElem?_eq_getElem hlt)
  have x3 := Y.adv.touch (s'' := { s2 with heap := h3, toks := tk3 }) Y.off hI (fun b o hb e => hk3 b o (mI hb) e) (Nat.lt_of_lt_of_le Y.adv.mid.tk htk) rfl rfl
  have O3 : Off I F.nm L fs f2 ga la2 st2 { s2 with heap := h3, toks := tk3 } := ⟨Y.off.f, Y.off.L, Y.off.m, Y.off.fs, hex _ _ hS3⟩
  refine hid fun G K => Post.forC (P := fun st' o => Ends C F.nm 0 A L fs f ga la st s Q E o st' → G) (fun st4 st5 o1 e4 e5 => ?_) st' o h2 hq
  obtain ⟨k4, w4⟩ := ht _ _ _ e4
  have h5 := hb _ _ _ e5
  have w := fun {R : Flow → Shared → Prop} {E' : Value → Shared → Prop} (q : ∀ s4, (Adv C F.nm L fs 0 (L :: muts ga la2 st2.g) f2 f2 ga ga la2 la2 st2 st4 { s2 with heap := h3, toks := tk3 } s4) → Ends C F.nm 0 A L fs f2 ga la2 st4 s4 R E' o1 st5) =>
   w4 (Q := fun _ s4 => wpAny (model C.prog C.w) A (execs xs (F.env L a cd)) R E' s4) (E := E') (a := a) (cd := cd) (rm.handled hd0) x3.mid (VR.clean hv.1 (hv.2.up Y.up)) (hT _ _ hS3) fun s4 M4 g4 => h5.2 rm M4 (q s4 ⟨g4, fun _ => rfl, fun _ => ⟨rfl, rfl⟩, fun b hb => .inl (k4.1 ▸ hb), M4⟩)
  cases o1 with
  | nxt =>
   refine fun st6 o6 e6 hq1 => K <| w fun s4 a4 f5 ga5 la5 s5 x5 => ?_
   have x5 := x5.same
   refine ⟨items.length + 1 - (i + 1), by have := Y.hk; lia, i + 1, f5, la5, st5, o6, st6, ⟨hlt, rfl, (x3.trans a4).trans x5, (O3.after a4).after x5, fun b o e => x5.go.fle b o (Y.up b o e), W.frame _ _ _ hS3 fun b hb' o e => ?_, e6⟩, hq1⟩
   refine (hfp b hb').elim (fun q => ?_) fun q => q.elim fun o' e' => ?_
   ·exact q ▸ (O3.after a4).kept x5 _ (O3.kept a4 _ (q ▸ e))
   ·have e2 := Y.up _ _ e'
    exact Option.some.inj ((x3.mid.fz _ _ e2).symm.trans e) ▸ x5.mid.fz _ _ (x5.go.fle _ _ e2)
  | brk => exact fun hq1 => K <| w fun s4 a4 => ((hq1.after M (x3.trans a4)) : Ends C F.nm 0 A L fs f2 ga la2 st4 s4 Q E .nxt st5)
  | ret v => exact fun hq1 => K <| w fun s4 a4 => ((hq1.after M (x3.trans a4)) : Ends C F.nm 0 A L fs f2 ga la2 st4 s4 Q E (.ret v) st5)
  | exc cc i => exact fun hq1 => K <| w fun s4 a4 => qIT rm (hq1.after M (x3.trans a4))
 ·have hin : i = items.length := Nat.le_antisymm Y.hi (Nat.le_of_not_lt hlt)
  have h2 := Y.run
  rw [hin, List.drop_length] at h2
  refine Post.pure (P := fun st' o => Ends C F.nm 0 A L fs f ga la st s Q E o st' → G) (fun hq1 => K ?_) st' o h2 hq
  exact wpAny_with_toks (Nat.le_refl s2.toks) (W.done _ _ _ (hin ▸ Y.st) fun h3 tk3 hk3 htk => wpAny_execs_nil (hq1 _ _ _ _ (Y.adv.touch (s'' := { s2 with heap := h3, toks := tk3 }) Y.off hI (fun b o hb e => hk3 b o (mI hb) e) (Nat.lt_of_lt_of_le Y.adv.mid.tk htk) rfl rfl)))
end
section
variable {C : Cx} {F : Fi} {d n : Nat}
section
variable {prog : Program} {w : World}
theorem qKL {A : Around} (hh : A.handled = none) (I : Addr) (x : Str) (t : Tok) :
  Walks prog w A I [I] [I] x.cps.size (fun i v => ∃ c tk, x.cps[i]? = some c ∧ v = .str ⟨#[c]⟩ tk) (fun i h => h.IsStrIter I "str_ascii_iterator" x t i) where
 sub := fun _ hb => hb
 frame := fun _ _ _ st hk => let ⟨o, e, r⟩ := st; ⟨o, hk I (by simp) o e, r⟩
 item := fun i s Q E hi st hQ => by
  refine wpAny_pyNext_ascii_item st (c := x.cps[i]) (by simp [hi]) fun h' hit' hs' => ?_
  exact hQ _ h' _ ⟨_, _, by simp [hi], rfl⟩ hit' fun b o hb e => hs'.extBut b o (fun h => hb (by simp [h])) e
 done := fun s Q E st hQ => wpAny_pyNext_ascii_end hh st (by simp) fun h' he' => hQ h' s.toks fun b o hb e => he' b o (fun h => hb (by simp [h])) e
 self := fun _ s Q E st hQ => by
  have hT := st.typeIs
  refine wpAny_pyIter_slot hT F.slot_str_ascii_iterator_iter (wpAny_call_entry F.slot_str_ascii_iterator_iter hT F.entry_str_ascii_iterator_iter ?_ (F.args_str_ascii_iterator_iter_1 _))
  show wpAny _ _ (ret (.ref I)) _ _ s
  exact wpAny_pure ⟨_, rfl, "str_ascii_iterator", _, hT, F.slot_str_ascii_iterator_next.lookup, hQ⟩
theorem qMF {A : Around} (hh : A.handled = none) (I : Addr) (x : Str) (t : Tok) :
  Walks prog w A I [I] [I] x.cps.size (fun i v => ∃ c tk, x.cps[i]? = some c ∧ v = .str ⟨#[c]⟩ tk) (fun i h => h.IsStrIter I "str_iterator" x t i) where
 sub := fun _ hb => hb
 frame := fun _ _ _ st hk => let ⟨o, e, r⟩ := st; ⟨o, hk I (by simp) o e, r⟩
 item := fun i s Q E hi st hQ => by
  refine wpAny_pyNext_wide_item st (c := x.cps[i]) (by simp [hi]) fun h' hit' hs' => ?_
  exact hQ _ h' _ ⟨_, _, by simp [hi], rfl⟩ hit' fun b o hb e => hs'.extBut b o (fun h => hb (by simp [h])) e
 done := fun s Q E st hQ => wpAny_pyNext_wide_end hh st (by simp) fun h' he' => hQ h' s.toks fun b o hb e => he' b o (fun h => hb (by simp [h])) e
 self := fun _ s Q E st hQ => by
  have hT := st.typeIs
  refine wpAny_pyIter_slot hT F.slot_str_iterator_iter (wpAny_call_entry F.slot_str_iterator_iter hT F.entry_str_iterator_iter ?_ (F.args_str_iterator_iter_1 _))
  show wpAny _ _ (ret (.ref I)) _ _ s
  exact wpAny_pure ⟨_, rfl, "str_iterator", _, hT, F.slot_str_iterator_next.lookup, hQ⟩
end
theorem Adv.push {nm : List Str} {L : Addr} {fs : List Addr} {f : FM} {ga : GA} {la : List Addr} {st : St} {s : Shared} {X : List Addr} {o : Obj} {tk : Nat} (M : Mid C nm L fs f ga la st s) (htk : 0 < tk) : Adv C nm L fs n X f f ga ga la la st st s { s with heap := s.heap.push o, toks := tk } :=
 have k : ∀ b o', s.heap.get? b = some o' → (s.heap.push o).get? b = some o' := fun b o' e => Heap.get?_push_of_some _ e
 ⟨⟨fun _ _ e => e, fun _ _ e n => qH (n.symm.trans e), fun b o e _ => k b o e, fun b o e => ⟨o, k b o e⟩⟩, fun _ => rfl, fun _ => ⟨rfl, rfl⟩, fun b h => .inl h, M.same k htk rfl rfl⟩
theorem Heap.get?_size {h : Heap} : h.get? h.objs.size = none := wp h
theorem Go.new {X : List Addr} {f f' : FM} {s s' : Shared} {b : Addr} (g : Go X f f' s s') (h : s'.heap.get? b = none) : s.heap.get? b = none := Option.eq_none_iff_forall_ne_some.mpr fun o q => (g.ex _ _ q).elim fun o' e' => qH (h.symm.trans e')
theorem Post.of {α : Type} {c : St → Option (α × St)} {st : St} {P : St → α → Prop} (h : ∀ st' x, c st = some (x, st') → P st' x) : Post c st P := h
theorem Post.str {α : Type} {v : PV} {st : St} {P : St → α → Prop} {a : List Nat → St → Option (α × St)} (h : ∀ s, v = .str s → Post (a s) st P) : Post (fun st => match v with
  | .str s => a s st
  | _ => none) st P := fun st' x e => by
 cases v with
 | str s => exact h s rfl st' x e
 | _ => exact qH e
theorem qO6 {f : FM} {ga : GA} {la : List Addr} {s0 : List Nat} (i : Nat) (v : Value) (x : PV) (h : ∃ c tk, (⟨s0.toArray⟩ : Str).cps[i]? = some c ∧ v = .str ⟨#[c]⟩ tk) (h2 : (s0.map fun c => PV.str [c])[i]? = some x) : x.clean = true ∧ VR f ga la x v :=
 h.elim fun c h => h.elim fun tk h => by
  rw [List.getElem?_map, show s0[i]? = some c by simpa using h.1] at h2
  exact Option.some.inj h2 ▸ h.2 ▸ ⟨rfl, .str' (show [c].length ≤ line from (by decide : 1 ≤ line))⟩
theorem qIN {i : Nat} {x : Str} {e : Expr} {a : EC} {xs : List Stmt} {b : SC} {xp p : Pos} (hok : (F.ok && (F.nm[i]? == some x)) = true) (he : qX C F d e a) (hb : vP C F d 0 xs b)
  (hs : ∀ (env : Env) x, foldedSetIterable e env x = pure x := by exact fsR) (hd0 : 0 < d := by decide) : yc C F d n (.For (.Name x xp) e xs [] p) (qHH i a b) := fun st =>
 .bnd ((he st).use fun st1 v h1 => .str fun s0 ev => .of fun st' o h2 => ⟨h1.1.flags.trans (kR (gN (p := xp) hok) hb _ _ _ _ h2).1.up0, fun {A L c cd fs f ga la s Q E} rm M hq => wpAny_For (h1.2 rm M fun f1 s1 u g1 M1 v1 => by
  obtain ⟨hl, t, rfl⟩ := (ev ▸ v1 : VR f1 ga la (.str s0) u)
  have len : (s0.map fun c => PV.str [c]).length = (⟨s0.toArray⟩ : Str).cps.size := List.length_map _
  have x1 : Adv C F.nm L fs 0 (L :: muts ga la st.g) f f1 ga ga la la st st1 s s1 := h1.1.adv g1 M1
  have fin := fun {ob : Obj} {St' : Nat → Heap → Prop} (hob : ob.isFreed = false) W hS hex => qCL (xs := xs) (a := c) (cd := cd) (Q := Q) (E := E) (St' := St') (P := fun i v => ∃ c tk, (⟨s0.toArray⟩ : Str).cps[i]? = some c ∧ v = .str ⟨#[c]⟩ tk) (gN (p := xp) hok) hb (len ▸ W) (qO6 (f := f1) (ga := ga) (la := la)) (fun _ _ _ => trivial) (fun b hb => .inl (List.mem_singleton.mp hb)) hd0 rm
   (x1.trans (Adv.push (n := 0) (o := ob) M1 M1.tk)) (g1.new Heap.get?_size) (Off.new M1 Heap.get?_size ⟨ob, Heap.get?_push_size _ hob⟩) hS hex M h2 hq
  cases hA : (⟨s0.toArray⟩ : Str).cps.all (· < 128) with
  | false => exact wpAny_pyIter_wide hA (fin rfl (qMF (rm.handled hd0) s1.heap.objs.size ⟨s0.toArray⟩ t) ⟨_, Heap.get?_push_size _ rfl, rfl, rfl⟩ fun i h x => x.elim fun o x => ⟨o, x.1⟩)
  | true => exact wpAny_pyIter_ascii hA (fin rfl (qKL (rm.handled hd0) s1.heap.objs.size ⟨s0.toArray⟩ t) ⟨_, Heap.get?_push_size _ rfl, rfl, rfl⟩ fun i h x => x.elim fun o x => ⟨o, x.1⟩)) (hs _)⟩)
theorem uJ : ∀ {l : List PV} {i : Nat} {x : PV}, PV.cleans l = true → l[i]? = some x → x.clean = true
 | [], _, _, _, e => qH e
 | y :: r, 0, x, h, e => Option.some.inj e ▸ (Bool.and_eq_true_iff.mp h).1
 | y :: r, i + 1, x, h, e => uJ (Bool.and_eq_true_iff.mp h).2 e
theorem Post.flc {v : PV} {st : St} {P : St → Out → Prop} {bindv : PV → St → Option St} {b : SC} (h : ∀ l, v = .fl l → PV.cleans l = true → Post (Mine.forC bindv b l) st P) : Post (fun st => match v with
  | .fl l => if PV.cleans l then Mine.forC bindv b l st else none
  | _ => none) st P := fun st' x e => by
 cases v with
 | fl s =>
  cases q : PV.cleans s with
  | true => exact h s rfl q st' x ((if_pos q).symm.trans e)
  | false => exact qH ((if_neg (by rw [q]; exact Bool.false_ne_true)).symm.trans e)
 | _ => exact qH e
theorem qI4 {tgt : Expr} {bindv : PV → St → Option St} {e : Expr} {a : EC} {xs : List Stmt} {b : SC} {p : Pos} (ht : Takes C F tgt (fun it h => ∃ I l i, it = .ref I ∧ h.IsListIter I l i) bindv) (he : qX C F d e a) (hb : vP C F d 0 xs b)
  (hs : ∀ (env : Env) x, foldedSetIterable e env x = pure x) (hd0 : 0 < d) : yc C F d n (.For tgt e xs [] p) (bnd a fun v st => match v with
 | .fl l => if PV.cleans l then forC bindv b l st else none
 | _ => none) := fun st =>
 .bnd ((he st).use fun st1 v h1 => .flc fun l ev hc => .of fun st' o h2 => ⟨h1.1.flags.trans (kR ht hb _ _ _ _ h2).1.up0, fun {A L c cd fs f ga la s Q E} rm M hq => wpAny_For (h1.2 rm M fun f1 s1 u g1 M1 v1 =>
  (ev ▸ v1 : VR f1 ga la (.fl l) u).flE (P := fun _ u => wpAny (model C.prog C.w) A (pyIter u) _ _ s1) fun ax vs hl he hv => by
   have hls := qJI he M1.fz
   have x2 := (h1.1.adv g1 M1 : Adv C F.nm L fs 0 (L :: muts ga la st.g) f f1 ga ga la la st st1 s s1).trans (Adv.push (n := 0) (o := { cls := .type "list_iterator", data := .fields #[.ref ax, .int 0 0] }) M1 M1.tk)
   have len : vs.toArray.size = l.length := hv.length
   have hax : ∃ o, f1 ax = some o := he.elim fun o x => x.elim fun n x => ⟨o, x.1⟩
   exact wpAny_pyIter_list hls (qCL (P := fun i v => vs.toArray[i]? = some v) (St' := fun i h => h.IsListIter s1.heap.objs.size ax i ∧ h.IsList ax vs.toArray) ht hb (len ▸ Walks.list (rm.handled hd0) s1.heap.objs.size ax (hax.elim fun o e1 => Nat.ne_of_lt (Heap.lt_size (M1.fz _ _ e1))) vs.toArray)
    (fun i v x h3 h4 => ⟨uJ hc h4, (hv.get h4).elim fun u h5 => Option.some.inj (h5.1.symm.trans (show vs[i]? = some v by simpa using h3)) ▸ h5.2⟩) (fun i h x => ⟨_, ax, i, rfl, x.1⟩)
    (fun b hb => (List.mem_cons.mp hb).imp id fun hb => List.mem_singleton.mp hb ▸ hax) hd0 rm x2 (g1.new Heap.get?_size) (Off.new M1 Heap.get?_size ⟨_, Heap.get?_push_size _ rfl⟩) ⟨⟨_, Heap.get?_push_size _ rfl, rfl, rfl⟩, hls.push _⟩ (fun i h x => x.1.elim fun o x => ⟨o, x.1⟩) M h2 hq)) (hs _)⟩)
theorem Takes.any {tgt : Expr} {T : Value → Heap → Prop} {bindv : PV → St → Option St} (h : Takes C F tgt (fun _ _ => True) bindv) : Takes C F tgt T bindv := fun x st st1 e => ⟨(h x st st1 e).1, fun hh M hv _ hq => (h x st st1 e).2 hh M hv trivial hq⟩
theorem qGF {i : Nat} {x : Str} {e : Expr} {a : EC} {xs : List Stmt} {b : SC} {xp p : Pos} (hok : (F.ok && (F.nm[i]? == some x)) = true) (he : qX C F d e a) (hb : vP C F d 0 xs b)
  (hs : ∀ (env : Env) x, foldedSetIterable e env x = pure x := by exact fsR) (hd0 : 0 < d := by decide) : yc C F d n (.For (.Name x xp) e xs [] p) (dT i a b) := qI4 (gN hok).any he hb hs hd0
theorem Post.rng {v : PV} {st : St} {P : St → Out → Prop} {bindv : PV → St → Option St} {b : SC} (h : ∀ m, v = .int m → 0 ≤ m → m ≤ line → Post (Mine.forC bindv b (jX m)) st P) : Post (fun st => match v with
  | .int m => if 0 ≤ m ∧ m ≤ line then Mine.forC bindv b (jX m) st else none
  | _ => none) st P := fun st' x e => by
 cases v with
 | int m =>
  by_cases q : 0 ≤ m ∧ m ≤ line
  ·exact h m rfl q.1 q.2 st' x ((if_pos q).symm.trans e)
  ·exact qH ((if_neg q).symm.trans e)
 | _ => exact qH e
theorem qO0 {f : FM} {ga : GA} {la : List Addr} {m : Int} (i : Nat) (v : Value) (x : PV) (h : ∃ tk, v = .int (0 + (i : Int) * 1) tk) (h4 : (jX m)[i]? = some x) : x.clean = true ∧ VR f ga la x v := by
 unfold jX at h4
 rw [List.getElem?_map] at h4
 exact (Option.map_eq_some_iff.mp h4).elim fun j hj => hj.2 ▸ ⟨rfl, h.elim fun tk h => ⟨tk, by rw [h, (List.getElem?_eq_some_iff.mp hj.1).elim fun h e => (List.getElem_range h).symm.trans e, Int.zero_add, Int.mul_one]⟩⟩
theorem gq (W : Glo C) {i : Nat} {x : Str} {e : Expr} {a : EC} {xs : List Stmt} {b : SC} {xp fp cp p : Pos} (hok : (F.ok && (F.nm[i]? == some x)) = true) (hk : F.glob "range" = true) (he : qX C F d e a) (hb : vP C F d 0 xs b) (hst : noStar [e] = true := by exact ttR)
  (hs : ∀ (env : Env) x, foldedSetIterable (.Call (.Name "range" fp) [e] [] cp) env x = pure x := by exact fsR) (hd0 : 0 < d := by decide) : yc C F d n (.For (.Name x xp) (.Call (.Name "range" fp) [e] [] cp) xs [] p) (j4 i a b) := fun st =>
 .bnd fun st1 v e1 => .rng fun m ev hm1 hm2 => .of fun st' o h2 => by
  have h1 := (qA he qR hst).2 st st1 [v] (by show bnd a _ st = _; unfold bnd; rw [e1]; rfl)
  refine ⟨h1.1.flags.trans (kR (gN (p := xp) hok) hb _ _ _ _ h2).1.up0, fun {A L c cd fs f ga la s Q E} rm M hq => ?_⟩
  refine wpAny_For (wpAny_Call_Name_kw (qEW W hk M (W.noname _ (.tail _ (.tail _ (.tail _ (.tail _ (.head _)))))) (by decide) boot_range ?_)) (hs _)
  refine PyProof.Rows.callWith_type (zp _ _ hst).2 (jN (zp _ _ hst).2 (h1.2.2 rm M fun f1 s1 us g1 M1 v1 => ?_))
  refine v1.on1 (k := fun v => some v) (v := v) (P := fun us => wpAny (model C.prog C.w) A (call (.type "range") us) _ _ s1) rfl fun y u v1 hy => ?_
  obtain ⟨t, rfl⟩ := ((Option.some.inj hy).trans ev ▸ v1 : VR f1 ga la (.int m) u)
  refine call_range_1 ?_
  have hr := IsRange.new s1.heap 0 m 1 s1.toks t (s1.toks + 1)
  have hm3 : (m.toNat : Int) = m := Int.toNat_of_nonneg hm1
  have hsz : Builtin.Range.rangeSize 0 m 1 = (m.toNat : Int) := by rw [rangeSize_nat]; simp
  have hsmall : Builtin.Range.small 0 m 1 = true := small_one (by decide) (by decide) (by lia) (by unfold line at hm2; lia)
  refine wpAny_pyIter_range hr hsmall ?_
  have x2 := (h1.1.adv g1 M1 : Adv C F.nm L fs 0 (L :: muts ga la st.g) f f1 ga ga la la st st1 s s1).trans (Adv.push (n := 0) (o := { cls := .type "range", data := .fields #[.int 0 s1.toks, .int m t, .int 1 (s1.toks + 1)] }) (tk := s1.toks + 1 + 1) M1 (Nat.succ_pos _))
  have M2 := x2.mid
  have len : (jX m).length = m.toNat := by simp [jX]
  refine qCL (gN (p := xp) hok) hb (len ▸ Walks.range (rm.handled hd0) _ 0 1 m.toNat) qO0 (fun _ _ _ => trivial) (fun b hb => .inl (List.mem_singleton.mp hb)) hd0 rm
   (x2.trans (Adv.push (n := 0) (o := { cls := .type "range_iterator", data := .fields #[rawInt 0, rawInt (Builtin.Range.rangeSize 0 m 1), rawInt 1] }) M2 M2.tk)) (x2.go.new Heap.get?_size) (Off.new M2 Heap.get?_size ⟨_, Heap.get?_push_size _ rfl⟩) ?_ (fun i h e => ⟨_, e⟩) M h2 hq
  have := Heap.get?_push_size (s1.heap.push { cls := .type "range", data := .fields #[.int 0 s1.toks, .int m t, .int 1 (s1.toks + 1)] }) (o := { cls := .type "range_iterator", data := .fields #[rawInt 0, rawInt (Builtin.Range.rangeSize 0 m 1), rawInt 1] }) rfl
  show IsRangeIter _ _ _ _ _
  rw [show ((0 : Int) + ((0 : Nat) : Int) * 1) = 0 from rfl, show (((jX m).length : Nat) : Int) - ((0 : Nat) : Int) = Builtin.Range.rangeSize 0 m 1 by rw [len, hsz]; exact Int.sub_zero _]
  exact this
end
section
variable {C : Cx} {F : Fi} {d n : Nat}
noncomputable def qQ6 (F : Fi) (i : Nat) (e : Expr) : Bool := match e with
 | .Name x _ => F.nm[i]? == some x
 | _ => false
theorem qAU {i : Nat} {e : Expr} {P : Expr → Prop} (h : qQ6 F i e = true) (K : ∀ x p, F.nm[i]? = some x → P (.Name x p)) : P e := by
 cases e with
 | Name x p => exact K x p (beq_iff_eq.mp h)
 | _ => exact Bool.noConfusion h
noncomputable def vc (F : Fi) : List Nat → List Expr → Bool
 | [], [] => true
 | i :: is, e :: es => qQ6 F i e && vc F is es
 | [], _ :: _ => false
 | _ :: _, [] => false
theorem qFN : ∀ {is : List Nat} {es : List Expr} {env : Env}, vc F is es = true → (assignEach es env).findIdx? (·.1) = none ∧ (assignEach es env).length = is.length
 | [], [], _, _ => ⟨rfl, rfl⟩
 | [], _ :: _, _, h => Bool.noConfusion h
 | _ :: _, [], _, h => Bool.noConfusion h
 | i :: is, e :: es, env, h => qAU (P := fun e => (assignEach (e :: es) env).findIdx? (·.1) = none ∧ (assignEach (e :: es) env).length = (i :: is).length) (Bool.and_eq_true_iff.mp h).1 fun x p _ =>
  have q := qFN (env := env) (Bool.and_eq_true_iff.mp h).2
  have e1 : assignEach (.Name x p :: es) env = (false, assign (.Name x p) env) :: assignEach es env := rfl
  e1 ▸ ⟨by rw [List.findIdx?_cons, if_neg (by simp), q.1]; rfl, congrArg Nat.succ q.2⟩
theorem qDG {i : Nat} {is : List Nat} {v : PV} {vs : List PV} {st st1 : St} (h : yd (i :: is) (v :: vs) st = some st1) : ∃ st2, za i v st = some st2 ∧ yd is vs st2 = some st1 := by
 rw [yd] at h
 cases q : za i v st with
 | none => rw [q] at h; exact qH h
 | some st2 => rw [q] at h; exact ⟨st2, rfl, h⟩
theorem dm : ∀ {is : List Nat} {l : List PV} {st st1 : St}, yd is l st = some st1 → is.length = l.length ∧ st1.g = st.g ∧ st1.ls = st.ls ∧ st1.v.length = st.v.length
 | [], [], _, _, h => Option.some.inj h ▸ ⟨rfl, rfl, rfl, rfl⟩
 | [], _ :: _, _, _, h => qH h
 | _ :: _, [], _, _, h => qH h
 | i :: is, v :: vs, st, st1, h => (qDG h).elim fun st2 e => have q := dm e.2; have r := jW e.1; ⟨congrArg Nat.succ q.1, q.2.1.trans r.1, q.2.2.1.trans r.2.1, q.2.2.2.trans r.2.2⟩
theorem qFR {A : Around} {L a : Addr} {cd : Value} {fs : List Addr} {f : FM} {ga : GA} {la : List Addr} (hF : F.ok = true) : ∀ {is : List Nat} {es : List Expr} {l : List PV} {us : List Value} {st st1 : St} {s : Shared} {Q : Unit → Shared → Prop} {E : Value → Shared → Prop},
  vc F is es = true → yd is l st = some st1 → VRs f ga la l us → Mid C F.nm L fs f ga la st s → (∀ s', Mid C F.nm L fs f ga la st1 s' → Go (L :: muts ga la st.g) f f s s' → Q () s') →
  wpAny (model C.prog C.w) A (assignInOrder ((assignEach es (F.env L a cd)).map (·.2)) us) Q E s
 | [], [], [], us, st, st1, s, Q, E, h, hp, hv, M, hq => wpAny_pure (hq _ (Option.some.inj hp ▸ M) .refl)
 | [], [], _ :: _, _, _, _, _, _, _, _, hp, _, _, _ => qH hp
 | [], _ :: _, _, _, _, _, _, _, _, h, _, _, _, _ => Bool.noConfusion h
 | _ :: _, [], _, _, _, _, _, _, _, h, _, _, _, _ => Bool.noConfusion h
 | _ :: _, _ :: _, [], _, _, _, _, _, _, _, hp, _, _, _ => qH hp
 | i :: is, e :: es, v :: vs, us, st, st1, s, Q, E, h, hp, hv, M, hq => qAU (P := fun e => wpAny (model C.prog C.w) A (assignInOrder ((assignEach (e :: es) (F.env L a cd)).map (·.2)) us) Q E s) (Bool.and_eq_true_iff.mp h).1 fun x p hx =>
  (qDG hp).elim fun st2 e2 => hv.consE (P := fun us => wpAny (model C.prog C.w) A (assignInOrder ((assignEach (.Name x p :: es) (F.env L a cd)).map (·.2)) us) Q E s) fun u us' v1 v2 =>
   wpAny_bind (wpAny_holding (wpAny_assign_Name (M.put (Bool.and_eq_true_iff.mpr ⟨hF, beq_iff_eq.mpr hx⟩) v1 e2.1 fun h' M' g' =>
    qFR hF (Bool.and_eq_true_iff.mp h).2 e2.2 v2 M' fun s3 M3 g3 => hq _ M3 (g'.trans' ((jW e2.1).1 ▸ g3)))))
theorem qFS {A : Around} {L a : Addr} {cd : Value} {fs : List Addr} {f : FM} {ga : GA} {la : List Addr} {is : List Nat} {es : List Expr} {k : Nat} {p : Pos} {l : List PV} {u : Value} {st st1 : St} {s : Shared} {Q : Unit → Shared → Prop} {E : Value → Shared → Prop}
  (hok : (F.ok && vc F is es) = true) (hh : A.handled = none) (hp : yd is l st = some st1) (hv : VR f ga la (.tup l) u) (M : Mid C F.nm L fs f ga la st s) (hq : ∀ s', Mid C F.nm L fs f ga la st1 s' → Go (L :: muts ga la st.g) f f s s' → Q () s') :
  wpAny (model C.prog C.w) A (assign (.Tuple es k p) (F.env L a cd) u) Q E s := by
 unfold VR at hv
 obtain ⟨t, vs, rfl, e, hvs⟩ := hv
 have h := Bool.and_eq_true_iff.mp hok
 have c := qFN (env := F.env L a cd) h.2
 have hls : s.heap.IsTuple t vs.toArray := e.elim fun o x => x.elim fun m x => ⟨o, M.fz _ _ x.1, x.2.1, m, x.2.2⟩
 refine wpAny_assign_Tuple hh hls (by rw [c.2, (dm hp).1, List.size_toArray, hvs.length]) c.1 fun h' x' => ?_
 have k' : ∀ b o, s.heap.get? b = some o → h'.get? b = some o := fun b o e => x' b o (Nat.ne_of_lt (Heap.lt_size e)) e
 exact qFR h.1 h.2 hp hvs (M.same (s' := { s with heap := h' }) k' M.tk rfl rfl) fun s3 M3 g3 => hq _ M3 (Go.trans' ⟨fun _ _ e => e, fun _ _ e n => qH (n.symm.trans e), fun b o e _ => k' b o e, fun b o e => ⟨o, k' b o e⟩⟩ g3)
theorem qKF {is : List Nat} {es : List Expr} {k : Nat} {p : Pos} (hok : (F.ok && vc F is es) = true) : Takes C F (.Tuple es k p) (fun it h => ∃ I l i, it = .ref I ∧ h.IsListIter I l i) (unp is) := fun x st st1 h => by
 cases x with
 | tup l =>
  refine ⟨(dm h).2, fun {A L a cd fs f ga la s u it Q E} hh M hv hT hq => hT.elim fun I y => y.elim fun ax y => y.elim fun i y => ?_⟩
  have hv' := hv
  unfold VR at hv'
  obtain ⟨t, vs, rfl, _⟩ := hv'
  exact y.1 ▸ wpAny_letOwnedTupleGo_listiter y.2 (qFS hok hh h hv M hq)
 | _ => exact qH h
theorem ky {is : List Nat} {es : List Expr} {k : Nat} {tp : Pos} {e : Expr} {a : EC} {xs : List Stmt} {b : SC} {p : Pos} (hok : (F.ok && vc F is es) = true) (he : qX C F d e a) (hb : vP C F d 0 xs b)
  (hs : ∀ (env : Env) x, foldedSetIterable e env x = pure x := by exact fsR) (hd0 : 0 < d := by decide) : yc C F d n (.For (.Tuple es k tp) e xs [] p) (y8 is a b) := qI4 (qKF hok) he hb hs hd0
theorem Post.unp {v : PV} {is : List Nat} {st : St} {P : St → Out → Prop} (h : ∀ l st2, v = .tup l → yd is l st = some st2 → P st2 .nxt) : Post (fun st => match v with
  | .tup l => (match yd is l st with
   | some st' => some (.nxt, st')
   | none => none)
  | _ => none) st P := fun st' o e => by
 cases v with
 | tup l =>
  dsimp only at e
  cases q : yd is l st with
  | none => rw [q] at e; exact qH e
  | some z => rw [q] at e; exact Post.pure (P := P) (h l z rfl q) st' o e
 | _ => exact qH e
theorem jL {is : List Nat} {es : List Expr} {k : Nat} {tp : Pos} {e : Expr} {a : EC} {p : Pos} (hok : (F.ok && vc F is es) = true) (ha : qX C F d e a)
  (hs : ∀ env : Env, swapsWithSole [.Tuple es k tp] e p.line env = pure false := by exact swR) (hw : ∀ env : Env, swappedStores [.Tuple es k tp] e env = pure none := by exact suR) (hd0 : 0 < d := by decide) : yc C F d n (.Assign [.Tuple es k tp] e p) (zz is a) := fun st =>
 .bnd ((ha st).use fun st1 v h1 => .unp fun l st2 ev hp => have q := (dm hp).2; ⟨h1.1.flags.trans ⟨fun _ => congrArg G.hl q.1, fun _ => congrArg G.hd q.1, q.2.2⟩, fun rm M hq => Assign_Tuple (h1.2 rm M fun f1 s1 u g1 M1 v1 => qFS hok (rm.handled hd0) hp (ev ▸ v1) M1 fun s2 M2 g2 =>
  hq _ _ _ _ ⟨g1.trans' (h1.1.muts _ _ ▸ g2), fun _ => rfl, fun _ => ⟨rfl, rfl⟩, fun b hb => .inl (h1.1.muts _ _ ▸ q.1 ▸ hb), M2⟩) (hs _) (hw _)⟩)
theorem qFJ {ga : GA} {la : List Addr} {g : G} {a : Addr} : muts ga (la ++ [a]) g = muts ga la g ++ [a] := by unfold muts; simp [List.append_assoc]
theorem wC {ga : GA} {la : List Addr} {g : G} {a b : Addr} {P : Prop} (h : b ∈ muts ga (la ++ [a]) g) (h1 : b ∈ muts ga la g → P) (h2 : b = a → P) : P := (List.mem_append.mp (qFJ ▸ h)).elim h1 fun q => h2 (List.mem_singleton.mp q)
theorem qCR {α : Type} {l : List α} {x y : α} {i : Nat} {P : Prop} (h : (l ++ [x])[i]? = some y) (h1 : l[i]? = some y → P) (h2 : i = l.length → x = y → P) : P := by
 rcases Nat.lt_or_ge i l.length with hi | hi
 ·exact h1 ((List.getElem?_append_left hi).symm.trans h)
 ·have h := (List.getElem?_append_right hi).symm.trans h
  cases q : i - l.length with
  | zero => rw [q] at h; exact h2 (Nat.le_antisymm (Nat.le_of_sub_eq_zero q) hi) (Option.some.inj h)
  | succ j => rw [q] at h; exact qH h
noncomputable def qLS : Obj := { cls := .type "list", data := .seq ([] : List Value).toArray }
theorem Mid.newL {nm : List Str} {L : Addr} {fs : List Addr} {f : FM} {ga : GA} {la : List Addr} {st : St} {s : Shared} (M : Mid C nm L fs f ga la st s) :
  Mid C nm L fs f ga (la ++ [s.heap.objs.size]) { st with ls := st.ls ++ [[]] } { s with heap := s.heap.push qLS } :=
 have k : ∀ b o', s.heap.get? b = some o' → (s.heap.push qLS).get? b = some o' := fun b o' e => Heap.get?_push_of_some _ e
 have nz : ∀ b, (∃ o, s.heap.get? b = some o) → b ≠ s.heap.objs.size := fun b h => h.elim fun o e => Nat.ne_of_lt (Heap.lt_size e)
 {
  base := M.base
  fz := fun b o e => k b o (M.fz b o e)
  tk := M.tk
  gens := M.gens
  os := M.os
  lenv := M.lenv
  loc := M.loc.elim fun m x => ⟨m, ju x.1 fun o e => k _ o e, fun i y v e1 e2 => (x.2 i y v e1 e2).elim fun u z => ⟨u, z.1, z.2.mono (fun _ _ e => e) ⟨_, rfl⟩⟩⟩
  freshL := M.freshL
  mutF := fun b hb => wC hb (M.mutF b) fun q => q ▸ ⟨jb M, fun z => nz L M.hasL z.symm⟩
  nodup := by
   rw [qFJ]
   exact List.nodup_append.mpr ⟨M.nodup, List.pairwise_singleton .., fun x hx y hy => List.mem_singleton.mp hy ▸ nz _ (yn M _ hx)⟩
  len := by rw [List.length_append, List.length_append, M.len]; rfl
  ls := fun i b l e1 e2 => qCR e2 (fun e2 => qCR e1 (fun e1 => (M.ls i b l e1 e2).keeps (fun _ _ e => e) fun o e => k _ o e) fun q => absurd (List.getElem?_eq_some_iff.mp e2).1 (by rw [q, M.len]; exact Nat.lt_irrefl _))
   fun q z => qCR e1 (fun e1 => absurd (List.getElem?_eq_some_iff.mp e1).1 (by rw [q, M.len]; exact Nat.lt_irrefl _)) fun _ w => w ▸ z ▸ ⟨Nat.zero_le _, rfl, [], ⟨_, 0, Heap.get?_push_size _ rfl, rfl, rfl, rfl⟩, .nil'⟩
  dg := fun h => ⟨(M.dg h).1, (M.dg h).2.keeps (fun _ _ e => e) fun o e => k _ o e⟩
  lx := fun h => ⟨(M.lx h).1, (M.lx h).2.1, (M.lx h).2.2.1.keeps fun o e => k _ o e, (M.lx h).2.2.2.keeps (fun _ _ e => e) fun o e => k _ o e⟩
  exc := M.exc
  fr := fun b hb => ⟨(M.fr b hb).1, (M.fr b hb).2.1, fun q => wC q (M.fr b hb).2.2.1 (nz b ((M.fr b hb).2.2.2.elim fun o x => ⟨o, x.1⟩)), (M.fr b hb).2.2.2.elim fun o x => ⟨o, k _ _ x.1, x.2⟩⟩ }
theorem Post.newL {i : Nat} {st : St} {P : St → Out → Prop} (h : ∀ st2, za i (.lst (.loc st.ls.length)) st = some st2 → P { st2 with ls := st.ls ++ [[]] } .nxt) : Post (kF i) st P := fun st' o e => by
 unfold kF at e
 cases q : za i (.lst (.loc st.ls.length)) st with
 | none => rw [q] at e; exact qH e
 | some z => rw [q] at e; exact Post.pure (P := P) (h z q) st' o e
theorem yT {i : Nat} {x : Str} {lp xp p : Pos} (hok : (F.ok && (F.nm[i]? == some x)) = true) : yc C F d n (.Assign [.Name x xp] (.List [] lp) p) (kF i) := fun st =>
 .newL fun st2 hp => ⟨⟨fun _ => congrArg G.hl (jW hp).1, fun _ => congrArg G.hd (jW hp).1, (jW hp).2.2⟩, fun {A L c cd fs f ga la s Q E} rm M hq => wpAny_Assign_Name (PyProof.Rows.List_ (spliced_nil (wpAny_newObj_type (by
  have hv : VR f ga (la ++ [s.heap.objs.size]) (.lst (.loc st.ls.length)) (.ref s.heap.objs.size) := ⟨_, rfl, M.len ▸ List.getElem?_concat_length ..⟩
  have hp2 := qb hp
  have hp' : za i (.lst (.loc st.ls.length)) { st with ls := st.ls ++ [[]] } = some { st2 with ls := st.ls ++ [[]] } := (if_pos hp2.1).trans (congrArg some (hp2.2 ▸ rfl))
  refine M.newL.put hok hv hp' fun h' M2 g2 => hq _ _ _ _ ⟨Go.trans (f' := f) (s' := { s with heap := s.heap.push qLS }) ⟨fun _ _ e => e, fun _ _ e n => qH (n.symm.trans e), fun b o e _ => Heap.get?_push_of_some _ e, fun b o e => ⟨o, Heap.get?_push_of_some _ e⟩⟩ g2 fun b hb => ?_, fun _ => rfl, fun _ => ⟨rfl, rfl⟩, fun b hb => ?_, M2⟩
  ·exact (List.mem_cons.mp hb).elim (fun q => .inl (q ▸ .head _)) fun hb => wC hb (fun q => .inl (.tail _ q)) fun q => .inr (q ▸ Heap.get?_size)
  ·exact wC (g := st2.g) hb (fun q => .inl ((jW hp).1 ▸ q)) fun q => .inr (q ▸ Heap.get?_size)) (Nat.zero_le _)))) rfl⟩
end
section
variable {C : Cx} {F : Fi} {d n : Nat}
section
variable {A : Around} {L : Addr} {fs : List Addr} {f : FM} {ga : GA} {la : List Addr} {st : St} {s : Shared} {y z v : PV} {u w : Value}
theorem qOU (M : Mid C F.nm L fs f ga la st s) (hy : VR f ga la y u) (hz : VR f ga la z w) (h : bop .add y z = some v) (hk : ∀ l, y ≠ .fl l) : Prim (model C.prog C.w) f ga la A (inplaceOp .Add u w) v s :=
 VR.on3 (P := fun y u => (∀ l, y ≠ .fl l) → Prim (model C.prog C.w) f ga la A (inplaceOp .Add u w) v s) hy h (fun a t h _ => VR.onI hz h fun b t' h => Option.some.inj h ▸ Prim.val M.fz fun Q E hq => wpAny_iadd_int (hq _ _ .int'))
  (fun a t h1 h _ => VR.onS hz h fun b t' h2 h => (qb h).2 ▸ Prim.val M.fz fun Q E hq => PyProof.Rows.SBL.iadd (fun t' tk _ => qMJ a b ▸ hq _ _ (.str' (by rw [List.length_append]; exact (qb h).1))) (by rw [jl, jl]; exact yu (qb h).1))
  (fun a l vs h1 hl r1 h hk => absurd rfl (hk a)) hk
theorem qOV (M : Mid C F.nm L fs f ga la st s) (hy : VR f ga la y u) (hz : VR f ga la z w) (h : bop .sub y z = some v) : Prim (model C.prog C.w) f ga la A (inplaceOp .Sub u w) v s :=
 VR.onI hy h fun a t h => VR.onI hz h fun b t' h => Option.some.inj h ▸ Prim.val M.fz fun Q E hq => PySem.AutoIntOps.isub_0 (hq _ _ .int')
end
theorem qJH {i : Nat} {x : Str} {A : Around} {L a : Addr} {cd : Value} {fs : List Addr} {f : FM} {ga : GA} {la : List Addr} {st : St} {s : Shared} {v : PV} {Q E : Value → Shared → Prop} (hok : (F.ok && (F.nm[i]? == some x)) = true) (M : Mid C F.nm L fs f ga la st s)
  (e : st.v[i]? = some (some v)) (hq : ∀ u, VR f ga la v u → Q u s) : wpAny (model C.prog C.w) A (loadName (F.env L a cd) x) Q E s :=
 have O := Fi.of (Bool.and_eq_true_iff.mp hok).1
 have hx := O.loc x (List.mem_of_getElem? (Fi.at hok))
 M.loc.elim fun m hm => (hm.2 i x v (Fi.at hok) e).elim fun u hu => wpAny_loadName_local (env := F.env _ _ _) (m := m) O.fn hx.1 hm.1 hu.1 (hq u hu.2)
theorem Post.loc {i : Nat} {st : St} {P : St → PV → Prop} (h : ∀ v, st.v[i]? = some (some v) → P st v) : Post (qC i) st P := fun st' v e => by
 unfold qC at e
 cases q : st.v[i]? with
 | none => rw [q] at e; exact qH e
 | some o => cases o with
  | none => rw [q] at e; exact qH e
  | some w => rw [q] at e; exact Post.pure (P := P) (h w q) st' v e
theorem Post.aug {o : Bop} {i : Nat} {x y : PV} {st : St} {P : St → Out → Prop} (h : ∀ v st2, bop o x y = some v → (∀ l, x ≠ .fl l) → za i v st = some st2 → P st2 .nxt) : Post (fun st => match x, bop o x y with
  | .int _, some v => (match za i v st with
   | some st' => some (.nxt, st')
   | none => none)
  | .str _, some v => (match za i v st with
   | some st' => some (.nxt, st')
   | none => none)
  | _, _ => none) st P := fun st' o' e => by
 dsimp only at e
 cases q : bop o x y with
 | none => rw [q] at e; cases x <;> exact qH e
 | some v =>
  rw [q] at e
  cases x with
  | int a => exact Post.put (P := P) (fun st2 hp => h v st2 q (fun l z => PV.noConfusion z) hp) st' o' e
  | str a => exact Post.put (P := P) (fun st2 hp => h v st2 q (fun l z => PV.noConfusion z) hp) st' o' e
  | _ => exact qH e
theorem qEZ {o : Bop} {op : Operator} {i : Nat} {x : Str} {e : Expr} {a : EC} {xp p : Pos} (hok : (F.ok && (F.nm[i]? == some x)) = true) (ha : qX C F d e a)
  (hp : ∀ {A : Around} {L : Addr} {fs : List Addr} {f : FM} {ga : GA} {la : List Addr} {st : St} {s : Shared} {y z v : PV} {u w : Value}, Mid C F.nm L fs f ga la st s → VR f ga la y u → VR f ga la z w → bop o y z = some v → (∀ l, y ≠ .fl l) → Prim (model C.prog C.w) f ga la A (inplaceOp op u w) v s) :
  yc C F d n (.AugAssign (.Name x xp) op e p) (j3 o i a) := fun st =>
 .bnd (.loc fun y hy => .bnd ((ha st).use fun st1 z h1 => .aug fun v st2 hv hk hput => ⟨h1.1.flags.trans (uX hput), fun rm M hq => wpAny_AugAssign_Name (qJH hok M hy fun u vu => h1.2 rm M fun f1 s1 w g1 M1 vw =>
  (hp M1 (vu.up g1.fle) vw hv hk).use M1 fun f2 s2 r g2 M2 vr => M2.put hok vr hput fun h' M3 g3 => hq _ _ _ _ ⟨(g1.trans' (g2 _)).trans' (h1.1.muts _ _ ▸ g3), fun _ => rfl, fun _ => ⟨rfl, rfl⟩, gI h1.1 hput, M3⟩)⟩))
theorem zR {i : Nat} {x : Str} {e : Expr} {a : EC} {xp p : Pos} (hok : (F.ok && (F.nm[i]? == some x)) = true) (ha : qX C F d e a) : yc C F d n (.AugAssign (.Name x xp) .Add e p) (j3 .add i a) := qEZ hok ha fun M h1 h2 h hk => qOU M h1 h2 h hk
theorem uq {i : Nat} {x : Str} {e : Expr} {a : EC} {xp p : Pos} (hok : (F.ok && (F.nm[i]? == some x)) = true) (ha : qX C F d e a) : yc C F d n (.AugAssign (.Name x xp) .Sub e p) (j3 .sub i a) := qEZ hok ha fun M h1 h2 h _ => qOV M h1 h2 h
section
variable {nm : List Str} {L : Addr} {fs : List Addr} {f f1 f2 : FM} {ga : GA} {la : List Addr} {st st1 st2 : St} {s s1 s2 : Shared}
theorem qS7 (k : keepsV st st1) (g1 : Go (L :: muts ga la st.g) f f1 s s1) (k2 : keepsV st1 st2) (g2 : Go (L :: fs ++ muts ga [] st1.g) f1 f2 s1 s2) (M2 : Mid C nm L fs f2 ga la st2 s2) : Adv C nm L fs n (L :: fs ++ muts ga la st.g) f f2 ga ga la la st st2 s s2 :=
 ⟨(g1.wider fun b hb => (List.mem_cons.mp hb).elim (fun q => q ▸ .head _) (List.mem_append_right (L :: fs))).trans' (g2.wider fun b hb => (List.mem_append.mp hb).elim (List.mem_append_left _) fun hb => List.mem_append_right _ (k.muts ga la ▸ gF b hb)), fun _ => rfl, fun _ => ⟨rfl, rfl⟩, fun b hb => .inl ((k.trans k2).muts ga la ▸ hb), M2⟩
theorem qR2 (M : Mid C nm L fs f ga la st s) (g1 : Go (L :: muts ga la st.g) f f1 s s1) (sl : yq (L :: fs) s1 s2) : yq fs s s2 := fun b hb o e => sl b (.tail _ hb) o (g1.keep b o e fun q => (List.mem_cons.mp q).elim (M.fr b hb).2.1 (M.fr b hb).2.2.1)
theorem qNL (k : keepsV st st1) (g1 : Go (L :: muts ga la st.g) f f1 s s1) (k2 : keepsV st1 st2) (g2 : Go (muts ga [] st1.g) f1 f2 s1 s2) (M2 : Mid C nm L fs f2 ga la st2 s2) : Adv C nm L fs n (L :: muts ga la st.g) f f2 ga ga la la st st2 s s2 :=
 (k.trans k2).adv (g1.trans' (g2.wider fun b hb => .tail _ (k.muts ga la ▸ gF b hb))) M2
end
theorem d6 (W : Glo C) {fA : Addr} {x : Str} {fp cp p : Pos} {xs : List Expr} {vs : List PV} {st st1 : St} {r : RV} {G' : G} (hf : qSJ C fA) (hx : C.mg x = some (.ref fA)) (hk : F.glob x = true) (hns : noStar xs = true) (hkf : F.sc.kind = .function) (hs : ∀ env : Env, swapsWith (.Call (.Name x fp) xs [] cp) none p.line env = pure false)
  (h1 : qPE C F d xs st st1 vs) (hc : PV.cleans vs = true) (R : RunF C d fA vs st1.g G' r) {A : Around} {L a : Addr} {cd : Value} {fs : List Addr} {f : FM} {ga : GA} {la : List Addr} {s : Shared} {Q : Flow → Shared → Prop} {E : Value → Shared → Prop} (rm : Room d A L fs) (M : Mid C F.nm L fs f ga la st s)
  (hq : ∀ f1 s1, Go (L :: muts ga la st.g) f f1 s s1 → KF C F.nm L fs f1 ga la st1 s1 (fun _ s' => Q .next s') E G' r) : wpAny (model C.prog C.w) A (exec (.Expr (.Call (.Name x fp) xs [] cp) p) (F.env L a cd)) Q E s := by
 rw [exec_Expr (F.env L a cd) _ p (kg hkf) (hs _)]
 exact hf.elim fun o y => y.elim fun fd y => wpAny_bind (wpAny_standAt (wpAny_bind (wpAny_Call_Name_kw (jz W hk M hx (callWith_function_kw (o := o) (fd := fd) (jN (zp _ _ hns).2 (h1.2.2 rm M fun f1 s1 us g1 M1 v1 =>
  ⟨⟨M1.up _ _ y.1, y.2⟩, wpAny_mono (R rm M1 rfl hc v1 (hq f1 s1 g1)) (fun _ _ z => wpAny_dropValue z) fun _ _ z => z⟩)))))))
theorem Post.callX {c : St → Option (RV × St)} {st : St} {P : St → Out → Prop} (h : Post c st fun st' r => (r = .ok .none → P st' .nxt) ∧ ∀ c i, r = .exc c i → P st' (.exc c i)) : Post (fun st => match c st with
  | some (.ok .none, st') => some (.nxt, st')
  | some (.exc c a, st') => some (.exc c a, st')
  | _ => none) st P := fun st' o e => by
 dsimp only at e
 cases q : c st with
 | none => rw [q] at e; exact qH e
 | some z =>
  rw [q] at e
  obtain ⟨r, z⟩ := z
  have := h z r q
  cases r with
  | ok w => cases w with
   | none => exact Post.pure (P := P) (this.1 rfl) st' o e
   | _ => exact qH e
  | exc c i => exact Post.pure (P := P) (this.2 c i rfl) st' o e
theorem uN (W : Glo C) {g : Fn} {fA : Addr} {x : Str} {fp cp p : Pos} {xs : List Expr} {l : LC} (hg : DenF C d fA g) (hx : C.mg x = some (.ref fA)) (hk : F.glob x = true) (hl : kq C F d xs l) (hkf : F.sc.kind = .function := by exact kfR)
  (hs : ∀ env : Env, swapsWith (.Call (.Name x fp) xs [] cp) none p.line env = pure false := by exact swR) : yc C F d n (.Expr (.Call (.Name x fp) xs [] cp) p) (vU g l) := fun st =>
 .bnd ((hl.2 st).use fun st1 vs h1 => .callX (.runF hg fun G' r hc k R =>
  ⟨fun e => ⟨(h1.1.trans k).flags, fun rm M hq => d6 (r := .ok .none) (G' := G') W hg.1 hx hk hl.1 hkf hs h1 hc (e ▸ R) rm M fun f1 s1 g1 f2 s2 u g2 M2 v2 => hq _ _ _ _ (qNL h1.1 g1 k g2 M2)⟩,
   fun c i e => ⟨(h1.1.trans k).flags, fun rm M hq => d6 (r := .exc c i) (G' := G') W hg.1 hx hk hl.1 hkf hs h1 hc (e ▸ R) rm M fun f1 s1 g1 f2 s2 ev g2 sl2 M2 T2 => hq _ _ _ _ _ (qS7 h1.1 g1 k g2 M2) (qR2 M g1 sl2) (T2.back g1.ex)⟩⟩))
theorem qLL (l b : Addr) (items items2 : Array Value) (n n2 : Nat) (dd2 : Option Addr) (sl sl2 : Array (Option Value)) (hs0 : ¬(!items.isEmpty && Builtin.List.listTooLong (items.size + items2.size)) = true) (hs1 : items.size ≤ sizeLine) (hs2 : items.size + items2.size ≤ sizeLine + 1) :
  Meets (Builtin.«list.__iadd__» ⟨[.ref l, .ref b], []⟩) (fun _ R s => s.heap.get? l = some { cls := .type "list", dict := none, data := .seq items n, slots := sl } ∧ s.heap.get? b = some { cls := .type "list", dict := dd2, data := .seq items2 n2, slots := sl2 } ∧ R (.ok (.ret (Value.ref l))) { s with heap := s.heap.update l (Obj.mapSeq fun x => x ++ items2), toks := s.toks }) :=
 .of_wp fun prog w A R s h => by
  obtain ⟨hp, g, d, tk, os⟩ := s; obtain ⟨hl, hb, h⟩ := h; have f1 := PySem.AutoSeq1.idx_int; have f2 := PySem.AutoSeq1.sub_tuple_tuple; have f3 := PySem.AutoSeq1.sub_list_list; have f4 := PySem.AutoSeq1.sub_tuple_list; have f5 := PySem.AutoSeq1.sub_list_tuple;
  have hz' : (items ++ items2).size ≤ sizeLine + 1 := by rw [Array.size_append]; exact hs2
  wp_walk using (wpAny_updateSeq hl rfl (hz := hs1) (_hz' := hz')), wpAny_loadPart' hl, wpAny_loadPart' hb; exact ⟨_, rfl, h⟩
theorem qER : seqSlot? (.type "list") (dunderI "add") = pure (some (.builtin "list.__iadd__")) := PySem.seqSlot_of PySem.F.slot_list_iadd.lookup (by decide +kernel)
theorem qGN {A : Around} {s : Shared} {a b : Value} {Q E : Value → Shared → Prop} (ha : s.TypeIs a "list") (hb : s.TypeIs b "list") (hc : wpAny (model C.prog C.w) A (call (.builtin "list.__iadd__") [a, b]) Q E s) : wpAny (model C.prog C.w) A (inplaceOp .Add a b) Q E s := by
 unfold inplaceOp
 refine wpAny_holding ?_
 have hfi : fillsInplaceSlot (.type "list") "add" (Operator.Add == .Add) = pure false := by
  unfold fillsInplaceSlot
  show (typeLookup (.type "list") (dunderI "add") >>= fun fi => pure (fi.isSome && !isSeqSlot fi)) = pure false
  rw [PySem.F.slot_list_iadd.lookup]; rfl
 refine wpAny_bind (wpAny_typeOf ha (wpAny_bind (wpAny_of_eq hfi ?_)))
 show wpAny _ A (if false = true then _ else _) Q E s
 rw [if_neg Bool.false_ne_true]
 refine wpAny_bind (wpAny_binaryOp1_none (nm := "add") ha hb noFill_list_add ?_)
 refine wpAny_bind (wpAny_of_eq qER ?_)
 exact wpAny_bind (wpAny_rule hc)
theorem Post.ext {x y : PV} {st : St} {P : St → Out → Prop} (h : ∀ k l l0, x = .lst (.loc k) → y = .fl l → st.ls[k]? = some l0 → l0.length + l.length ≤ line → PV.solids l = true → P (qHI (.loc k) (l0 ++ l) st) .nxt) : Post (fun st => match x, y with
  | .lst (.loc k), .fl l => (match st.ls[k]? with
   | some l0 => if l0.length + l.length ≤ line && PV.solids l then some (.nxt, { st with ls := st.ls.set k (l0 ++ l) }) else none
   | none => none)
  | _, _ => none) st P := fun st' o e => by
 cases x with
 | lst r => cases r with
  | loc k => cases y with
   | fl l =>
    dsimp only at e
    cases q : st.ls[k]? with
    | none => rw [q] at e; exact qH e
    | some l0 =>
     rw [q] at e
     have e := qb e
     have c := Bool.and_eq_true_iff.mp e.1
     exact Post.pure (P := P) (st := qHI (.loc k) (l0 ++ l) st) (h k l l0 rfl rfl q (of_decide_eq_true c.1) c.2) st' o (congrArg some e.2)
   | _ => exact qH e
  | _ => exact qH e
 | _ => exact qH e
theorem qRN {i : Nat} {v : PV} {st : St} (h : st.v[i]? = some (some v)) : za i v st = some st :=
 have q := List.getElem?_eq_some_iff.mp h
 q.elim fun h1 h2 => (if_pos h1).trans (congrArg (fun v => some ({ st with v := v } : St)) (h2 ▸ List.set_getElem_self h1))
theorem qQB {f : FM} {ga : GA} {la : List Addr} {h : Heap} {b : Addr} {o1 : Obj} {m1 : Nat} {l0 l : List PV} {vs ws : List Value} (e1 : h.get? b = some o1) (e2 : o1.cls = .type "list") (e3 : o1.dict = none) (e4 : o1.data = .seq vs.toArray m1) (hn : l0.length + l.length ≤ line) (hs : PV.solids (l0 ++ l) = true) (hv : VRs f ga la l0 vs) (hw : VRs f ga la l ws) :
  Cell f ga la (h.update b (Obj.mapSeq fun x => x ++ ws.toArray)) b (l0 ++ l) := by
 obtain ⟨cls, dd, data, sl⟩ := o1
 cases e2
 cases e3
 cases e4
 refine ⟨by rw [List.length_append]; exact hn, hs, vs ++ ws, ⟨_, (if (vs.toArray ++ ws.toArray).size == vs.toArray.size then m1 else m1 + 1), Heap.get?_update_self _ e1 rfl, rfl, rfl, ?_⟩, hv.append hw⟩
 show Data.seq (vs.toArray ++ ws.toArray) _ = Data.seq (vs ++ ws).toArray _
 rw [List.append_toArray]
 simp
theorem qAI {i : Nat} {x : Str} {e : Expr} {a : EC} {xp p : Pos} (hok : (F.ok && (F.nm[i]? == some x)) = true) (ha : qX C F d e a) : yc C F d n (.AugAssign (.Name x xp) .Add e p) (kZ i a) := fun st =>
 .bnd (.loc fun y hy => .bnd ((ha st).use fun st1 z h1 => .ext fun k l l0 ey ez hl0 hlen hsol => ⟨h1.1.flags.trans ⟨fun _ => rfl, fun _ => rfl, rfl⟩, fun {A L c cd fs f ga la s Q E} rm M hq => wpAny_AugAssign_Name (qJH hok M hy fun u vu => h1.2 rm M fun f1 s1 w g1 M1 vw => by
  obtain ⟨b, rfl, hr⟩ := (ey ▸ vu : VR f ga la (.lst (.loc k)) u)
  refine VR.flE (P := fun _ w => wpAny (model C.prog C.w) A (inplaceOp .Add (.ref b) w) _ _ s1) (ez ▸ vw : VR f1 ga la (.fl l) w) fun ax ws hl2 hax hws => ?_
  have c := wQ (r := .loc k) M1 hl0 hr
  refine c.2.2.elim fun vs hp => hp.1.elim fun o1 q => q.elim fun m1 q => hax.elim fun o2 q2 => q2.elim fun m2 q2 => ?_
  have hcell := qQB q.1 q.2.1 q.2.2.1 q.2.2.2 hlen (gw c.2.1 hsol) hp.2 hws
  have e1 := q.1
  have e8 := M1.fz _ _ q2.1
  have z1 : vs.toArray.size = l0.length := hp.2.length
  have z2 : ws.toArray.size = l.length := hws.length
  have hll : l0.length + l.length ≤ sizeLine := yu hlen
  have hlong : ¬ (!vs.toArray.isEmpty && Builtin.List.listTooLong (vs.toArray.size + ws.toArray.size)) = true := by
   rw [z1, z2]
   intro q
   have := (Bool.and_eq_true_iff.mp q).2
   unfold Builtin.List.listTooLong at this
   unfold line at hlen
   revert this
   simp
   lia
  obtain ⟨cls, dd, data, sl⟩ := o1
  obtain ⟨cls2, dd2, data2, sl2⟩ := o2
  cases q.2.1
  cases q.2.2.1
  cases q.2.2.2
  cases q2.2.1
  cases q2.2.2
  refine qGN ⟨_, e1, rfl⟩ ⟨_, e8, rfl⟩ (call_meets PySem.F.slot_list_iadd ⟨_, e1, rfl⟩ PySem.F.entry_list_iadd (PySem.F.args_list_iadd_2 _ _) (qLL b ax vs.toArray ws.toArray m1 m2 dd2 sl sl2 hlong (by lia) (by lia)) ⟨e1, e8, ?_⟩)
  have M3 := M1.cell (r := .loc k) hr hl0 (Heap.SameBut.update ..) hcell M1.tk
  refine M3.1.put hok (v := .lst (.loc k)) (u := .ref b) ⟨b, rfl, hr⟩ (qRN (show st1.v[i]? = _ from h1.1.2.2.1 ▸ ey ▸ hy)) fun h' M4 g4 => ?_
  exact hq _ _ _ _ ⟨(g1.trans' (h1.1.muts ga la ▸ M3.2)).trans' ((h1.1.trans (gL (.loc k) (l0 ++ l) st1)).muts ga la ▸ g4), fun _ => rfl, fun _ => ⟨rfl, rfl⟩, fun b hb => .inl (h1.1.muts ga la ▸ hb), M4⟩)⟩))
end
structure StOk (K : Frag) (c : Addr) : Prop where
 sa : findIn K (.ref c) "__setattr__" = some (some (.builtin "object.__setattr__"))
 over : plainOver K c = true
 has : (clsIn K c).any (·.hasDict) = true
theorem qC6 {M : Model} {A : Around} {E : Value → Shared → Prop} {s : Shared} {a : Addr} {m : Str → Option Value} {o : Obj} {k : Nat} {name : Str} {v : Value} {Q : Unit → Shared → Prop} (ho : s.heap.get? a = some o) (hb : gh k o) (hn : s.heap.Ns a m)
  (h : ∀ h' o', h'.get? a = some o' → gh (if (m name).isSome then k else k + 1) o' → h'.Ns a (fun x => if x = name then some v else m x) → Heap.SameBut a s.heap h' → o'.dict = o.dict → Q () { s with heap := h', toks := s.toks + 1 }) : wpAny M A (nsSet a name v) Q E s := fun Γ p _ => by
 obtain ⟨o1, es, ep, ho1, hd, hk, hm⟩ := hn
 rw [ho] at ho1
 cases ho1
 obtain ⟨hcls, es', ep', hd', hsz⟩ := hb
 rw [hd] at hd'
 cases hd'
 simp only [nsSet, strHash, Sem.wp_bind', Sem.wp_cmd_ask, Sem.wp_pure', Sem.wp_cmd_mkText]
 rw [Sem.wp_loadPart_of M Γ _ p { s with toks := s.toks + 1 } (o := o) _ ho]
 have hany : es.any (·.refKey) = false := by
  rw [Array.any_eq_false']; intro e he; obtain ⟨n, t, h⟩ := hk e he; simp [DictEntry.refKey, h]
 simp only [hd, aRefKeyMayBeTheName_eq, aRefKeyMayBeTheNameByArray, hany, Bool.and_false, Bool.false_eq_true, if_false, Sem.wp_cmd_updatePart]
 refine ⟨by rw [ho]; rfl, ?_⟩
 obtain ⟨c, d, dt, sl⟩ := o
 subst hd
 cases hi : es.findIdx? (·.key.isStr name) with
 | some i =>
  have e1 : ∀ hh kk, Obj.putName name hh kk v ⟨c, d, .dict es ep, sl⟩ = ⟨c, d, .dict (es.modify i fun e => { e with val := v }) ep, sl⟩ := fun hh kk => by simp only [Obj.putName_eq, Obj.putNameByArray, hi]
  have hsm : (m name).isSome = true := by
   rw [← hm]
   have := findBy_modify (fun n v => v.isStr n) Value.isStr_inj es name name v i hi
   unfold nsFind findBy
   obtain ⟨h1, h2, _⟩ := Array.findIdx?_eq_some_iff_getElem.mp hi
   cases q : es.find? (fun e => e.key.isStr name) with
   | some e => rfl
   | none => exact absurd h2 (Array.find?_eq_none.mp q _ (Array.getElem_mem h1))
  refine h _ _ (Heap.get?_update_self _ ho (by rw [e1]; rfl)) ?_ ⟨_, _, ep, Heap.get?_update_self _ ho (by rw [e1]; rfl), by rw [e1], hk.modify _ _, fun x => ?_⟩ (Heap.SameBut.update ..) (by rw [e1])
  ·rw [e1, hsm]
   exact ⟨hcls, _, _, rfl, by simpa using hsz⟩
  ·show _ = if x = name then some v else m x
   rw [← hm]; exact findBy_modify (fun n v => v.isStr n) Value.isStr_inj es name x v i hi
 | none =>
  have e1 : ∀ hh kk, Obj.putName name hh kk v ⟨c, d, .dict es ep, sl⟩ = ⟨c, d, .dict (es.push ⟨hh, kk, v⟩) (ep + 1), sl⟩ := fun hh kk => by simp only [Obj.putName_eq, Obj.putNameByArray, hi]
  refine h _ _ (Heap.get?_update_self _ ho (by rw [e1]; rfl)) ?_ ⟨_, _, ep + 1, Heap.get?_update_self _ ho (by rw [e1]; rfl), by rw [e1], hk.push _ _ _ _, fun x => ?_⟩ (Heap.SameBut.update ..) (by rw [e1])
  ·rw [e1]
   refine ⟨hcls, _, _, rfl, ?_⟩
   have hsm : (m name).isSome = false := by
    rw [← hm]
    unfold nsFind findBy
    cases q : es.find? (fun e => e.key.isStr name) with
    | some e =>
     have h1 := Array.mem_of_find?_eq_some q
     have h2 := Array.find?_some q
     have := Array.findIdx?_eq_none_iff.mp hi e h1
     rw [h2] at this; cases this
    | none => rfl
   rw [hsm]
   simpa using hsz
  ·show _ = if x = name then some v else m x
   rw [← hm]
   exact findBy_push (fun n v => v.isStr n) es name x _ _ v (fun y => by
    show (name == y) = decide (y = name)
    by_cases h : y = name
    ·subst h; simp
    ·have : ¬ name = y := fun e => h e.symm
     simp [h, this]) hi
section
variable {C : Cx} {F : Fi} {d n : Nat}
theorem wF {A : Around} {s : Shared} {x c dx : Addr} {ox od : Obj} {name : Str} {v : Value} {m : Str → Option Value} {k : Nat} {Q : Unit → Shared → Prop} {E : Value → Shared → Prop} (X : C.K.In s.heap) (hs : StOk C.K c) (hno : findIn C.K (.ref c) name = some none)
  (I : InstAt s.heap x ox c (some od)) (hd : ox.dict = some dx) (ho : s.heap.get? dx = some od) (hb : gh k od) (hk : k ≤ 100) (hn : s.heap.Ns dx m)
  (h : ∀ h' o', h'.get? dx = some o' → gh (if (m name).isSome then k else k + 1) o' → h'.Ns dx (fun x => if x = name then some v else m x) → Heap.SameBut dx s.heap h' → o'.dict = od.dict → Q () { s with heap := h', toks := s.toks + 2 }) : wpAny (model C.prog C.w) A (setAttr (.ref x) name v) Q E s := by
 have I' : InstAt { s with toks := s.toks + 1 }.heap x ox c (some od) := I
 refine set_plain X I hs.sa (osa_open (s := { s with toks := s.toks + 1 }) X I' hs.over (r := none) (by unfold takerIn; rw [hno]; rfl) fun b => ?_)
 obtain ⟨cd, hc, hd'⟩ := any_some hs.has
 obtain ⟨hx, hcl, hnc, -⟩ := I'
 obtain ⟨oc, odi, oda, osl⟩ := ox
 dsimp only at hcl hd
 subst hcl hd
 refine wpAny_bind (wpAny_pure (wpAny_bind (wpAny_bind (wpAny_loadPart hx (wpAny_bind ((looks_clsIn (h := { s with toks := s.toks + 1 }.heap) X hc).here ?_))))))
 rw [hd']
 refine wpAny_pure (a := some dx) (wpAny_bind (wpAny_pure (wpAny_bind ?_)))
 refine qC6 (s := { s with toks := s.toks + 1 }) ho hb hn fun h' o' e1 b1 n1 s1 d1 => ?_
 obtain ⟨_, es, ep, e2, e3⟩ := id b1
 refine wpAny_bind (wpAny_lookBehind e1 (by rw [e2]; exact pastItsLine_dict (by rw [sizeLine_eq]; split at e3 <;> lia)) ?_)
 exact wpAny_pure (h h' o' e1 b1 n1 s1 d1)
end
section
variable {C : Cx} {F : Fi} {d n : Nat}
noncomputable def qKO (j : Int) (st : St) : St := { st with g := { st.g with at_ := j } }
theorem Mid.setAt {nm : List Str} {L : Addr} {fs : List Addr} {f : FM} {ga : GA} {la : List Addr} {st : St} {s : Shared} (M : Mid C nm L fs f ga la st s) (hl : st.g.hl = true) {j : Int} {t : Tok} {h' : Heap} {m : Str → Option Value} {o' : Obj} {tk : Nat} (htk : 0 < tk)
  (X : LxD f ga la st.g.text st.g.at_ m) (e1 : h'.get? ga.lxD = some o') (b1 : gh 4 o') (n1 : h'.Ns ga.lxD (fun x => if x = "at" then some (.int j t) else m x)) (hs : Heap.SameBut ga.lxD s.heap h') :
  Mid C nm L fs f ga la (qKO j st) { s with heap := h', toks := tk } ∧ Go (L :: muts ga la st.g) f f s { s with heap := h', toks := tk } :=
 have p := M.apart
 M.one (st' := qKO j st) (qGU hl) hs ⟨o', e1⟩ htk ⟨rfl, rfl, rfl, rfl⟩ (fun kc i b k e1 e2 => kc (fun z => (p.2.1 hl).1 (z ▸ List.mem_of_getElem? e1)) (M.ls i b k e1 e2)) (fun kc hd => kc (p.2.2.1 hd hl).1 (M.dg hd).2)
  fun kc _ => ⟨⟨o', _, e1, b1, n1, X.text.elim fun u z => ⟨u, (if_neg (by decide)).trans z.1, z.2⟩, ⟨t, if_pos rfl⟩, (if_neg (by decide)).trans X.diags, (if_neg (by decide)).trans X.tokens, fun x h1 h2 h3 h4 => (if_neg h2).trans (X.none x h1 h2 h3 h4)⟩, kc (Ne.symm (p.2.1 hl).2.2) (M.lx hl).2.2.2⟩
theorem qRY (W : Glo C) (hst : StOk C.K C.lexC) {A : Around} {nm : List Str} {L : Addr} {fs : List Addr} {f : FM} {ga : GA} {la : List Addr} {st : St} {s : Shared} {Q : Unit → Shared → Prop} {E : Value → Shared → Prop} {j : Int} {t : Tok} (M : Mid C nm L fs f ga la st s) (hl : st.g.hl = true)
  (h : ∀ s', Mid C nm L fs f ga la (qKO j st) s' → Go (L :: muts ga la st.g) f f s s' → Q () s') : wpAny (model C.prog C.w) A (setAttr (.ref ga.lxA) "at" (.int j t)) Q E s :=
 (M.lx hl).2.2.1.elim fun o x => x.elim fun m2 x => wF (W.kin.keeps M.up) hst (W.lexOk.no _ (.tail _ (.head _))) ⟨M.fz _ _ (M.lx hl).2.1, rfl, rfl, x.1⟩ rfl x.1 x.2.1 (by decide) x.2.2.1 fun h' o' e1 b1 n1 s1 d1 =>
  have q := M.setAt hl (j := j) (t := t) (tk := s.toks + 2) (Nat.succ_pos _) x.2.2.2 e1 (x.2.2.2.at_.elim fun t' e => by rw [e] at b1; exact b1) n1 s1
  h _ q.1 q.2
theorem Post.setAt {x v : PV} {st : St} {P : St → Out → Prop} (h : ∀ i, x = .lex → v = .int i → st.g.hl = true → P (qKO i st) .nxt) : Post (fun st => match x, v with
  | .lex, .int i => if st.g.hl then some (.nxt, { st with g := { st.g with at_ := i } }) else none
  | _, _ => none) st P := fun st' o e => by
 cases x with
 | lex => cases v with
  | int i =>
   have e := qb e
   exact Post.pure (P := P) (st := qKO i st) (h i rfl rfl e.1) st' o (congrArg some e.2)
  | _ => exact qH e
 | _ => exact qH e
theorem kN (W : Glo C) (hst : StOk C.K C.lexC) {o e : Expr} {c a : EC} {ap p : Pos} (ho : qX C F d o c) (ha : qX C F d e a) (hs : ∀ env : Env, swapsWith e (some (.Attribute o "at" ap)) p.line env = pure false := by exact swR) :
  yc C F d n (.Assign [.Attribute o "at" ap] e p) (u0 c a) := fun st =>
 .bnd ((ha st).use fun st1 v h1 => .bnd ((ho st1).use fun st2 x h2 => .setAt fun j ex ev hl => ⟨(h1.1.trans h2.1).flags.trans ⟨fun _ => rfl, fun _ => rfl, rfl⟩, fun rm M hq => plainObj_wpAny_Assign_Attribute (h1.2 rm M fun f1 s1 u g1 M1 v1 => h2.2 rm M1 fun f2 s2 u2 g2 M2 v2 => by
  obtain ⟨t, rfl⟩ := (ev ▸ v1 : VR f1 _ _ (.int j) u)
  exact (show u2 = .ref _ from (ex ▸ v2 : VR f2 _ _ .lex u2)) ▸ qRY W hst M2 hl fun s3 M3 g3 => hq _ _ _ _ ⟨(g1.trans' (h1.1.muts _ _ ▸ g2)).trans' ((h1.1.trans h2.1).muts _ _ ▸ g3), fun _ => rfl, fun _ => ⟨rfl, rfl⟩, fun b hb => .inl ((h1.1.trans h2.1).muts _ _ ▸ hb), M3⟩) (hs _)⟩))
theorem Post.lexI {y : PV} {st : St} {P : St → Out → Prop} {e : EC} (h : y = .lex → st.g.hl = true → Post e st fun st1 v => ∀ j, v = .int j → st1.g.hl = true → P (qKO (st.g.at_ + j) st1) .nxt) : Post (fun st => match y with
  | .lex => if st.g.hl then (Mine.bnd e fun y st1 => match y with
   | .int j => if st1.g.hl then some (.nxt, { st1 with g := { st1.g with at_ := st.g.at_ + j } }) else none
   | _ => none) st else none
  | _ => none) st P := fun st' o e => by
 cases y with
 | lex =>
  cases q : st.g.hl with
  | false => exact qH ((if_neg (by rw [q]; exact Bool.false_ne_true)).symm.trans e)
  | true => exact Post.bnd (P := P) ((h rfl q).use fun st1 v h1 st' o e => by
    cases v with
    | int j =>
     have e := qb e
     exact Post.pure (P := P) (st := qKO (st.g.at_ + j) st1) (h1 j rfl e.1) st' o (congrArg some e.2)
    | _ => exact qH e) st' o ((if_pos q).symm.trans e)
 | _ => exact qH e
theorem qt (W : Glo C) (hst : StOk C.K C.lexC) {o e : Expr} {c a : EC} {ap p : Pos} (ho : qX C F d o c) (ha : qX C F d e a) : yc C F d n (.AugAssign (.Attribute o "at" ap) .Add e p) (qq c a) := fun st =>
 .bnd ((ho st).use fun st1 x h1 => .lexI fun ex hl => (ha st1).use fun st2 y h2 j ey hl2 => ⟨(h1.1.trans h2.1).flags.trans ⟨fun _ => rfl, fun _ => rfl, rfl⟩, fun rm M hq => wpAny_AugAssign_AttributeAny (h1.2 rm M fun f1 s1 u g1 M1 v1 => by
  subst ex
  have e2 : u = .ref _ := v1
  subst e2
  refine (yf W (at_ := .at) (v := .int st1.g.at_) M1 v1 (if_pos hl)).use M1 fun f2 s2 old g2 M2 v2 => h2.2 rm M2 fun f3 s3 w g3 M3 v3 => ?_
  obtain ⟨t, rfl⟩ := v2
  obtain ⟨t', rfl⟩ := (ey ▸ v3 : VR f3 _ _ (.int j) w)
  exact wpAny_iadd_int (qRY W hst (ub M3 1) hl2 fun s5 M5 g5 => hq _ _ _ _ ⟨(((g1.trans' (g2 _)).trans' (h1.1.muts _ _ ▸ g3)).trans' tokGo).trans' ((h1.1.trans h2.1).muts _ _ ▸ g5), fun _ => rfl, fun _ => ⟨rfl, rfl⟩, fun b hb => .inl ((h1.1.trans h2.1).muts _ _ ▸ hb), M5⟩))⟩)
end
section
variable {C : Cx} {F : Fi} {d n : Nat}
structure FD where
 oc : Value
 od : Option Addr
 osl : Array (Option Value)
 name : Str
 params : Arguments
 dV : Value
 kV : Value
 doc : Value
 pm : Value
 an : Option Addr
 cdv : Value
 ct : Value
noncomputable def FD.fn (D : FD) (F : Fi) (body : List Stmt) : FuncData := fnOf D.name F.q D.params body F.sc D.dV D.kV D.doc D.pm D.an D.cdv D.ct
structure FnAtD (C : Cx) (F : Fi) (fA : Addr) (np : Nat) (body : List Stmt) (D : FD) : Prop where
 get : C.h0.get? fA = some ⟨D.oc, D.od, .func (D.fn F body), D.osl⟩
 code : C.h0.CodeRec D.cdv F.q
 bind : ∀ args : List Value, args.length = np → bindArgs (D.fn F body) ⟨args, []⟩ = pure ((F.nm.take np).zip args)
noncomputable def qBV (C : Cx) (F : Fi) (fA : Addr) (np : Nat) (body : List Stmt) : Prop := ∃ D, FnAtD C F fA np body D
theorem qC0 {α β : Type} [BEq α] [LawfulBEq α] {x : α} {u : β} : ∀ {l : List (α × β)}, (l.map (·.1)).Nodup → (x, u) ∈ l → l.lookup x = some u
 | [], _, h => absurd h List.not_mem_nil
 | (y, v) :: r, hn, h => by
  rw [List.map_cons, List.nodup_cons] at hn
  rcases List.mem_cons.mp h with h | h
  ·cases h; exact List.lookup_cons_self
  ·rw [List.lookup_cons, beq_false_of_ne fun q : x = y => hn.1 (q ▸ List.mem_map.mpr ⟨_, h, rfl⟩)]
   exact qC0 hn.2 h
theorem qED {ns : List PySem.Str} {us : List Value} (hn : ns.Nodup) (hl : ns.length = us.length) {i : Nat} {x : PySem.Str} {u : Value} (h1 : ns[i]? = some x) (h2 : us[i]? = some u) : (ns.zip us).reverse.lookup x = some u :=
 qC0 (by rw [List.map_reverse, List.map_fst_zip (Nat.le_of_eq hl)]; exact List.pairwise_reverse.mpr (hn.imp fun h => Ne.symm h)) (List.mem_reverse.mpr (List.mem_iff_getElem?.mpr ⟨i, List.getElem?_zip_eq_some.mpr ⟨h1, h2⟩⟩))
noncomputable def st0 (np nv : Nat) (vs : List PV) (g : G) : St := ⟨vs.map some ++ List.replicate (nv - np) none, [], g⟩
theorem qIU (W : Glo C) {fA : Addr} {np nv : Nat} {body : List Stmt} (hF : F.ok = true) (hfn : qBV C F fA np body) (hnv : F.nm.length = nv) (hnp : np ≤ nv) {A : Around} {nm : List Str} {L : Addr} {fs : List Addr} {f : FM} {ga : GA} {la : List Addr} {st : St} {s : Shared} {vs : List PV} {us : List Value} {Q E : Value → Shared → Prop}
  (rm : Room (d + 1) A L fs) (M : Mid C nm L fs f ga la st s) (hlen : vs.length = np) (hc : PV.cleans vs = true) (hv : VRs f ga la vs us)
  (h : ∀ L' cd s1, Room d (A.deeper (F.env L' fA cd)) L' (L :: fs) → Mid C F.nm L' (L :: fs) f ga [] (st0 np nv vs st.g) s1 → (∀ b o, s.heap.get? b = some o → s1.heap.get? b = some o) → s.heap.get? L' = none →
   wpAny (model C.prog C.w) (A.deeper (F.env L' fA cd)) (execs body (F.env L' fA cd)) (fun fl s' => Q (match fl with | .ret v => v | _ => .none) s')
    (fun e s' => wpAny (model C.prog C.w) (A.deeper (F.env L' fA cd)) (leaving (F.env L' fA cd) e) (fun _ s'' => E e s'') (fun e' s'' => E e' s'') s') s1) :
  wpAny (model C.prog C.w) A (call (.ref fA) us) Q E s := by
 obtain ⟨D, H⟩ := hfn
 have O := Fi.of hF
 have hus : us.length = np := hv.length.trans hlen
 have htl : (F.nm.take np).length = us.length := by rw [List.length_take, hus, hnv]; exact Nat.min_eq_left hnp
 refine wpAny_call (codeAny_call_function (o := ⟨D.oc, D.od, .func (D.fn F body), D.osl⟩) (by have := rm.depth; lia) (M.up _ _ H.get) rfl O.co O.gen rfl (H.code.keeps M.up) ?_)
 rw [H.bind us hus]
 refine wpAny_pure (wpAny_newFunctionEnv (fun x hx => O.cell x hx) (fun x hx => (O.loc x.1 (List.mem_of_mem_take (List.of_mem_zip hx).1)).1) (fun h₁ hns hsb => ⟨(W.nolimit.keeps M.up).fresh _ hsb, ?_⟩) O.fn)
 have kp : ∀ b o, s.heap.get? b = some o → h₁.get? b = some o := fun b o e => hsb.extBut b o (Nat.ne_of_lt (Heap.lt_size e)) (Heap.get?_push_of_some _ e)
 have nL : ∀ b, (∃ o, s.heap.get? b = some o) → b ≠ s.heap.objs.size := fun b h => h.elim fun o e => Nat.ne_of_lt (Heap.lt_size e)
 show codeAny _ _ (.func body (F.env s.heap.objs.size fA D.cdv)) _ _
 refine codeAny_func (h s.heap.objs.size D.cdv _ ?_ ?_ kp Heap.get?_size)
 ·exact rm.frames.elim fun l hl => ⟨⟨F.env s.heap.objs.size fA D.cdv :: l, congrArg (Option.map _) hl.1, ⟨by show F.sc.kind ≠ _; rw [O.fn]; decide, rfl, hl.2⟩⟩, by have := rm.depth; show A.depth + 1 + 2 * d + 11 < _; lia, Nat.succ_lt_succ rm.deep, by have := rm.units; show A.units + 3 + 20 * d + 200 < _; lia, fun _ => rm.handled (Nat.succ_pos d)⟩
 ·have hm : ∀ b ∈ muts ga [] st.g, b ∈ muts ga la st.g := gF
  have M1 := M.same (s' := { s with heap := h₁, toks := s.toks + ((F.nm.take np).zip us).length }) kp (Nat.lt_of_lt_of_le M.tk (Nat.le_add_right _ _)) rfl rfl
  refine ⟨M.base, M1.fz, M1.tk, M1.gens, M1.os, ?_, ⟨_, hns, fun i x v e1 e2 => ?_⟩, jb M, fun b hb => ⟨(M.mutF b (hm b hb)).1, nL b (yn M b (hm b hb))⟩, ?_, rfl, fun i a l e1 e2 => qH e1, fun h => ⟨(M1.dg h).1, (M1.dg h).2.keeps (fun _ _ e => e) fun _ e => e⟩, fun h => ⟨(M1.lx h).1, (M1.lx h).2.1, (M1.lx h).2.2.1.keeps fun _ e => e, (M1.lx h).2.2.2.keeps (fun _ _ e => e) fun _ e => e⟩, M.exc,
   fun b hb => (M.live b hb).elim fun o z => ⟨?_, nL b ⟨o, z.1⟩, fun q => ?_, o, kp _ _ z.1, z.2⟩⟩
  ·show (vs.map some ++ List.replicate (nv - np) none).length = _
   rw [List.length_append, List.length_map, List.length_replicate, hlen, hnv]; exact Nat.add_sub_cancel' hnp
  ·have e2' : (vs.map some ++ List.replicate (nv - np) none)[i]? = some (some v) := e2
   rcases Nat.lt_or_ge i (vs.map some).length with hi | hi
   ·rw [List.getElem?_append_left hi, List.getElem?_map] at e2'
    exact (Option.map_eq_some_iff.mp e2').elim fun v' q => (hv.get q.1).elim fun u hu => ⟨u, qED (O.nd.sublist (List.take_sublist _ _)) htl (by rw [List.getElem?_take, if_pos (hlen ▸ List.length_map (as := vs) some ▸ hi)]; exact e1) hu.1, Option.some.inj q.2 ▸ VR.clean (uJ hc q.1) hu.2⟩
   ·rw [List.getElem?_append_right hi] at e2'
    exact qH (Option.some.inj ((List.getElem_replicate ..).symm.trans (List.getElem?_eq_some_iff.mp e2').choose_spec ▸ rfl : some (none : Option PV) = some (some v)))
  ·have := M.nodup
   unfold muts at this ⊢
   rw [List.append_nil]
   rw [← List.append_assoc] at this
   exact (List.nodup_append.mp this).1
  ·exact (List.mem_cons.mp hb).elim (fun q => q ▸ M.freshL) fun hb => (M.fr b hb).1
  ·exact (List.mem_cons.mp hb).elim (fun z => (M.mutF b (hm b q)).2 z) fun hb => (M.fr b hb).2.2.1 (hm b q)
noncomputable def frz (f : FM) (h : Heap) (la : List Addr) : FM := fun b => if b ∈ la then h.get? b else f b
section
variable {nm nm' : List Str} {L L' : Addr} {fs : List Addr} {f f' : FM} {ga : GA} {la la' : List Addr} {st sa sb : St} {s s1 s2 : Shared}
theorem kS (M2 : Mid C nm' L' (L :: fs) f' ga la' sb s2) : ∀ b o, f' b = some o → frz f' s2.heap la' b = some o := fun b o e =>
 (if_neg fun q => (List.mem_iff_getElem?.mp q).elim fun i hi => qH ((M2.mutF b (vT hi)).1.symm.trans e)).trans e
theorem qIE {gb : GA} (M2 : Mid C nm' L' (L :: fs) f' gb la' sb s2) {Z : List Addr} {a : Addr} {l : List PV} (c : Cell f' gb la' s2.heap a l) (ha : a ∈ Z) (le : ∀ b o, f' b = some o → frz f' s2.heap Z b = some o) : VR (frz f' s2.heap Z) ga la (.fl l) (.ref a) :=
 c.2.2.elim fun vs y => y.1.elim fun o z => z.elim fun m z => VR.fl' c.1 ⟨o, m, (if_pos ha).trans z.1, z.2.1, z.2.2.2⟩ (VRs.solid c.2.1 (y.2.up le))
mutual
theorem qE7 (M2 : Mid C nm' L' (L :: fs) f' ga la' sb s2) : ∀ {v : PV} {u : Value}, v.okRet = true → VR f' ga la' v u → VR (frz f' s2.heap la') ga la (v.freeze sb.ls) u
 | .none, _, _, h => h
 | .bool _, _, _, h => h
 | .int _, _, _, h => h
 | .str _, _, _, h => h
 | .tup l, _, hk, h => by
  unfold VR at h
  exact h.elim fun a h => h.elim fun vs h => h.1 ▸ VR.tup' (h.2.1.mono (kS M2)) (qCM M2 hk h.2.2)
 | .fl l, _, hk, h => h.flE (P := fun _ u => VR (frz f' s2.heap la') ga la (.fl l) u) fun a vs n h1 h2 => VR.fl' n (h1.mono (kS M2)) (VRs.clean hk (h2.up (kS M2)))
 | .lst .toks, _, _, h => h
 | .lst .rows, _, _, h => h
 | .lst (.loc i), _, _, h => h.elim fun a e => e.1 ▸ by
  have hi : la'[i]? = some a := e.2
  have hlt : i < sb.ls.length := M2.len ▸ (List.getElem?_eq_some_iff.mp hi).1
  show VR _ _ _ (.fl (sb.ls.getD i [])) _
  rw [List.getD_eq_getElem?_getD, List.getElem?_eq_getElem hlt]
  exact qIE M2 (M2.ls i a _ hi (List.getElem?_eq_getElem hlt)) (List.mem_of_getElem? hi) (kS M2)
 | .lex, _, _, h => h
 | .dg, _, _, h => h
 | .exc _ _, _, _, h => VR.up h (kS M2)
theorem qCM (M2 : Mid C nm' L' (L :: fs) f' ga la' sb s2) : ∀ {v : List PV} {u : List Value}, PV.okRets v = true → VRs f' ga la' v u → VRs (frz f' s2.heap la') ga la (PV.freezes sb.ls v) u
 | [], _, _, h => h
 | x :: r, _, hk, h => h.consE (P := fun u => VRs (frz f' s2.heap la') ga la (PV.freezes sb.ls (x :: r)) u) fun v vs h1 h2 => VRs.cons (qE7 M2 (Bool.and_eq_true_iff.mp hk).1 h1) (qCM M2 (Bool.and_eq_true_iff.mp hk).2 h2)
end
theorem qLQ {a b : St} (h : flags 0 a b) (ga : GA) (la : List Addr) : muts ga la b.g = muts ga la a.g := by
 unfold muts; rw [h.1 rfl, h.2.1 (Nat.zero_le _)]
theorem qMW {Z : List Addr} {h : Heap} {b : Addr} (e : f' b = none) (n : b ∉ Z) : frz f' h Z b = none := (if_neg n).trans e
theorem parts (M : Mid C nm L fs f ga la st s) : ∀ b ∈ la, b ∉ muts ga [] st.g := fun b hb q => by
 have hn := M.nodup
 unfold muts at q hn
 rw [List.append_nil] at q
 rw [← List.append_assoc] at hn
 exact (List.nodup_append.mp hn).2.2 b q b hb rfl
theorem Mid.backG {ga' : GA} {n : Nat} {g' : G} {Z X : List Addr} (M : Mid C nm L fs f ga la st s) (kp : ∀ b o, s.heap.get? b = some o → s1.heap.get? b = some o) (hL' : s.heap.get? L' = none)
  (x : Adv C nm' L' (L :: fs) n X f f' ga ga' [] la' sa sb s1 s2) (hX : ∀ b ∈ X, b = L' ∨ b ∈ L :: fs ∨ b ∈ muts ga [] st.g) (hLn : ∃ m, s2.heap.Ns L m ∧ ∀ m0, s.heap.Ns L m0 → m0 = m) (hmu : muts ga la g' = muts ga la st.g)
  (hZf : ∀ b ∈ Z, f' b = none) (hZ : ∀ b ∈ Z, s.heap.get? b = none) (dg : g'.hd = true → DgAt C (frz f' s2.heap Z) ga ∧ Cell (frz f' s2.heap Z) ga la s2.heap ga.rwA g'.rows)
  (lx : g'.hl = true → g'.hd = true ∧ frz f' s2.heap Z ga.lxA = some (instObj C.lexC ga.lxD) ∧ LxAt (frz f' s2.heap Z) ga la g'.text g'.at_ s2.heap ∧ Cell (frz f' s2.heap Z) ga la s2.heap ga.tkA g'.toks) :
  Mid C nm L fs (frz f' s2.heap Z) ga la { st with g := g' } s2 ∧ (∀ b o, s.heap.get? b = some o → b ∉ L :: fs → b ∉ muts ga [] st.g → s2.heap.get? b = some o) ∧ (∀ b o, frz f' s2.heap Z b = some o → f b = none → s.heap.get? b = none) ∧ (∀ b o, f' b = some o → frz f' s2.heap Z b = some o) := by
 have nb : ∀ b, s1.heap.get? b = none → s.heap.get? b = none := fun b h => Option.eq_none_iff_forall_ne_some.mpr fun o q => qH (h.symm.trans (kp b o q))
 have keep : ∀ b o, s.heap.get? b = some o → b ∉ L :: fs → b ∉ muts ga [] st.g → s2.heap.get? b = some o := fun b o e n1 n2 => x.go.keep b o (kp b o e) fun q => (hX b q).elim (fun z => qH (hL'.symm.trans (z ▸ e))) fun q => q.elim n1 n2
 have le : ∀ b o, f' b = some o → frz f' s2.heap Z b = some o := fun b o e => (if_neg fun q => qH ((hZf b q).symm.trans e)).trans e
 have le2 : ∀ b o, f b = some o → frz f' s2.heap Z b = some o := fun b o e => le b o (x.go.fle b o e)
 have off : ∀ b o, s.heap.get? b = some o → f b = none → frz f' s2.heap Z b = none := fun b o e n => qMW (Option.eq_none_iff_forall_ne_some.mpr fun o' q => qH ((nb b (x.go.fnew b o' q n)).symm.trans e)) fun q => qH ((hZ b q).symm.trans e)
 refine ⟨⟨fun b o e => le b o (x.mid.base b o e), fun b o e => ?_, x.mid.tk, x.mid.gens, x.mid.os, M.lenv, M.loc.elim fun m y => ⟨m, hLn.elim fun m' z => z.2 m y.1 ▸ z.1, fun i k v e1 e2 => (y.2 i k v e1 e2).elim fun u w => ⟨u, w.1, w.2.up le2⟩⟩, M.hasL.elim fun o e => off L o e M.freshL, fun b hb => ?_, hmu ▸ M.nodup, M.len,
  fun i a l e1 e2 => (M.ls i a l e1 e2).keeps le2 fun o e => keep a o e (fun q => (List.mem_cons.mp q).elim (M.mutF _ (vT e1)).2 fun q => (M.fr a q).2.2.1 (vT e1)) (parts M a (List.mem_of_getElem? e1)), dg, lx, M.exc,
  fun b hb => have y := M.fr b hb; have z := x.mid.fr b (.tail _ hb); ⟨y.2.2.2.elim fun o w => off b o w.1 y.1, y.2.1, (hmu ▸ y.2.2.1 : b ∉ muts ga la g'), z.2.2.2⟩⟩, keep, fun b o e n => ?_, le⟩
 ·unfold frz at e
  split at e
  ·exact e
  ·exact x.mid.fz b o e
 ·have hb : b ∈ muts ga la g' := hb
  rw [hmu] at hb
  exact ⟨(yn M b hb).elim fun o e => off b o e (M.mutF b hb).1, (M.mutF b hb).2⟩
 ·unfold frz at e
  split at e
  ·exact hZ b (by assumption)
  ·exact nb b (x.go.fnew b o e n)
theorem Mid.back (X : List Addr) (M : Mid C nm L fs f ga la st s) (kp : ∀ b o, s.heap.get? b = some o → s1.heap.get? b = some o) (hL' : s.heap.get? L' = none) (hg : sa.g = st.g) (fl : flags 0 sa sb)
  (x : Adv C nm' L' (L :: fs) 0 X f f' ga ga [] la' sa sb s1 s2) (hX : ∀ b ∈ X, b = L' ∨ b ∈ L :: fs ∨ b ∈ muts ga [] st.g) (hLn : ∃ m, s2.heap.Ns L m ∧ ∀ m0, s.heap.Ns L m0 → m0 = m) :
  Mid C nm L fs (frz f' s2.heap la') ga la { st with g := sb.g } s2 ∧ (∀ b o, s.heap.get? b = some o → b ∉ L :: fs → b ∉ muts ga [] st.g → s2.heap.get? b = some o) ∧
   (∀ b o, frz f' s2.heap la' b = some o → f b = none → s.heap.get? b = none) ∧ (∀ b o, f' b = some o → frz f' s2.heap la' b = some o) :=
 have hmu : ∀ la0, muts ga la0 sb.g = muts ga la0 st.g := fun la0 => (qLQ fl ga la0).trans (congrArg (muts ga la0) hg)
 M.backG kp hL' x hX hLn (hmu la) (fun b hb => (List.mem_iff_getElem?.mp hb).elim fun i hi => (x.mid.mutF b (vT hi)).1)
  (fun b hb => (List.mem_iff_getElem?.mp hb).elim fun i hi => (x.fresh b (vT hi)).elim (fun h => absurd (hmu [] ▸ hg ▸ h) (parts x.mid b hb)) fun h => Option.eq_none_iff_forall_ne_some.mpr fun o q => qH (h.symm.trans (kp b o q)))
  (fun h => ⟨(x.mid.dg h).1.up (kS x.mid), (x.mid.dg h).2.keeps (kS x.mid) fun _ e => e⟩) fun h => ⟨(x.mid.lx h).1, kS x.mid _ _ (x.mid.lx h).2.1, (x.mid.lx h).2.2.1.keeps fun _ e => e, (x.mid.lx h).2.2.2.keeps (kS x.mid) fun _ e => e⟩
end
end
section
variable {C : Cx} {F : Fi} {d n : Nat}
theorem qBN {h : Heap} {a : Addr} {m m' : Str → Option Value} (x : h.Ns a m) (y : h.Ns a m') : m = m' := by
 obtain ⟨o3, es, ep, x1, x2, x3, x4⟩ := x
 obtain ⟨o4, es4, ep4, y1, y2, y3, y4⟩ := y
 cases Option.some.inj (x1.symm.trans y1)
 cases x2.symm.trans y2
 exact funext fun x => (x4 x).symm.trans (y4 x)
theorem Ns.slots {h h' : Heap} {a : Addr} {m : Str → Option Value} (x : h.Ns a m) (k : ∀ o, h.get? a = some o → ∃ sl, h'.get? a = some { o with slots := sl }) : h'.Ns a m :=
 x.elim fun o x => x.elim fun es x => x.elim fun ep x => (k o x.1).elim fun sl e => ⟨_, es, ep, e, x.2⟩
theorem qI3 {fA : Addr} {np : Nat} {body : List Stmt} (hfn : qBV C F fA np body) : qSJ C fA := hfn.elim fun D H => ⟨_, _, H.get, rfl⟩
theorem qOJ {np nv : Nat} {b : SC} {vs : List PV} {G1 G2 : G} {r : RV} {P : RV → G → Prop} (h : zf np nv b vs G1 = some (r, G2)) (hb : vs.length = np → Post b (st0 np nv vs G1) fun st2 o => match o with
  | .ret v => v.okRet = true → P (.ok (v.freeze st2.ls)) st2.g
  | .nxt => P (.ok .none) st2.g
  | .exc c i => P (.exc c i) st2.g
  | .brk => True) : P r G2 := by
 unfold zf at h
 by_cases hl : vs.length = np
 ·have h := (if_pos hl).symm.trans h
  cases q : b ⟨vs.map some ++ List.replicate (nv - np) none, [], G1⟩ with
  | none => rw [q] at h; exact qH h
  | some z =>
   obtain ⟨o, st2⟩ := z
   rw [q] at h
   have := hb hl _ _ q
   cases o with
   | nxt => exact (Prod.mk.inj (Option.some.inj h)).1 ▸ (Prod.mk.inj (Option.some.inj h)).2 ▸ this
   | brk => exact qH h
   | ret v =>
    have h := qb h
    exact (Prod.mk.inj h.2).1 ▸ (Prod.mk.inj h.2).2 ▸ this h.1
   | exc c i => exact (Prod.mk.inj (Option.some.inj h)).1 ▸ (Prod.mk.inj (Option.some.inj h)).2 ▸ this
 ·exact qH ((if_neg hl).symm.trans h)
section
variable {np nv : Nat} {vs : List PV} {nm : List Str} {L L' : Addr} {fs : List Addr} {f f' : FM} {ga ga' : GA} {la la' : List Addr} {st st2 : St} {s s1 s2 s3 : Shared} {Q E : Value → Shared → Prop}
theorem qIB (M : Mid C nm L fs f ga la st s) (kp : ∀ b o, s.heap.get? b = some o → s1.heap.get? b = some o) (hL' : s.heap.get? L' = none) (fl : flags 0 (st0 np nv vs st.g) st2) (x : Adv C F.nm L' (L :: fs) 0 (L' :: muts ga [] st.g) f f' ga ga' [] la' (st0 np nv vs st.g) st2 s1 s2) {v : PV} {u : Value} (hu : VR f' ga' la' v u) (hok : v.okRet = true)
  (hq : KF C nm L fs f ga la st s Q E st2.g (.ok (v.freeze st2.ls))) : Q u s2 :=
 have hu : VR f' ga la' v u := (x.fix0 rfl) ▸ hu
 have x := x.same
 have kk : ∀ b o, s.heap.get? b = some o → b ∉ muts ga [] st.g → s2.heap.get? b = some o := fun b o e n => x.go.keep b o (kp b o e) fun q => (List.mem_cons.mp q).elim (fun q => qH (hL'.symm.trans (q ▸ e))) n
 have B := Mid.back (sa := st0 np nv vs st.g) _ M kp hL' rfl fl x (fun b hb => (List.mem_cons.mp hb).imp id .inr) (M.loc.elim fun m hm => ⟨m, ju hm.1 fun o e => kk L o e fun q => (M.mutF L (gF _ q)).2 rfl, fun m0 h0 => qBN h0 hm.1⟩)
 hq _ s2 u ⟨fun b o e => B.2.2.2 b o (x.go.fle b o e), B.2.2.1, kk, fun b o e => x.go.ex b o (kp b o e)⟩ B.1 (qE7 x.mid hok hu)
theorem qMD {Z : List Addr} {c : List Nat} {i : Int} {e : Value} {L1 : Addr} {h0 : Heap} (T : Thrown C L1 f' c i e h0 s3) (hZ : ∀ b ∈ Z, ∃ o, s3.heap.get? b = some o ∧ ∀ vs, o.data ≠ .fields vs) (le : ∀ b o, f' b = some o → frz f' s3.heap Z b = some o) : Thrown C L1 (frz f' s3.heap Z) c i e h0 s3 :=
 T.elim fun D x => ⟨D, x.1, { x.2 with off := fun b hb => qMW (x.2.off b hb) fun q => (x.2.fly.fields b hb).elim fun o y => y.elim fun vs y => (hZ b q).elim fun o2 z => z.2 vs (Option.some.inj (y.1.symm.trans z.1) ▸ y.2), od := le _ _ x.2.od }⟩
theorem qPJ {c : List Nat} {i : Int} {e : Value} (M : Mid C nm L fs f ga la st s) (kp : ∀ b o, s.heap.get? b = some o → s1.heap.get? b = some o) (hL' : s.heap.get? L' = none) (fl : flags 0 (st0 np nv vs st.g) st2) (x : Adv C F.nm L' (L :: fs) 0 (L' :: (L :: fs) ++ muts ga [] st.g) f f' ga ga' [] la' (st0 np nv vs st.g) st2 s1 s2) (hs : yq (L :: fs) s1 s2)
  (S : Still C F.nm L' (L :: fs) f' ga' la' st2 s2 s1.heap s3) (T : ∀ L', Thrown C L' f' c i e s1.heap s3) (hq : KF C nm L fs f ga la st s Q E st2.g (.exc c i)) : E e s3 :=
 have hg := x.fix0 rfl
 have x' : Adv C F.nm L' (L :: fs) 0 (L' :: (L :: fs) ++ muts ga [] st.g) f f' ga ga [] la' (st0 np nv vs st.g) st2 s1 s3 := Adv.same ⟨⟨x.go.fle, x.go.fnew, fun b o e nx => S.kp b o ⟨o, e⟩ (fun q => nx (List.mem_append_left _ q)) (x.go.keep b o e nx), fun b o e => (x.go.ex b o e).elim fun o' e' => S.ex b o' e'⟩, x.fix0, x.fix1, x.fresh, S.mid⟩
 have sl : yq (L :: fs) s s3 := fun b hb o e => (hs b hb o (kp b o e)).elim fun q1 e1 => (S.sl b (.tail _ hb) _ e1).elim fun q2 e2 => ⟨q2, e2⟩
 have B := Mid.back (sa := st0 np nv vs st.g) _ M kp hL' rfl fl x' (fun b hb => (List.mem_append.mp hb).elim (fun q => (List.mem_cons.mp q).imp id .inl) fun q => .inr (.inr q)) (M.loc.elim fun m hm => ⟨m, Ns.slots hm.1 (sl L (.head _)), fun m0 h0 => qBN h0 hm.1⟩)
 hq _ s3 e ⟨fun b o e => B.2.2.2 b o (x'.go.fle b o e), B.2.2.1, fun b o e n1 => B.2.1 b o e (fun q => n1 (List.mem_append_left _ q)) fun q => n1 (List.mem_append_right _ q), fun b o e => x'.go.ex b o (kp b o e)⟩ sl B.1
  (qMD ((T L).back fun b o e => ⟨o, kp b o e⟩) (fun b hb => (List.mem_iff_getElem?.mp hb).elim fun i hi => yQ S.mid b (vT hi)) B.2.2.2)
end
theorem qPV (W : Glo C) {fA : Addr} {np nv : Nat} {body : List Stmt} {b : SC} (hF : F.ok = true) (hfn : qBV C F fA np body) (hnv : F.nm.length = nv) (hnp : np ≤ nv) (hb : vP C F d 0 body b) : DenF C (d + 1) fA (zf np nv b) :=
 ⟨qI3 hfn, fun vs G1 G2 r h => qOJ (P := fun r G2 => (G2.hl = G1.hl ∧ G2.hd = G1.hd) ∧ RunF C (d + 1) fA vs G1 G2 r) h fun hlen => (hb (st0 np nv vs G1)).use fun st2 o h1 => by
  have fg := fun {G2 : G} (e : st2.g = G2) => (e ▸ ⟨h1.1.1 rfl, h1.1.2.1 (Nat.zero_le _)⟩ : G2.hl = G1.hl ∧ G2.hd = G1.hd)
  cases o with
  | brk => exact trivial
  | ret v => exact fun hok => ⟨fg rfl, fun rm M hg hc hv hq => by
    subst hg
    exact qIU W hF hfn hnv hnp rm M hlen hc hv fun L' cd s1 rm1 M1 kp hL' => h1.2 rm1 M1 fun f' ga' la' s2 u x hu => qIB M kp hL' h1.1 x hu hok hq⟩
  | nxt => exact ⟨fg rfl, fun rm M hg hc hv hq => by
    subst hg
    exact qIU W hF hfn hnv hnp rm M hlen hc hv fun L' cd s1 rm1 M1 kp hL' => h1.2 rm1 M1 fun f' ga' la' s2 x => qIB (v := .none) M kp hL' h1.1 x rfl rfl hq⟩
  | exc c i => exact ⟨fg rfl, fun rm M hg hc hv hq => by
    subst hg
    exact qIU W hF hfn hnv hnp rm M hlen hc hv fun L' cd s1 rm1 M1 kp hL' => h1.2 rm1 M1 fun f' ga' la' s2 e x hs ht => qAR rm1 x.mid ht x.go.ex fun s3 S T3 => qPJ M kp hL' h1.1 x hs S T3 hq⟩⟩
end
open Builtin Builtin.ObjectAttr
section
variable {C : Cx} {F : Fi} {d n : Nat}
theorem qP9 {K : Frag} {c : Addr} (h : ExOk K c) : mroIn K c (.type "object") = some true := by
 obtain ⟨cd, r, e1, e2⟩ := h.mro
 unfold mroIn
 rw [e1, Option.bind_some, e2, if_neg (by simp)]
 simp
theorem qM6 {A : Around} {s : Shared} {x c : Addr} {ox : Obj} {od : Option Obj} {name : Str} {tk : Tok} {v : Value} {R : Result → Shared → Prop} (X : C.K.In s.heap) (H : ExOk C.K c) (I : InstAt s.heap x ox c od) (hno : findIn C.K (.ref c) name = some none)
  (h : ∀ b, wpAny (model C.prog C.w) A.in1 (storeInOwnDict (.ref x) (.ref c) (.str name tk) name v b)
   (fun fin s' => match fin with | .done f => R (.ok f) s' | .again c' => c'.quiet = true ∧ codeAny (model C.prog C.w) A c' R s') (fun e s' => R (.error e) s') s) :
  codeAny (model C.prog C.w) A (.call (.builtin "object.__setattr__") ⟨[.ref x, .str name tk, v], []⟩) R s := by
 have SF := PySem.F.store_object
 obtain ⟨cd, r, hc, ho⟩ := H.mro
 have sub : Looks (model C.prog C.w) s.heap (isInstance (.ref x) (.type "object")) true := I.type.andThen (looks_mroIn X (qP9 H))
 refine codeAny_call_builtin SF.slot.plain SF.entry (@check_slot (model C.prog C.w) _ _ s "object.__setattr__" "object" "__setattr__" (.ref x) [.str name tk, v] [] _ SF.kind SF.split sub (SF.args (.ref x) (.str name tk) v) ?_)
 have hm : Looks (model C.prog C.w) s.heap (mroOf (.ref c)) cd.mro := (looks_clsIn X hc).andThen .now
 have L3 : Looks (model C.prog C.w) s.heap (storeTaker? none) none := .now
 rw [osa_eq, refuse_eq]
 refine wpAny_bind (wpAny_bind (I.type.here (wpAny_bind (hm.here ?_))))
 rw [ho, refuseLoop_ref, refuseLoop_ref, PySem.F.store_Exception.passes]
 refine wpAny_pure (wpAny_bind (I.type.here (wpAny_bind ((looks_findIn X hno).here (wpAny_bind (L3.here ?_))))))
 exact h _
theorem qO2 {A : Around} {s : Shared} {x c : Addr} {ox : Obj} {name : Str} {v : Value} {Q : Unit → Shared → Prop} {E : Value → Shared → Prop} (X : C.K.In s.heap) (H : ExOk C.K c) (hno : findIn C.K (.ref c) name = some none) (I : InstAt s.heap x ox c none) (hd : ox.dict = none) {vs : Array Value} (hdat : ox.data = .fields vs)
  (h : ∀ h' dx o', s.heap.get? dx = none → h'.get? dx = some o' → gh 1 o' → o'.dict = none → h'.Ns dx (fun y => if y = name then some v else none) → h'.get? x = some { ox with dict := some dx } → (∀ b o, b ≠ x → s.heap.get? b = some o → h'.get? b = some o) → Q () { s with heap := h', toks := s.toks + 2 }) : wpAny (model C.prog C.w) A (setAttr (.ref x) name v) Q E s := by
 have I' : InstAt { s with toks := s.toks + 1 }.heap x ox c none := I
 refine set_plain X I H.sa (qM6 (s := { s with toks := s.toks + 1 }) X H I' hno fun b => ?_)
 obtain ⟨cd, r, hc, ho⟩ := H.mro
 have hd' : cd.hasDict = true := by
  have := H.hd
  unfold hasDictIn at this
  rw [hc] at this
  exact this
 obtain ⟨hx, hcl, hnc, -⟩ := I'
 obtain ⟨oc, odi, oda, osl⟩ := ox
 dsimp only at hcl hd hdat
 subst hcl hd hdat
 refine wpAny_bind (wpAny_pure (wpAny_bind (wpAny_bind (wpAny_loadPart hx (wpAny_bind ((looks_clsIn (h := { s with toks := s.toks + 1 }.heap) X hc).here ?_))))))
 rw [hd']
 have hx₁ : (s.heap.push { cls := .type "dict", data := .dict #[] }).get? x = some ⟨.ref c, none, .fields vs, osl⟩ := Heap.get?_push_of_some _ hx
 have hxs : x ≠ s.heap.objs.size := Nat.ne_of_lt (Heap.lt_size hx)
 have hgd : ((s.heap.push { cls := .type "dict", data := .dict #[] }).update x fun o => { cls := o.cls, dict := some s.heap.objs.size, data := o.data, slots := o.slots }).get? s.heap.objs.size = some { cls := .type "dict", data := .dict #[] } :=
  (Heap.get?_update_other _ _ hxs).trans (Heap.get?_push_at rfl rfl)
 have hgx := Heap.get?_update_self (fun o : Obj => { cls := o.cls, dict := some s.heap.objs.size, data := o.data, slots := o.slots }) hx₁ rfl
 have hnd : ((s.heap.push { cls := .type "dict", data := .dict #[] }).update x fun o => { cls := o.cls, dict := some s.heap.objs.size, data := o.data, slots := o.slots }).Ns s.heap.objs.size (fun _ => none) :=
  ⟨_, #[], _, hgd, rfl, fun e he => absurd he (by simp), fun _ => rfl⟩
 show wpAny _ _ (alloc { cls := .type "dict", data := .dict #[] } >>= fun d => update x (fun o => { cls := o.cls, dict := some d, data := o.data, slots := o.slots }) >>= fun _ => pure (some d)) _ _ _
 refine wpAny_bind (wpAny_alloc (wpAny_bind (wpAny_update hx₁ (wpAny_pure ?_))))
 show wpAny _ _ (storeInDict s.heap.objs.size (.str name s.toks) name v) _ _ _
 unfold storeInDict newKeyGuard
 refine wpAny_bind (wpAny_pure (wpAny_bind ?_))
 refine qC6 (k := 0) (s := { s with heap := (s.heap.push { cls := .type "dict", data := .dict #[] }).update x fun o => { cls := o.cls, dict := some s.heap.objs.size, data := o.data, slots := o.slots }, toks := s.toks + 1 }) hgd ⟨rfl, #[], _, rfl, Nat.le_refl _⟩ hnd fun h' o' e1 b1 n1 s1 d1 => ?_
 obtain ⟨_, es, ep, e2, e3⟩ := id b1
 refine wpAny_bind (wpAny_lookBehind e1 (by rw [e2]; exact pastItsLine_dict (by rw [sizeLine_eq]; have : es.size ≤ 1 := e3; lia)) ?_)
 refine wpAny_pure (h h' s.heap.objs.size o' Heap.get?_size e1 b1 d1 n1 ((s1.2 x hxs).trans hgx) fun b o hb e => (s1.2 b (Nat.ne_of_lt (Heap.lt_size e))).trans ((Heap.get?_update_other _ _ (Ne.symm hb)).trans (Heap.get?_push_of_some _ e)))
theorem qRZ {A : Around} {s : Shared} {x c dx : Addr} {ox od : Obj} {name : Str} {v : Value} {m : Str → Option Value} {k : Nat} {Q : Unit → Shared → Prop} {E : Value → Shared → Prop} (X : C.K.In s.heap) (H : ExOk C.K c) (hno : findIn C.K (.ref c) name = some none)
  (I : InstAt s.heap x ox c (some od)) (hd : ox.dict = some dx) (ho : s.heap.get? dx = some od) (hb : gh k od) (hk : k ≤ 100) (hn : s.heap.Ns dx m)
  (h : ∀ h' o', h'.get? dx = some o' → gh (if (m name).isSome then k else k + 1) o' → h'.Ns dx (fun x => if x = name then some v else m x) → Heap.SameBut dx s.heap h' → o'.dict = od.dict → Q () { s with heap := h', toks := s.toks + 2 }) : wpAny (model C.prog C.w) A (setAttr (.ref x) name v) Q E s := by
 have I' : InstAt { s with toks := s.toks + 1 }.heap x ox c (some od) := I
 refine set_plain X I H.sa (qM6 (s := { s with toks := s.toks + 1 }) X H I' hno fun b => ?_)
 obtain ⟨cd, r, hc, hmro⟩ := H.mro
 have hd' : cd.hasDict = true := by
  have := H.hd
  unfold hasDictIn at this
  rw [hc] at this
  exact this
 obtain ⟨hx, hcl, hnc, -⟩ := I'
 obtain ⟨oc, odi, oda, osl⟩ := ox
 dsimp only at hcl hd
 subst hcl hd
 refine wpAny_bind (wpAny_pure (wpAny_bind (wpAny_bind (wpAny_loadPart hx (wpAny_bind ((looks_clsIn (h := { s with toks := s.toks + 1 }.heap) X hc).here ?_))))))
 rw [hd']
 refine wpAny_pure (a := some dx) (wpAny_bind (wpAny_pure (wpAny_bind ?_)))
 refine qC6 (s := { s with toks := s.toks + 1 }) ho hb hn fun h' o' e1 b1 n1 s1 d1 => ?_
 obtain ⟨_, es, ep, e2, e3⟩ := id b1
 refine wpAny_bind (wpAny_lookBehind e1 (by rw [e2]; exact pastItsLine_dict (by rw [sizeLine_eq]; split at e3 <;> lia)) ?_)
 exact wpAny_pure (h h' o' e1 b1 n1 s1 d1)
end
section
variable {C : Cx} {F : Fi} {d n : Nat}
theorem qCD (W : Glo C) {fA : Addr} {np : Nat} {body : List Stmt} (hF : F.ok = true) (hfn : qBV C F fA np body) (hnp : np ≤ F.nm.length) {A : Around} {s : Shared} {us : List Value} {R : Result → Shared → Prop}
  (hroom : A.depth < recursionLimit) (up : ∀ b o, C.h0.get? b = some o → s.heap.get? b = some o) (hus : us.length = np)
  (h : ∀ L' cd h₁, h₁.Ns L' (fun x => ((F.nm.take np).zip us).reverse.lookup x) → (∀ b o, s.heap.get? b = some o → h₁.get? b = some o) → s.heap.get? L' = none →
   wpAny (model C.prog C.w) (A.deeper (F.env L' fA cd)) (execs body (F.env L' fA cd)) (fun fl s' => R (.ok (.ret (match fl with | .ret v => v | _ => .none))) s')
    (fun e s' => wpAny (model C.prog C.w) (A.deeper (F.env L' fA cd)) (leaving (F.env L' fA cd) e) (fun _ s'' => R (.error e) s'') (fun e' s'' => R (.error e') s'') s') { s with heap := h₁, toks := s.toks + ((F.nm.take np).zip us).length }) :
  codeAny (model C.prog C.w) A (.call (.ref fA) ⟨us, []⟩) R s := by
 obtain ⟨D, H⟩ := hfn
 have O := Fi.of hF
 refine codeAny_call_function (o := ⟨D.oc, D.od, .func (D.fn F body), D.osl⟩) hroom (up _ _ H.get) rfl O.co O.gen rfl (H.code.keeps up) ?_
 rw [H.bind us hus]
 exact wpAny_pure (wpAny_newFunctionEnv (fun x hx => O.cell x hx) (fun x hx => (O.loc x.1 (List.mem_of_mem_take (List.of_mem_zip hx).1)).1) (fun h₁ hns hsb => ⟨(W.nolimit.keeps up).fresh _ hsb, codeAny_func (body := body) (env := F.env s.heap.objs.size fA D.cdv) (h s.heap.objs.size D.cdv _ hns (fun b o e => hsb.extBut b o (Nat.ne_of_lt (Heap.lt_size e)) (Heap.get?_push_of_some _ e)) Heap.get?_size)⟩) O.fn)
theorem qN7 (W : Glo C) {fA : Addr} {np : Nat} {body : List Stmt} (hF : F.ok = true) (hfn : qBV C F fA np body) (hnp : np ≤ F.nm.length) {A : Around} {s : Shared} {us : List Value} {Q E : Value → Shared → Prop}
  (hroom : A.depth < recursionLimit) (up : ∀ b o, C.h0.get? b = some o → s.heap.get? b = some o) (hus : us.length = np)
  (h : ∀ L' cd h₁, h₁.Ns L' (fun x => ((F.nm.take np).zip us).reverse.lookup x) → (∀ b o, s.heap.get? b = some o → h₁.get? b = some o) → s.heap.get? L' = none →
   wpAny (model C.prog C.w) (A.deeper (F.env L' fA cd)) (execs body (F.env L' fA cd)) (fun fl s' => Q (match fl with | .ret v => v | _ => .none) s')
    (fun e s' => wpAny (model C.prog C.w) (A.deeper (F.env L' fA cd)) (leaving (F.env L' fA cd) e) (fun _ s'' => E e s'') (fun e' s'' => E e' s'') s') { s with heap := h₁, toks := s.toks + ((F.nm.take np).zip us).length }) :
  wpAny (model C.prog C.w) A (call (.ref fA) us) Q E s := wpAny_call (qCD W hF hfn hnp hroom up hus h)
theorem kE {A : Around} {L a : Addr} {cd : Value} {s : Shared} {np i : Nat} {us : List Value} {x : Str} {u : Value} {p : Pos} {Q E : Value → Shared → Prop} (hok : (F.ok && (F.nm[i]? == some x)) = true) (hn : s.heap.Ns L (fun x => ((F.nm.take np).zip us).reverse.lookup x)) (hnp : np ≤ F.nm.length) (hus : us.length = np) (hi : us[i]? = some u) (hq : Q u s) :
  wpAny (model C.prog C.w) A (eval (.Name x p) (F.env L a cd)) Q E s := by
 have O := Fi.of (Bool.and_eq_true_iff.mp hok).1
 have hx := O.loc x (List.mem_of_getElem? (Fi.at hok))
 have hlt : i < np := hus ▸ (List.getElem?_eq_some_iff.mp hi).1
 have hl : ((F.nm.take np).zip us).reverse.lookup x = some u := qED (O.nd.sublist (List.take_sublist _ _)) (by rw [List.length_take, hus]; exact Nat.min_eq_left hnp) (by rw [List.getElem?_take, if_pos hlt]; exact Fi.at hok) hi
 exact wpAny_Name (wpAny_loadName_local (env := F.env _ _ _) (m := fun x => ((F.nm.take np).zip us).reverse.lookup x) O.fn hx.1 hn hl hq) hx.2
structure ExInit (C : Cx) (F : Fi) (iA : Addr) : Prop where
 ok : F.ok = true
 nm : F.nm = [("self" : Str), ("code" : Str), ("at" : Str)]
 fn : ∃ p1 p2 p3 p4 p5 p6 p7 p8, qBV C F iA 3 [.Assign [.Attribute (.Name "self" p1) "code" p2] (.Name "code" p3) p4, .Assign [.Attribute (.Name "self" p5) "at" p6] (.Name "at" p7) p8]
theorem qQP (W : Glo C) {iA e : Addr} (HI : ExInit C F iA) {A : Around} {s : Shared} {u1 u2 : Value} {vs : Array Value} {sl : Array (Option Value)} {Q E : Value → Shared → Prop} (hroom : A.depth < recursionLimit) (up : ∀ b o, C.h0.get? b = some o → s.heap.get? b = some o) (he0 : C.h0.get? e = none)
  (he : s.heap.get? e = some ⟨.ref C.excC, none, .fields vs, sl⟩)
  (h : ∀ h' dx od tk, s.heap.get? dx = none → h'.get? e = some ⟨.ref C.excC, some dx, .fields vs, sl⟩ → h'.get? dx = some od → lookIn "code" od = some (some u1) → lookIn "at" od = some (some u2) → (∀ b o, b ≠ e → s.heap.get? b = some o → h'.get? b = some o) → s.toks ≤ tk → Q .none { s with heap := h', toks := tk }) :
  wpAny (model C.prog C.w) A (call (.ref iA) [.ref e, u1, u2]) Q E s := by
 obtain ⟨p1, p2, p3, p4, p5, p6, p7, p8, hfn⟩ := HI.fn
 have hnp : 3 ≤ F.nm.length := by rw [HI.nm]; decide
 have hp : ∀ (i : Nat) (x : Str), F.nm[i]? = some x → (F.ok && (F.nm[i]? == some x)) = true := fun i x e => Bool.and_eq_true_iff.mpr ⟨HI.ok, beq_iff_eq.mpr e⟩
 refine qN7 W HI.ok hfn hnp hroom up rfl fun L' cd h₁ hns kp hL' => ?_
 have he1 := kp _ _ he
 have hLe : L' ≠ e := fun q => qH (hL'.symm.trans (q ▸ he))
 have X1 : C.K.In h₁ := W.kin.keeps fun b o q => kp b o (up b o q)
 refine wpAny_execs_cons (plainObj_wpAny_Assign_Attribute ?_)
 refine kE (i := 1) (hp 1 "code" (by rw [HI.nm]; rfl)) hns hnp rfl rfl ?_
 refine kE (i := 0) (hp 0 "self" (by rw [HI.nm]; rfl)) hns hnp rfl rfl ?_
 refine qO2 (s := { s with heap := h₁, toks := _ }) X1 W.exOk (W.exOk.no _ (by simp)) ⟨he1, rfl, rfl, trivial⟩ rfl rfl fun h2 dx o2 f2 g2 b2 d2 n2 x2 k2 => ?_
 have f2 : h₁.get? dx = none := f2
 have hdx : s.heap.get? dx = none := Option.eq_none_iff_forall_ne_some.mpr fun o q => qH (f2.symm.trans (kp _ _ q))
 have hLd : L' ≠ dx := fun q => hns.elim fun o z => z.elim fun _ z => z.elim fun _ z => qH (f2.symm.trans (q ▸ z.1))
 have hed : e ≠ dx := fun q => qH (f2.symm.trans (q ▸ he1))
 have hns2 : h2.Ns L' (fun x => ((F.nm.take 3).zip [.ref e, u1, u2]).reverse.lookup x) := ju hns fun o q => k2 _ _ hLe q
 have X2 : C.K.In h2 := W.kin.keeps fun b o q => k2 b o (fun z => qH (he0.symm.trans (z ▸ q))) (kp b o (up b o q))
 refine wpAny_execs_cons (plainObj_wpAny_Assign_Attribute ?_)
 refine kE (i := 2) (hp 2 "at" (by rw [HI.nm]; rfl)) hns2 hnp rfl rfl ?_
 refine kE (i := 0) (hp 0 "self" (by rw [HI.nm]; rfl)) hns2 hnp rfl rfl ?_
 refine qRZ (s := { s with heap := h2, toks := _ }) X2 W.exOk (W.exOk.no _ (by simp)) ⟨x2, rfl, rfl, g2⟩ rfl g2 b2 (by decide) n2 fun h3 o3 g3 b3 n3 s3 d3 => ?_
 refine wpAny_execs_nil (h h3 dx o3 _ hdx ((s3.2 e hed).trans x2) g3 ?_ ?_ (fun b o hb q => (s3.2 b fun z => ?_).trans (k2 b o hb (kp b o q))) ?_)
 ·rw [ym n3 g3]; rfl
 ·rw [ym n3 g3]; rfl
 ·exact qH (hdx.symm.trans (z ▸ q))
 ·show s.toks ≤ s.toks + _ + 2 + 2; lia
end
end Mine
end
noncomputable section
open PySem PySem.W
set_option maxRecDepth 100000
set_option genInjectivity false
namespace Mine
noncomputable abbrev bmX (r : Addr) : List Value := [.ref r, .type "Exception", .type "BaseException", .type "object"]
section
variable {prog : Program} {w : World} {A : Around} {R : Result → Shared → Prop} {E : Value → Shared → Prop} {h : Heap} {g : Array GenState} {d : Drawn} {t : Nat} {os : OsState}
variable {nm q : Str} {c r N : Addr} {bs : List Value} {hdct : Bool} {sn : List Str} {sub : List Value} {ab : Bool} {col : Option Bool} {dd : Option Addr} {k0 k1 k2 k3 k5 : Option Value}
theorem qN9 {M : Model} {rest : List Value} {Q : Unit → Shared → Prop} (hC : h.get? c = some (excClassObj nm q c N bs (bmX r) hdct sn sub ab col dd k0 k1 k2 k3 k5 "Exception.__new__"))
  (hq : Q () ⟨h, g, d, t, os⟩) : wpAny M A (checkBuiltinCall "Exception.__new__" ⟨.ref c :: rest, []⟩) Q E ⟨h, g, d, t, os⟩ := by
 have Fn := PySem.F.excBase_Exception
 have hcont : (Value.ref c :: bmX r).contains (.type "Exception") = true := by simp
 have hstar := Fn.noStar
 simp only [checkBuiltinCall, Fn.newKind, Fn.newSplit, Fn.newRow]
 repeat (first | refine wpAny_loadPart_at hC ?_ | (refine wpAny_isSubtype_exc hC ?_; rw [hcont]) | refine wpAny_staticBase_exc hC ?_ | refine wpAny_madeBy_exc hC ?_ | simp only [bne_self_eq_false, Bool.false_eq_true, if_false] | wp_step)
 exact hq
theorem qS8 {rest : List Value} (hC : h.get? c = some (excClassObj nm q c N bs (bmX r) hdct sn sub ab col dd k0 k1 k2 k3 k5 "Exception.__new__"))
  (hq : R (.ok (.ret (.ref (h.objs.size + 1)))) ⟨(h.push { cls := .type "tuple", data := .seq rest.toArray }).push
   { cls := .ref c, data := .fields #[.ref h.objs.size, .none, .none, .none, .bool false, .none] }, g, d, t, os⟩) (hrest : rest.length ≤ sizeLine) :
  codeAny (model prog w) A (.builtin "Exception.__new__" ⟨.ref c :: rest, []⟩) R ⟨h, g, d, t, os⟩ := by
 have Fn := PySem.F.excBase_Exception
 have hends := Fn.ends
 have hcB : (Value.ref c :: bmX r).contains (.type "Exception") = true := by simp
 have hcA : (Value.ref c :: bmX r).contains (.type "AttributeError") = false := by simp
 have hcN : (Value.ref c :: bmX r).contains (.type "NameError") = false := by simp
 refine codeAny_builtinAt Fn.entry ?_
 unfold Builtin.«BaseException.__new__»
 refine wpAt_bind ?_
 show wpAt _ _ _ (stack >>= _) _ _ _
 refine wpAt_bind (wpAt_stack fun p below => wpAt_of_wpAny ?_)
 wp_walk
 refine wpAt_of_wpAny ?_
 rw [Fn.owner]
 repeat (first | with_reducible refine wpAny_madeHere_exc Fn.canon hC ?_ | with_reducible refine wpAny_loadPart_at hC ?_ | (with_reducible refine wpAny_isSubtype_exc hC ?_; first | rw [hcB] | rw [hcA] | rw [hcN]) | wp_step)
 show R _ _
 rw [Heap.size_push]
 exact hq
end
section
variable {prog : Program} {w : World} {A : Around} {E : Value → Shared → Prop} {h : Heap} {g : Array GenState} {d : Drawn} {t : Nat} {os : OsState}
variable {nm q : Str} {c r N : Addr} {bs : List Value} {hdct : Bool} {sn : List Str} {sub : List Value} {ab : Bool} {col : Option Bool} {dd : Option Addr} {k0 k1 k2 k3 k5 : Option Value} {K : Frag}
theorem qEJ {rest : List Value} {iA : Addr} {Q : Fin → Shared → Prop} (X : K.In h) (hi : findIn K (.ref c) "__init__" = some (some (.ref iA))) (hf : typeIn K (.ref iA) = some (.type "function"))
  (hC : h.get? c = some (excClassObj nm q c N bs (bmX r) hdct sn sub ab col dd k0 k1 k2 k3 k5 "Exception.__new__"))
  (hq : ∀ A', A'.depth = A.depth → wpAny (model prog w) A' (call (.ref iA) (.ref (h.objs.size + 1) :: rest)) (fun v s' => v = .none ∧ Q (.done (.ret (.ref (h.objs.size + 1)))) s') (fun _ _ => False) ⟨(h.push { cls := .type "tuple", data := .seq rest.toArray }).push
   { cls := .ref c, data := .fields #[.ref h.objs.size, .none, .none, .none, .bool false, .none] }, g, d, t, os⟩) (hrest : rest.length ≤ sizeLine) :
  wpAny (model prog w) A (Builtin.«type.__call__» ⟨.ref c :: rest, []⟩) Q E ⟨h, g, d, t, os⟩ := by
 have Fn := PySem.F.excBase_Exception
 repeat (first | with_reducible refine wpAny_loadPart_at hC ?_ | with_reducible refine wpAny_madeBy_exc hC ?_ | wp_step)
 refine codeAny_call_builtin_code (Code.quiet_builtin _ Fn.quiet) (qN9 hC ?_)
 refine qS8 hC ?_ hrest
 show wpAny _ _ _ _ _ _
 have kp : ∀ b o, h.get? b = some o → ((h.push { cls := .type "tuple", data := .seq rest.toArray }).push { cls := .ref c, data := .fields #[.ref h.objs.size, .none, .none, .none, .bool false, .none] }).get? b = some o := fun b o e => Heap.get?_push_of_some _ (Heap.get?_push_of_some _ e)
 have hC₁ := kp _ _ hC
 have hget : ((h.push { cls := .type "tuple", data := .seq rest.toArray }).push
   { cls := .ref c, data := .fields #[.ref h.objs.size, .none, .none, .none, .bool false, .none] }).get? (h.objs.size + 1) = some
   { cls := .ref c, data := .fields #[.ref h.objs.size, .none, .none, .none, .bool false, .none] } := by heap_get
 have hcC : (Value.ref c :: bmX r).contains (.ref c) = true := by simp
 have X₁ := X.keeps kp
 unfold isInstance
 repeat (first | with_reducible refine wpAny_loadPart_at hget ?_ | (with_reducible refine wpAny_isSubtype_exc hC₁ ?_; rw [hcC]) | wp_step)
 show wpAny _ _ (typeLookup (.ref c) _) _ _ _
 refine (looks_findIn X₁ hi).at ?_
 refine wpAny_holding (wpAny_bind ((bind_fn X₁ (.ref (h.objs.size + 1)) hf).at ?_))
 show wpAny _ _ (call (.ref iA) (.ref (h.objs.size + 1) :: rest) >>= fun r => pure (some r)) _ _ _
 refine wpAny_bind (wpAny_mono (hq A rfl) (fun v s' z => ?_) fun _ _ z => z.elim)
 obtain ⟨rfl, z⟩ := z
 exact wpAny_pure (wpAny_pure z)
theorem qQA {rest : List Value} {iA : Addr} {Q : Value → Shared → Prop} (X : K.In h) (hi : findIn K (.ref c) "__init__" = some (some (.ref iA))) (hf : typeIn K (.ref iA) = some (.type "function"))
  (hC : h.get? c = some (excClassObj nm q c N bs (bmX r) hdct sn sub ab col dd k0 k1 k2 k3 k5 "Exception.__new__"))
  (hq : ∀ A', A'.depth ≤ A.depth + 2 → wpAny (model prog w) A' (call (.ref iA) (.ref (h.objs.size + 1) :: rest)) (fun v s' => v = .none ∧ Q (.ref (h.objs.size + 1)) s') (fun _ _ => False) ⟨(h.push { cls := .type "tuple", data := .seq rest.toArray }).push
   { cls := .ref c, data := .fields #[.ref h.objs.size, .none, .none, .none, .bool false, .none] }, g, d, t, os⟩) (hrest : rest.length ≤ sizeLine) :
  wpAny (model prog w) A (call (.ref c) rest) Q E ⟨h, g, d, t, os⟩ := by
 have f1 := tc_lookup
 have f2 := PySem.tc_bind (.ref c)
 have hT : (⟨h, g, d, t, os⟩ : Shared).TypeIs (.ref c) "type" := ⟨_, hC, rfl⟩
 refine wpAny_call (codeAny_of_tree ?_)
 show wpAny _ _ (callAny (.ref c) _) _ _ _
 repeat (any_goals (first | assumption | with_reducible refine wpAny_loadPart_at hC ?_ | wp_step))
 refine ⟨rfl, ?_⟩
 refine codeAny_call_builtin_at (Code.quiet_builtin _ (by decide +kernel)) PySem.entry_typeCall (wpAny_check_type_call_sub hC (qEJ X hi hf hC (fun A' hA' => ?_) hrest))
 refine hq A' (hA' ▸ ?_)
 show A.depth + Code.weight _ ≤ A.depth + 2
 have : Code.weight (Code.builtin "type.__call__" { pos := [Value.ref c] ++ rest }) ≤ 2 := Nat.le_of_ble_eq_true (by kernel_rfl)
 exact Nat.add_le_add_left this _
end
section
variable {M : Model} {A : Around} {E : Value → Shared → Prop} {env : Env}
variable {nm q : Str} {c r N : Addr} {bs : List Value} {hdct : Bool} {sn : List Str} {sub : List Value} {ab : Bool} {col : Option Bool} {dd : Option Addr} {k0 k1 k2 k3 k5 : Option Value} {newId : String}
theorem qL3 {s : Shared} {x : Sem Value} {Q : Flow → Shared → Prop} (hh : A.handled = none)
  (h : wpAny M A x (fun v s₁ => ∃ e t dx, v = .ref e ∧ s₁.heap.get? c = some (excClassObj nm q c N bs (bmX r) hdct sn sub ab col dd k0 k1 k2 k3 k5 newId) ∧
   s₁.heap.get? e = some { cls := .ref c, dict := some dx, data := .fields #[.ref t, .none, .none, .none, .bool false, .none] } ∧ E (.ref e) s₁) E s) :
  wpAny M A (raiseStmt env (some x) none) Q E s := by
 have hcB : (Value.ref c :: bmX r).contains (.type "BaseException") = true := by simp
 unfold raiseStmt
 refine wpAny_bind (wpAny_mono h (fun v s₁ h₁ => ?_) fun _ _ x => x)
 obtain ⟨e, t, dx, rfl, hC, he, hE⟩ := h₁
 obtain ⟨hp, g, d, tk, os⟩ := s₁
 repeat (first | with_reducible refine wpAny_loadPart_at he ?_ | with_reducible refine wpAny_loadPart_at hC ?_ | (with_reducible refine wpAny_isSubtype_exc hC ?_; rw [hcB]) | wp_step)
 exact wpAny_raiseNew_none hh hE
end
end Mine
end
noncomputable section
open PySem PySem.W PySem.Calls PyProof.Rows
set_option genInjectivity false
namespace Mine
structure ED where
 nm : Str
 q : Str
 r : Addr
 N : Addr
 bs : List Value
 hdct : Bool
 sn : List Str
 sub : List Value
 ab : Bool
 col : Option Bool
 dd : Option Addr
 k0 : Option Value
 k1 : Option Value
 k2 : Option Value
 k3 : Option Value
 k5 : Option Value
noncomputable def ED.obj (D : ED) (c : Addr) : Obj := excClassObj D.nm D.q c D.N D.bs (bmX D.r) D.hdct D.sn D.sub D.ab D.col D.dd D.k0 D.k1 D.k2 D.k3 D.k5 "Exception.__new__"
structure ExCls (C : Cx) (FI : Fi) (iA : Addr) : Prop where
 obj : ∃ D : ED, C.h0.get? C.excC = some (D.obj C.excC)
 init : findIn C.K (.ref C.excC) "__init__" = some (some (.ref iA))
 fn : typeIn C.K (.ref iA) = some (.type "function")
 keep : keepIn C.K (.ref C.excC) = true
 ini : ExInit C FI iA
section
variable {C : Cx} {F FI : Fi} {d n : Nat}
noncomputable def qUN (c h : Addr) : Obj := { cls := .ref c, data := .fields #[.ref h, .none, .none, .none, .bool false, .none] }
noncomputable def qCI (c : Addr) (rest : List Value) (h : Heap) : Heap := (h.push { cls := .type "tuple", data := .seq rest.toArray }).push (qUN c h.objs.size)
theorem dA {c : Addr} {rest : List Value} {h : Heap} : ∀ b o, h.get? b = some o → (qCI c rest h).get? b = some o := fun b o e => Heap.get?_push_of_some _ (Heap.get?_push_of_some _ e)
theorem qE5 {c : Addr} {rest : List Value} {h : Heap} : (qCI c rest h).get? (h.objs.size + 1) = some (qUN c h.objs.size) := by unfold qCI; heap_get
theorem di {h h' : Heap} (k : ∀ b o, h.get? b = some o → h'.get? b = some o) {b : Addr} (e : h'.get? b = none) : h.get? b = none := Option.eq_none_iff_forall_ne_some.mpr fun o q => qH (e.symm.trans (k b o q))
theorem qR7 {f : FM} {ga : GA} {la : List Addr} {c : List Nat} {i : Int} {us : List Value} (h : VRs f ga la [.str c, .int i] us) : ∃ t1 t2, us = [.str ⟨c.toArray⟩ t1, .int i t2] ∧ c.length ≤ line :=
 h.consE fun u us h1 h2 => h1.2.elim fun t1 e1 => h2.consE (P := fun us => ∃ t1 t2, u :: us = [.str ⟨c.toArray⟩ t1, .int i t2] ∧ c.length ≤ line) fun u2 us h3 h4 => h3.elim fun t2 e2 => h4.nilE (P := fun us => ∃ t1 t2, u :: u2 :: us = [.str ⟨c.toArray⟩ t1, .int i t2] ∧ c.length ≤ line) ⟨t1, t2, e1 ▸ e2 ▸ rfl, h1.1⟩
theorem Post.exc {c : List Nat} {v : PV} {st : St} {P : St → Out → Prop} (h : ∀ a, v = .int a → P st (.exc c a)) : Post (fun st => match v with
  | .int a => some (.exc c a, st)
  | _ => none) st P := fun st' o e => by
 cases v with
 | int a => exact Post.pure (P := P) (h a rfl) st' o e
 | _ => exact qH e
theorem kM (W : Glo C) {iA : Addr} (HX : ExCls C FI iA) {x : Str} {code : Str} {c : List Nat} {e : Expr} {a : EC} {k : Nat} {np cp sp p : Pos} (hx : C.mg x = some (.ref C.excC)) (hk : F.glob x = true) (h1 : code = ⟨c.toArray⟩) (h2 : decide (c.length ≤ line) = true) (ha : qX C F d e a) (hst : noStar [.Constant (.str code) k sp, e] = true := by exact ttR) (hst2 : noStar [e] = true := by exact ttR) (hd0 : 0 < d := by decide) :
  yc C F d n (.Raise (some (.Call (.Name x np) [.Constant (.str code) k sp, e] [] cp)) none p) (uZ c a) := fun st =>
 .bnd fun st' v e1 => .exc fun i ei => by
  have hl : kq C F d [.Constant (.str code) k sp, e] (qB (eC (.str c)) (qB a qI)) := qA (qCA h1 h2) (qA ha qR hst2) rfl
  have k1 := hl.2 st st' [.str c, v] (by show bnd (eC (.str c)) _ st = _; unfold bnd; show bnd (qB a qI) _ st = _; unfold bnd; rw [show qB a qI st = some ([v], st') by show bnd a _ st = _; unfold bnd; rw [e1]; rfl])
  refine ⟨k1.1.flags, fun {A L b cd fs f ga la s Q E} rm M hq => HX.obj.elim fun D hC => ?_⟩
  show wpAny _ A (do standAt p; raiseStmt (F.env L b cd) (some (do let v ← eval (.Call (.Name x np) [.Constant (.str code) k sp, e] [] cp) (F.env L b cd); standAt p; pure v)) none) _ _ _
  refine wpAny_bind (wpAny_standAt (qL3 (c := C.excC) (nm := D.nm) (q := D.q) (r := D.r) (N := D.N) (bs := D.bs) (hdct := D.hdct) (sn := D.sn) (sub := D.sub) (ab := D.ab) (col := D.col) (dd := D.dd) (k0 := D.k0) (k1 := D.k1) (k2 := D.k2) (k3 := D.k3) (k5 := D.k5) (newId := "Exception.__new__") (rm.handled hd0) ?_))
  refine wpAny_bind (wpAny_Call_Name_kw (jz W hk M hx ?_))
  refine callWith_of (P := C.K.In) (by rw [(zp _ _ hst).2]; rfl) (keeps_K HX.keep) (jN (zp _ _ hst).2 (k1.2.2 rm M fun f1 s1 us g1 M1 v1 => ⟨W.kin.keeps M1.up, ?_⟩))
  obtain ⟨t1, t2, hus, hcl⟩ := qR7 (ei ▸ v1 : VRs f1 ga la [.str c, .int i] us)
  have fe : s1.heap.get? (s1.heap.objs.size + 1) = none := Heap.get?_none_of_le (Nat.le_succ _)
  refine hus ▸ qQA (h := s1.heap) (g := s1.gens) (d := s1.drawn) (t := s1.toks) (os := s1.os) (W.kin.keeps M1.up) HX.init HX.fn (M1.up _ _ hC) (fun A' hA' => ?_) (by show 2 ≤ sizeLine; rw [sizeLine_eq]; decide)
  refine qQP W HX.ini (s := { s1 with heap := qCI C.excC [.str ⟨c.toArray⟩ t1, .int i t2] s1.heap }) (by have := rm.depth; lia) (fun b o q => dA b o (M1.up b o q)) (di M1.up fe) qE5 fun h' dx od tk' hdx he hod hc ha' kp' htk => ⟨rfl, ?_⟩
  have hdx : (qCI C.excC [.str ⟨c.toArray⟩ t1, .int i t2] s1.heap).get? dx = none := hdx
  have fd : s1.heap.get? dx = none := di dA hdx
  have hed : s1.heap.objs.size + 1 ≠ dx := fun q => qH (hdx.symm.trans (q ▸ qE5))
  have kpp : ∀ b o, s1.heap.get? b = some o → h'.get? b = some o := fun b o e => kp' b o (fun q => qH (fe.symm.trans (q ▸ e))) (dA b o e)
  have nf : ∀ b, s1.heap.get? b = none → f1 b = none := fun b h => Option.eq_none_iff_forall_ne_some.mpr fun o q => qH (h.symm.trans (M1.fz b o q))
  refine wpAny_bind (wpAny_standAt (wpAny_pure ⟨_, _, dx, rfl, kpp _ _ (M1.up _ _ hC), he, hq _ _ _ _ _ ⟨(g1.trans' (s'' := { s1 with heap := h', toks := tk' }) (f'' := kt f1 dx od) ⟨j9 (nf dx fd), yx fd, fun b o e _ => kpp b o e, fun b o e => ⟨o, kpp b o e⟩⟩).wider fun b hb => (List.mem_cons.mp hb).elim (fun q => q ▸ .head _) (List.mem_append_right (L :: fs)), fun _ => rfl, fun _ => ⟨rfl, rfl⟩, fun b hb => .inl (k1.1.muts _ _ ▸ hb),
    M1.grow kpp (j9 (nf dx fd)) (yx fd) (yN hod fun b o e => kpp b o (M1.fz b o e)) (Nat.lt_of_lt_of_le M1.tk htk) rfl rfl⟩
   (fun b hb o e => ⟨o.slots, kpp b o (g1.keep b o e fun q => (List.mem_cons.mp q).elim (M.fr b hb).2.1 (M.fr b hb).2.2.1)⟩)
   ⟨⟨s1.heap.objs.size + 1, dx, od, t1, t2, none, .none⟩, rfl, ⟨⟨_, _, he, rfl, rfl, rfl, .inl ⟨rfl, rfl⟩⟩, .inl rfl, fun b hb => List.mem_singleton.mp hb ▸ g1.new fe, fun b hb => List.mem_singleton.mp hb ▸ (if_neg hed).trans (nf _ fe), jg, hcl, hc, ha'⟩⟩⟩))
end
section
variable {C : Cx} {F FI : Fi} {d n : Nat}
mutual
theorem VR.data {f : FM} {ga ga' : GA} {la : List Addr} (hx : ga'.exC = ga.exC) : ∀ {p : PV} {v : Value}, p.data = true → VR f ga la p v → VR f ga' la p v
 | .none, _, _, h => h
 | .bool _, _, _, h => h
 | .int _, _, _, h => h
 | .str _, _, _, h => h
 | .tup _, _, s, h => by
  unfold VR at h
  exact h.elim fun a h => h.elim fun vs h => h.1 ▸ VR.tup' h.2.1 (VRs.data hx s h.2.2)
 | .fl _, _, s, h => h.flE (P := fun p u => VR f ga' la p u) fun a vs n h1 h2 => VR.fl' n h1 (VRs.data hx s h2)
 | .lst (.loc _), _, s, h => h
 | .lst .toks, _, s, _ => Bool.noConfusion s
 | .lst .rows, _, s, _ => Bool.noConfusion s
 | .lex, _, s, _ => Bool.noConfusion s
 | .dg, _, s, _ => Bool.noConfusion s
 | .exc _ _, _, s, h => by
  unfold VR at h ⊢
  rw [hx]; exact h
theorem VRs.data {f : FM} {ga ga' : GA} {la : List Addr} (hx : ga'.exC = ga.exC) : ∀ {p : List PV} {v : List Value}, PV.datas p = true → VRs f ga la p v → VRs f ga' la p v
 | [], _, _, h => h
 | x :: r, _, s, h => h.consE (P := fun v => VRs f ga' la (x :: r) v) fun v vs h1 h2 => VRs.cons (VR.data hx (Bool.and_eq_true_iff.mp s).1 h1) (VRs.data hx (Bool.and_eq_true_iff.mp s).2 h2)
end
theorem Cell.ga {f : FM} {ga ga' : GA} {la la' : List Addr} {h : Heap} {a : Addr} {l : List PV} (x : Cell f ga la h a l) : Cell f ga' la' h a l := ⟨x.1, x.2.1, x.2.2.elim fun vs y => ⟨vs, y.1, y.2.solid x.2.1⟩⟩
structure MkOk (C : Cx) (c iA : Addr) : Prop where
 makes : makesIn C.K c = true
 init : findIn C.K (.ref c) "__init__" = some (some (.ref iA))
 fn : typeIn C.K (.ref iA) = some (.type "function")
 keep : keepIn C.K (.ref c) = true
theorem qK3 {A : Around} {c iA : Addr} {s : Shared} {rest : List Value} {Q E : Value → Shared → Prop} (X : C.K.In s.heap) (H : MkOk C c iA)
  (hq : ∀ A', A'.depth ≤ A.depth + 2 → codeAny (model C.prog C.w) A' (.call (.ref iA) ⟨.ref (s.heap.objs.size + 1) :: rest, []⟩) (fun r s' => r = .ok (.ret .none) ∧ Q (.ref (s.heap.objs.size + 1)) s') { s with heap := (s.heap.push emptyDict).push (instObj c s.heap.objs.size) }) :
  wpAny (model C.prog C.w) A (call (.ref c) rest) Q E s := by
 obtain ⟨h, g, d, t, os⟩ := s
 refine wpAny_call (make_core (makes_of X H.makes) (looks_findIn X H.init) (fun self => bind_fn X self H.fn) (.inl rfl) ?_)
 refine codeAny_mono (hq _ ?_) fun r s' z => ?_
 ·show A.depth + Code.weight _ ≤ A.depth + 2
  have : Code.weight (Code.builtin "type.__call__" { pos := Value.ref c :: rest }) ≤ 2 := Nat.le_of_ble_eq_true (by kernel_rfl)
  exact Nat.add_le_add_left this _
 ·obtain ⟨rfl, z⟩ := z
  exact ⟨rfl, z⟩
structure Born (C : Cx) (F : Fi) (np : Nat) (us : List Value) (c L x dx : Addr) (m : Str → Option Value) (k : Nat) (h0 : Heap) (s : Shared) : Prop where
 keep : ∀ b o, h0.get? b = some o → s.heap.get? b = some o
 up : ∀ b o, C.h0.get? b = some o → s.heap.get? b = some o
 loc : s.heap.Ns L (fun x => ((F.nm.take np).zip us).reverse.lookup x)
 obj : s.heap.get? x = some (instObj c dx)
 dict : ∃ o, s.heap.get? dx = some o ∧ gh k o ∧ o.dict = none
 ns : s.heap.Ns dx m
 fL : h0.get? L = none
 fx : h0.get? x = none
 fd : h0.get? dx = none
 ne : L ≠ dx ∧ x ≠ dx ∧ L ≠ x
theorem qB2 (W : Glo C) {np : Nat} {us : List Value} {c L x dx a : Addr} {cd : Value} {m : Str → Option Value} {k : Nat} {h0 : Heap} {s : Shared} {A : Around} {name : Str} {sp ap p : Pos} {e : Expr} {Q : Flow → Shared → Prop} {E : Value → Shared → Prop}
  (hs : StOk C.K c) (hno : findIn C.K (.ref c) name = some none) (hok : (F.ok && (F.nm[0]? == some ("self" : Str))) = true) (hnp : np ≤ F.nm.length) (hus : us.length = np) (h0' : us[0]? = some (.ref x)) (hm : m name = none) (hk : k < 100) (hC0 : ∀ b o, C.h0.get? b = some o → h0.get? b = some o)
  (hsw : swapsWith e (some (.Attribute (.Name "self" sp) name ap)) p.line (F.env L a cd) = pure false)
  (h : wpAny (model C.prog C.w) A (eval e (F.env L a cd)) (fun v s1 => Born C F np us c L x dx m k h0 s1 ∧ ∀ s2, Born C F np us c L x dx (fun y => if y = name then some v else m y) (k + 1) h0 s2 → (∀ b o, b ≠ dx → s1.heap.get? b = some o → s2.heap.get? b = some o) → s1.toks ≤ s2.toks → s2.gens = s1.gens → s2.os = s1.os → Q .next s2) E s) :
  wpAny (model C.prog C.w) A (exec (.Assign [.Attribute (.Name "self" sp) name ap] e p) (F.env L a cd)) Q E s := by
 refine plainObj_wpAny_Assign_Attribute (wpAny_mono h (fun v s1 h1 => ?_) fun _ _ z => z) hsw
 obtain ⟨B, hq⟩ := h1
 refine kE (i := 0) hok B.loc hnp hus h0' ?_
 obtain ⟨o, ho, hb, hod⟩ := B.dict
 refine wF (W.kin.keeps B.up) hs hno ⟨B.obj, rfl, rfl, ho⟩ rfl ho hb (by lia) B.ns fun h' o' e1 b1 n1 s1' d1 => ?_
 have kp : ∀ b o, b ≠ dx → s1.heap.get? b = some o → h'.get? b = some o := fun b o hb e => (s1'.2 b hb).trans e
 rw [hm] at b1
 refine hq { s1 with heap := h', toks := s1.toks + 2 } ⟨fun b o q => kp b o (fun z => by rw [z, B.fd] at q; cases q) (B.keep b o q), fun b o q => kp b o (fun z => by have := hC0 b o q; rw [z, B.fd] at this; cases this) (B.up b o q), ju B.loc fun o q => kp _ _ B.ne.1 q, kp _ _ B.ne.2.1 B.obj, ⟨o', e1, b1, d1.trans hod⟩, n1, B.fL, B.fx, B.fd, B.ne⟩ kp (by show s1.toks ≤ s1.toks + 2; lia) rfl rfl
end
section
variable {C : Cx} {F FI : Fi} {d n : Nat}
noncomputable def qU9 (i : Nat) (st : St) : St := { v := st.v.set i none, ls := st.ls, g := { st.g with rows := [], hd := true } }
theorem qMI {α : Type} {p : α → Bool} {l : List α} (h : l.all p = true) {i : Nat} {x : α} (e : l[i]? = some x) : p x = true := List.all_eq_true.mp h x (List.mem_of_getElem? e)
theorem qJ6 {v : List (Option PV)} {i j : Nat} {x : PV} (e : (v.set i none)[j]? = some (some x)) : v[j]? = some (some x) := by
 by_cases q : i = j
 ·rw [q, List.getElem?_set_self'] at e
  cases z : v[j]? with
  | none => rw [z] at e; exact qH e
  | some y => rw [z] at e; exact qH (Option.some.inj e)
 ·exact (List.getElem?_set_ne q).symm.trans e
theorem dk {i : Nat} {v : PV} {st st2 : St} {g : G} (h : za i v st = some st2) : za i v { v := st.v.set i none, ls := st.ls, g := g } = some { st2 with g := g } :=
 (if_pos (by rw [List.length_set]; exact (qb h).1)).trans ((qb h).2 ▸ congrArg (fun v => some (St.mk v st.ls g)) (List.set_set ..))
theorem Post.cond {α : Type} {c : St → Bool} {st : St} {P : St → α → Prop} {a : St → Option (α × St)} (h : c st = true → Post a st P) : Post (fun st => if c st then a st else none) st P := fun st' y e => by
 by_cases q : c st = true
 ·exact h q st' y ((if_pos q).symm.trans e)
 ·exact qH ((if_neg q).symm.trans e)
theorem Post.putG {i : Nat} {v : PV} {k : St → G} {st : St} {P : St → Out → Prop} (h : ∀ st2, za i v st = some st2 → P { st2 with g := k st } .nxt) : Post (fun st => match za i v st with
  | some st' => some (.nxt, { st' with g := k st })
  | none => none) st P := fun st' o e => by
 dsimp only at e
 cases q : za i v st with
 | none => rw [q] at e; exact qH e
 | some z => rw [q] at e; exact Post.pure (P := P) (h z q) st' o e
theorem Mid.born {nm : List Str} {L : Addr} {fs : List Addr} {f f' : FM} {ga ga' : GA} {la : List Addr} {st st' : St} {s s2 : Shared} (M : Mid C nm L fs f ga la st s) (kp : ∀ b o, s.heap.get? b = some o → s2.heap.get? b = some o) (le : ∀ b o, f b = some o → f' b = some o) (fn : ∀ b o, f' b = some o → f b = none → s.heap.get? b = none) (fz : ∀ b o, f' b = some o → s2.heap.get? b = some o)
  (htk : 0 < s2.toks) (hg : s2.gens = s.gens) (hos : s2.os = s.os) (hv : st'.v.length = st.v.length) (hls : st'.ls = st.ls) (hx : ga'.exC = ga.exC) (loc : ∀ (j : Nat) (v : PV), st'.v[j]? = some (some v) → st.v[j]? = some (some v) ∧ ∀ u, VR f ga la v u → VR f' ga' la v u)
  (hmu : ∀ b ∈ muts ga' la st'.g, b ∈ muts ga la st.g ∨ s.heap.get? b = none ∧ f' b = none) (nd : (muts ga' la st'.g).Nodup)
  (dg : st'.g.hd = true → DgAt C f' ga' ∧ Cell f' ga' la s2.heap ga'.rwA st'.g.rows) (lx : st'.g.hl = true → st'.g.hd = true ∧ f' ga'.lxA = some (instObj C.lexC ga'.lxD) ∧ LxAt f' ga' la st'.g.text st'.g.at_ s2.heap ∧ Cell f' ga' la s2.heap ga'.tkA st'.g.toks) (n0 : 0 < n) (fix1 : n ≤ 1 → ga'.dgA = ga.dgA ∧ ga'.rwA = ga.rwA) :
  Adv C nm L fs n (L :: muts ga la st.g) f f' ga ga' la la st st' s s2 :=
 have off : ∀ b o, s.heap.get? b = some o → f b = none → f' b = none := fun b o e n => Option.eq_none_iff_forall_ne_some.mpr fun o' q => qH ((fn b o' q n).symm.trans e)
 ⟨⟨le, fn, fun b o e _ => kp b o e, fun b o e => ⟨o, kp b o e⟩⟩, fun h => absurd h (Nat.ne_of_gt n0), fix1, fun b hb => (hmu b hb).imp id And.left,
  ⟨fun b o e => le b o (M.base b o e), fz, htk, hg.trans M.gens, hos.trans M.os, hv.trans M.lenv, M.loc.elim fun m x => ⟨m, ju x.1 fun o e => kp _ o e, fun i y v e1 e2 => (x.2 i y v e1 (loc i v e2).1).elim fun u z => ⟨u, z.1, (loc i v e2).2 u z.2⟩⟩,
   M.hasL.elim fun o e => off L o e M.freshL, fun b hb => (hmu b hb).elim (fun q => ⟨(yn M b q).elim fun o e => off b o e (M.mutF b q).1, (M.mutF b q).2⟩) fun q => ⟨q.2, fun z => M.hasL.elim fun o e => qH (q.1.symm.trans (z ▸ e))⟩, nd, M.len.trans (congrArg List.length hls.symm),
   fun j a l e1 e2 => ((M.ls j a l e1 (hls ▸ e2)).keeps (la' := la) le fun o e => kp _ o e).ga, dg, lx, hx.trans M.exc, fun b hb => have y := M.fr b hb; ⟨y.2.2.2.elim fun o z => off b o z.1 y.1, y.2.1, fun q => (hmu b q).elim y.2.2.1 fun q => y.2.2.2.elim fun o z => qH (q.1.symm.trans z.1), y.2.2.2.elim fun o z => ⟨o, kp b o z.1, z.2⟩⟩⟩⟩
theorem qIF {f : FM} {ga : GA} {la : List Addr} {h : Heap} {a : Addr} (ol : h.get? a = some ⟨.type "list", none, .seq #[] 0, #[]⟩) : Cell f ga la h a [] := ⟨Nat.zero_le _, rfl, [], ⟨_, 0, ol, rfl, rfl, rfl⟩, VRs.nil'⟩
section
variable {c np : Nat} {us : List Value} {L x dx : Addr} {m : Str → Option Value} {k : Nat} {h0 : Heap} {s s' : Shared}
theorem Born.grow (B : Born C F np us c L x dx m k h0 s) (kp : ∀ b o, s.heap.get? b = some o → s'.heap.get? b = some o) : Born C F np us c L x dx m k h0 s' :=
 ⟨fun b o e => kp b o (B.keep b o e), fun b o e => kp b o (B.up b o e), ju B.loc fun o e => kp _ o e, kp _ _ B.obj, B.dict.elim fun o z => ⟨o, kp _ _ z.1, z.2⟩, ju B.ns fun o e => kp _ o e, B.fL, B.fx, B.fd, B.ne⟩
theorem qJP (W : Glo C) {iA : Addr} {body : List Stmt} {rest : List Value} (HM : MkOk C c iA) (hok : F.ok = true) (hfn : qBV C F iA np body) (hnp : np ≤ F.nm.length) {A : Around} {Q E : Value → Shared → Prop} (hrl : A.depth + 2 < recursionLimit) (up : ∀ b o, C.h0.get? b = some o → s.heap.get? b = some o) (hlen : rest.length + 1 = np)
  (h : ∀ {A' : Around} {L' : Addr} {cd : Value} {x dx : Addr} {s1 : Shared} {E' : Value → Shared → Prop}, Born C F np (.ref x :: rest) c L' x dx (fun _ => none) 0 s.heap s1 → s.toks ≤ s1.toks → s1.gens = s.gens → s1.os = s.os → wpAny (model C.prog C.w) A' (execs body (F.env L' iA cd)) (fun fl s' => fl = .next ∧ Q (.ref x) s') E' s1) :
  wpAny (model C.prog C.w) A (call (.ref c) rest) Q E s := by
 have kp0 : ∀ b o, s.heap.get? b = some o → ((s.heap.push emptyDict).push (instObj c s.heap.objs.size)).get? b = some o := fun b o e => Heap.get?_push_of_some _ (Heap.get?_push_of_some _ e)
 have e1 : ((s.heap.push emptyDict).push (instObj c s.heap.objs.size)).get? (s.heap.objs.size + 1) = some (instObj c s.heap.objs.size) := by heap_get
 have e2 : ((s.heap.push emptyDict).push (instObj c s.heap.objs.size)).get? s.heap.objs.size = some emptyDict := by heap_get
 refine qK3 (W.kin.keeps up) HM fun A' hA' => qCD W hok hfn hnp (Nat.lt_of_le_of_lt hA' hrl) (fun b o q => kp0 b o (up b o q)) hlen fun L' cd' h₁ hns kp hL' => wpAny_mono (h
  ⟨fun b o e => kp b o (kp0 b o e), fun b o q => kp b o (kp0 b o (up b o q)), hns, kp _ _ e1, ⟨_, kp _ _ e2, ⟨rfl, #[], _, rfl, Nat.le_refl _⟩, rfl⟩, ⟨_, #[], _, kp _ _ e2, rfl, fun e he => absurd he (by simp), fun _ => rfl⟩, di kp0 hL', Heap.get?_none_of_le (Nat.le_succ _), Heap.get?_size, ⟨fun q => qH ((congrArg _ q.symm).trans hL' |>.symm.trans e2), Nat.succ_ne_self _, fun q => qH ((congrArg _ q.symm).trans hL' |>.symm.trans e1)⟩⟩
  (Nat.le_add_right _ _) rfl rfl) (fun fl s' z => ⟨z.1 ▸ rfl, z.2⟩) fun _ _ z => z
structure Ini (C : Cx) (F : Fi) (np : Nat) (us : List Value) (c : Nat) (x : Addr) (h0 : Heap) : Prop where
 st : StOk C.K c
 ok : (F.ok && (F.nm[0]? == some ("self" : Str))) = true
 npl : np ≤ F.nm.length
 len : us.length = np
 self : us[0]? = some (.ref x)
 up : ∀ b o, C.h0.get? b = some o → h0.get? b = some o
variable {a : Addr} {cd : Value} {A : Around} {name : Str} {sp ap q p : Pos} {Q : Flow → Shared → Prop} {E : Value → Shared → Prop}
theorem Ini.list (I : Ini C F np us c x h0) (W : Glo C) (hno : findIn C.K (.ref c) name = some none) (hm : m name = none) (hk : k < 100) (B : Born C F np us c L x dx m k h0 s)
  (h : ∀ lA s2, Born C F np us c L x dx (fun y => if y = name then some (.ref lA) else m y) (k + 1) h0 s2 → h0.get? lA = none → lA ≠ x → lA ≠ dx → s2.heap.get? lA = some ⟨.type "list", none, .seq #[] 0, #[]⟩ → s.toks ≤ s2.toks → s2.gens = s.gens → s2.os = s.os → Q .next s2) :
  wpAny (model C.prog C.w) A (exec (.Assign [.Attribute (.Name "self" sp) name ap] (.List [] q) p) (F.env L a cd)) Q E s :=
 have n2 : s.heap.objs.size ≠ dx := B.dict.elim fun o z => Nat.ne_of_gt (Heap.lt_size z.1)
 qB2 W I.st hno I.ok I.npl I.len I.self hm hk I.up rfl (PyProof.Rows.List_ (spliced_nil (wpAny_newObj_type ⟨B.grow fun b o e => Heap.get?_push_of_some _ e, fun s2 B2 kp2 t g o => h _ s2 B2 (di B.keep Heap.get?_size) (Nat.ne_of_gt (Heap.lt_size B.obj)) n2 (kp2 _ _ n2 (Heap.get?_push_size _ rfl)) t g o⟩ (Nat.zero_le _))))
end
theorem Mid.newDg {nm : List Str} {L : Addr} {fs : List Addr} {f : FM} {ga : GA} {la : List Addr} {st : St} {s s2 : Shared} {i : Nat} {np : Nat} {us : List Value} {L' x dx lA : Addr} {k : Nat} {m : Str → Option Value} (M : Mid C nm L fs f ga la st s) (hl : st.g.hl = false) (hod : kY i st = true)
  (B : Born C F np us C.dgC L' x dx m k s.heap s2) (htk : 0 < s2.toks) (hg : s2.gens = s.gens) (hos : s2.os = s.os) (fl : s.heap.get? lA = none) (hxl : lA ≠ x) (hdl : lA ≠ dx)
  (h1 : m "rows" = some (.ref lA)) (h2 : m "put" = none) (ol : s2.heap.get? lA = some ⟨.type "list", none, .seq #[] 0, #[]⟩) :
  ∃ od, Adv C nm L fs 2 (L :: muts ga la st.g) f (kt (kt f x (instObj C.dgC dx)) dx od) ga { ga with dgA := x, rwA := lA } la la st (qU9 i st) s s2 := B.dict.elim fun od zd => by
 have nf : ∀ b, s.heap.get? b = none → f b = none := fun b h => Option.eq_none_iff_forall_ne_some.mpr fun o e => qH (h.symm.trans (M.fz b o e))
 have nfd : kt f x (instObj C.dgC dx) dx = none := (if_neg (Ne.symm B.ne.2.1)).trans (nf dx B.fd)
 have le : ∀ b o, f b = some o → kt (kt f x (instObj C.dgC dx)) dx od b = some o := fun b o e => j9 nfd b o (j9 (nf x B.fx) b o e)
 have hmu : muts { ga with dgA := x, rwA := lA } la (qU9 i st).g = lA :: la := by
  unfold muts qU9
  simp [hl]
 refine ⟨od, M.born B.keep le (fun b o e n => ?_) (yN zd.1 (yN B.obj fun b o e => B.keep b o (M.fz b o e))) htk hg hos (List.length_set ..) rfl rfl (fun j v e => ⟨qJ6 e, fun u h => VR.data (ga := ga) (ga' := { ga with dgA := x, rwA := lA }) rfl (qMI hod e) (h.up le)⟩)
  (fun b hb => ?_) (hmu ▸ List.nodup_cons.mpr ⟨fun q => (List.mem_iff_getElem?.mp q).elim fun j e => (yn M lA (vT e)).elim fun o e => qH (fl.symm.trans e), M.apart.2.2.2⟩)
  (fun _ => ⟨⟨dx, od, j9 nfd _ _ jg, jg, (ym B.ns zd.1 _).trans (congrArg some h1), (ym B.ns zd.1 _).trans (congrArg some h2)⟩, qIF ol⟩) (fun h => Bool.noConfusion (hl.symm.trans h)) (by decide) (fun h => absurd h (by decide))⟩
 ·exact (Classical.em (kt f x (instObj C.dgC dx) b = none)).elim (yx B.fd b o e) fun z => (Option.ne_none_iff_exists'.mp z).elim fun o' q => yx B.fx b o' q n
 ·rw [hmu] at hb
  exact (List.mem_cons.mp hb).elim (fun q => .inr (q ▸ ⟨fl, (if_neg hdl).trans ((if_neg hxl).trans (nf _ fl))⟩)) fun q => (List.mem_iff_getElem?.mp q).elim fun j e => .inl (vT e)
structure DgInit (C : Cx) (FI : Fi) (iA : Addr) : Prop where
 ok : FI.ok = true
 nm : FI.nm = [("self" : Str)]
 fn : ∃ p1 p2 p3 p4, qBV C FI iA 1 [.Assign [.Attribute (.Name "self" p1) "rows" p2] (.List [] p3) p4]
 made : MkOk C C.dgC iA
 st : StOk C.K C.dgC
 put : findIn C.K (.ref C.dgC) "rows" = some none
theorem Fi.nth {F : Fi} (h : F.ok = true) {i : Nat} {x : Str} (e : F.nm[i]? = some x) : (F.ok && (F.nm[i]? == some x)) = true := by rw [h, e]; exact beq_self_eq_true x
theorem Room.two {A : Around} {L : Addr} {fs : List Addr} (rm : Room d A L fs) : A.depth + 2 < recursionLimit := by have := rm.depth; lia
theorem qB9 (W : Glo C) {iA : Addr} (HI : DgInit C FI iA) {i : Nat} {x : Str} {xp fp cp p : Pos} (hx : C.mg "Diags" = some (.ref C.dgC)) (hk : F.glob "Diags" = true) (hok : (F.ok && (F.nm[i]? == some x)) = true) : yc C F d 2 (.Assign [.Name x xp] (.Call (.Name "Diags" fp) [] [] cp) p) (uY i) := fun st =>
 .cond fun hc => .putG fun st2 hp => ⟨⟨fun h => absurd h (by decide), fun h => absurd h (by decide), (jW hp).2.2⟩, fun rm M hq => wpAny_Assign_Name (wpAny_Call_Name_kw (jz W hk M hx (callWith_K0 (W.kin.keeps M.up) HI.made.keep
  (HI.fn.elim fun q1 z => z.elim fun q2 z => z.elim fun q3 z => z.elim fun q4 hfn => qJP (rest := []) W HI.made HI.ok hfn (by rw [HI.nm]; decide) rm.two M.up rfl fun {A' L' cd x dx s1 E'} B t1 g1 o1 => wpAny_execs_cons
   (Ini.list (np := 1) (us := [.ref x]) (k := 0) (m := fun _ => none) ⟨HI.st, Fi.nth HI.ok (by rw [HI.nm]; rfl), by rw [HI.nm]; decide, rfl, rfl, M.up⟩ W HI.put rfl (by decide) B fun lA s2 B2 fl n1 n2 ol t2 g2 o2 => wpAny_execs_nil ⟨rfl,
    (M.newDg (i := i) (Bool.not_eq_true' _ |>.mp (Bool.and_eq_true_iff.mp hc).1) (Bool.and_eq_true_iff.mp hc).2 B2 (Nat.lt_of_lt_of_le M.tk (Nat.le_trans t1 t2)) (g2.trans g1) (o2.trans o1) fl n1 n2 rfl rfl ol).elim fun od x => x.mid.put hok (v := .dg) rfl (dk hp) fun h' M3 g3 =>
     hq _ _ _ _ (x.trans ⟨g3, fun _ => rfl, fun _ => ⟨rfl, rfl⟩, gI ⟨rfl, rfl, rfl, rfl⟩ (dk hp), M3⟩)⟩))))) rfl⟩
end
section
variable {C : Cx} {F FI : Fi} {d n : Nat}
noncomputable def qVP (i : Nat) (t : List Nat) (st : St) : St := { v := st.v.set i none, ls := st.ls, g := { st.g with text := t, at_ := 0, toks := [], hl := true } }
theorem qRH {f f' : FM} {ga ga' : GA} {la : List Addr} {v : PV} {u : Value} (hx : ga'.dgA = ga.dgA) (h : (match some v with
  | some (.str _) => true
  | some .dg => true
  | none => true
  | _ => false) = true) (x : VR f ga la v u) : VR f' ga' la v u := by
 cases v with
 | str z => exact x
 | dg => exact Eq.trans x (congrArg Value.ref hx.symm)
 | _ => exact Bool.noConfusion h
theorem Mid.newLx {nm : List Str} {L : Addr} {fs : List Addr} {f : FM} {ga : GA} {la : List Addr} {st : St} {s s2 : Shared} {i np : Nat} {us : List Value} {L' x dx lA : Addr} {t : List Nat} {m : Str → Option Value} (M : Mid C nm L fs f ga la st s) (hl : st.g.hl = false) (hd : st.g.hd = true) (hod : qAX i st = true)
  (B : Born C F np us C.lexC L' x dx m 4 s.heap s2) (htk : 0 < s2.toks) (hg : s2.gens = s.gens) (hos : s2.os = s.os) (fl : s.heap.get? lA = none) (hxl : lA ≠ x) (hdl : lA ≠ dx)
  (lx : LxD (kt f x (instObj C.lexC dx)) { ga with lxA := x, lxD := dx, tkA := lA } la t 0 m) (ol : s2.heap.get? lA = some ⟨.type "list", none, .seq #[] 0, #[]⟩) :
  Adv C nm L fs 1 (L :: muts ga la st.g) f (kt f x (instObj C.lexC dx)) ga { ga with lxA := x, lxD := dx, tkA := lA } la la st (qVP i t st) s s2 := by
 have nf : ∀ b, s.heap.get? b = none → f b = none := fun b h => Option.eq_none_iff_forall_ne_some.mpr fun o e => qH (h.symm.trans (M.fz b o e))
 have le := j9 (o := instObj C.lexC dx) (nf x B.fx)
 have hmu : muts { ga with lxA := x, lxD := dx, tkA := lA } la (qVP i t st).g = ga.rwA :: dx :: lA :: la := by
  unfold muts qVP
  simp [hd]
 have old : ∀ b ∈ muts ga la st.g, s.heap.get? b = none → False := fun b h e => (yn M b h).elim fun o z => qH (e.symm.trans z)
 have ola : ∀ b ∈ la, b ∈ muts ga la st.g := fun b h => (List.mem_iff_getElem?.mp h).elim fun j e => vT e
 refine M.born B.keep le (yx B.fx) (yN B.obj fun b o e => B.keep b o (M.fz b o e)) htk hg hos (List.length_set ..) rfl rfl (fun j v e => ⟨qJ6 e, fun u h => qRH (f := f) (ga := ga) rfl (qMI hod e) h⟩)
  (fun b hb => ?_) (hmu ▸ List.nodup_cons.mpr ⟨fun q => (List.mem_cons.mp q).elim (fun q => old _ (wd hd) (q ▸ B.fd)) fun q => (List.mem_cons.mp q).elim (fun q => old _ (wd hd) (q ▸ fl)) (M.apart.1 hd), List.nodup_cons.mpr ⟨fun q => (List.mem_cons.mp q).elim (fun q => hdl q.symm) fun q => old _ (ola _ q) B.fd, List.nodup_cons.mpr ⟨fun q => old _ (ola _ q) fl, M.apart.2.2.2⟩⟩⟩)
  (fun _ => ⟨(M.dg hd).1.ga rfl rfl le, ((M.dg hd).2.keeps (la' := la) le fun o e => B.keep _ o e).ga⟩) (fun _ => ⟨hd, jg, B.dict.elim fun o z => ⟨o, m, z.1, z.2.1, B.ns, lx⟩, qIF ol⟩) (by decide) (fun _ => ⟨rfl, rfl⟩)
 rw [hmu] at hb
 exact (List.mem_cons.mp hb).elim (fun q => .inl (q ▸ wd hd)) fun hb => (List.mem_cons.mp hb).elim (fun q => by rw [q]; exact .inr ⟨B.fd, (if_neg (Ne.symm B.ne.2.1)).trans (nf _ B.fd)⟩) fun hb => (List.mem_cons.mp hb).elim (fun q => by rw [q]; exact .inr ⟨fl, (if_neg hxl).trans (nf _ fl)⟩) fun q => .inl (ola _ q)
theorem qYT {f : FM} {ga : GA} {la : List Addr} {v w : PV} {us : List Value} (h : VRs f ga la [v, w] us) : ∃ u u', us = [u, u'] ∧ VR f ga la v u ∧ VR f ga la w u' :=
 h.consE fun u us h1 h2 => h2.consE (P := fun us => ∃ a b, u :: us = [a, b] ∧ VR f ga la v a ∧ VR f ga la w b) fun u' us h3 h4 => h4.nilE (P := fun us => ∃ a b, u :: u' :: us = [a, b] ∧ VR f ga la v a ∧ VR f ga la w b) ⟨u, u', rfl, h1, h3⟩
structure LxInit (C : Cx) (FI : Fi) (iA : Addr) : Prop where
 ok : FI.ok = true
 nm : FI.nm = [("self" : Str), ("text" : Str), ("diags" : Str)]
 fn : ∃ p1 p2 p3 p4 q1 q2 k q3 q4 r1 r2 r3 r4 s1 s2 s3 s4, qBV C FI iA 3 [.Assign [.Attribute (.Name "self" p1) "text" p2] (.Name "text" p3) p4, .Assign [.Attribute (.Name "self" q1) "at" q2] (.Constant (.int 0) k q3) q4,
  .Assign [.Attribute (.Name "self" r1) "diags" r2] (.Name "diags" r3) r4, .Assign [.Attribute (.Name "self" s1) "tokens" s2] (.List [] s3) s4]
 made : MkOk C C.lexC iA
 st : StOk C.K C.lexC
section
variable {c np : Nat} {us : List Value} {L x dx : Addr} {m : Str → Option Value} {k : Nat} {h0 : Heap} {s s' : Shared} {a : Addr} {cd : Value} {A : Around} {name : Str} {sp ap q p : Pos} {Q : Flow → Shared → Prop} {E : Value → Shared → Prop}
theorem Ini.par (I : Ini C F np us c x h0) (W : Glo C) (hno : findIn C.K (.ref c) name = some none) (hm : m name = none) (hk : k < 100) {i : Nat} {y : Str} {u : Value} (hi : us[i]? = some u) (hy : (F.ok && (F.nm[i]? == some y)) = true) (B : Born C F np us c L x dx m k h0 s)
  (h : ∀ s2, Born C F np us c L x dx (fun y => if y = name then some u else m y) (k + 1) h0 s2 → s.toks ≤ s2.toks → s2.gens = s.gens → s2.os = s.os → Q .next s2) :
  wpAny (model C.prog C.w) A (exec (.Assign [.Attribute (.Name "self" sp) name ap] (.Name y q) p) (F.env L a cd)) Q E s :=
 qB2 W I.st hno I.ok I.npl I.len I.self hm hk I.up rfl (kE (i := i) hy B.loc I.npl I.len hi ⟨B, fun s2 B2 _ t g o => h s2 B2 t g o⟩)
theorem Ini.zero (I : Ini C F np us c x h0) (W : Glo C) (hno : findIn C.K (.ref c) name = some none) (hm : m name = none) (hk : k < 100) {i : Int} {j : Nat} (B : Born C F np us c L x dx m k h0 s)
  (h : ∀ tk s2, Born C F np us c L x dx (fun y => if y = name then some (.int i tk) else m y) (k + 1) h0 s2 → s.toks ≤ s2.toks → s2.gens = s.gens → s2.os = s.os → Q .next s2) :
  wpAny (model C.prog C.w) A (exec (.Assign [.Attribute (.Name "self" sp) name ap] (.Constant (.int i) j q) p) (F.env L a cd)) Q E s :=
 qB2 W I.st hno I.ok I.npl I.len I.self hm hk I.up rfl (wpAny_Constant_int ⟨B.grow fun _ _ e => e, fun s2 B2 _ t g o => h _ s2 B2 (Nat.le_trans (Nat.le_succ _) t) g o⟩)
end
theorem Post.strDg {x y : PV} {st : St} {P : St → Out → Prop} {a : List Nat → St → Option (Out × St)} (h : ∀ s, x = .str s → y = .dg → Post (a s) st P) : Post (fun st => match x, y with
  | .str s, .dg => a s st
  | _, _ => none) st P := fun st' o e => by
 cases x with
 | str s => cases y with
  | dg => exact h s rfl rfl st' o e
  | _ => exact qH e
 | _ => exact qH e
theorem qYP {a b : EC} {st st1 st2 : St} {v w : PV} (e1 : a st = some (v, st1)) (e2 : b st1 = some (w, st2)) : qB a (qB b qI) st = some ([v, w], st2) := by simp only [qB, qI, bnd, e1, e2]
theorem qK6 (W : Glo C) {iA : Addr} (HI : LxInit C FI iA) {i : Nat} {x : Str} {ea eb : Expr} {a b : EC} {xp fp cp p : Pos} (hx : C.mg "Lex" = some (.ref C.lexC)) (hk : F.glob "Lex" = true) (hok : (F.ok && (F.nm[i]? == some x)) = true) (ha : qX C F d ea a) (hb : qX C F d eb b) (hst : noStar [ea, eb] = true := by exact ttR) (hst1 : noStar [ea] = true := by exact ttR) (hst2 : noStar [eb] = true := by exact ttR)
  (hs : ∀ env : Env, swapsWith (.Call (.Name "Lex" fp) [ea, eb] [] cp) (some (.Name x xp)) p.line env = pure false := by exact swR) : yc C F d 1 (.Assign [.Name x xp] (.Call (.Name "Lex" fp) [ea, eb] [] cp) p) (qL4 i a b) := fun st =>
 .bnd fun sta v1 e1 => .bnd fun stb v2 e2 => .strDg fun t ev ew => .cond fun hc => .putG fun st2 hp => by
  have hl : kq C F d [ea, eb] (qB a (qB b qI)) := qA ha (qA hb qR hst2) hst1
  have k1 := hl.2 _ _ _ (qYP e1 e2)
  have c1 := Bool.and_eq_true_iff.mp hc
  have c2 := Bool.and_eq_true_iff.mp c1.1
  have no : ∀ y ∈ ([("text" : Str), ("at" : Str), ("diags" : Str), ("tokens" : Str), ("rows" : Str), ("code" : Str)] : List Str), findIn C.K (.ref C.lexC) y = some none := W.lexOk.no
  refine ⟨k1.1.flags.trans ⟨fun h => absurd h (by decide), fun _ => rfl, (jW hp).2.2⟩, fun {A L a cd fs f ga la s Q E} rm M hq => wpAny_Assign_Name (wpAny_Call_Name_kw (jz W hk M hx (callWith_of (P := C.K.In) (by rw [(zp _ _ hst).2]; rfl) (keeps_K HI.made.keep) (jN (zp _ _ hst).2 (k1.2.2 rm M
   fun f s us g0 M v0 => ⟨W.kin.keeps M.up, (qYT (ev ▸ ew ▸ v0 : VRs f ga la [.str t, .dg] us)).elim fun u1 z => z.elim fun u2 z => z.1 ▸ ?_⟩))))) (hs _)⟩
  obtain ⟨p1, p2, p3, p4, q1, q2, kk, q3, q4, r1, r2, r3, r4, s1, s2, s3, s4, hfn⟩ := HI.fn
  refine qJP (rest := [u1, u2]) W HI.made HI.ok hfn (by rw [HI.nm]; decide) rm.two M.up rfl fun {A' L' cd x dx s1 E'} B t1 g1 o1 => ?_
  have I : Ini C FI 3 [.ref x, u1, u2] C.lexC x s.heap := ⟨HI.st, Fi.nth HI.ok (by rw [HI.nm]; rfl), by rw [HI.nm]; decide, rfl, rfl, M.up⟩
  refine wpAny_execs_cons (I.par W (no _ (.head _)) rfl (by decide) (i := 1) rfl (Fi.nth HI.ok (by rw [HI.nm]; rfl)) B fun s2 B2 t2 g2 o2 => ?_)
  refine wpAny_execs_cons (I.zero W (no _ (.tail _ (.head _))) rfl (by decide) B2 fun tk s3 B3 t3 g3 o3 => ?_)
  refine wpAny_execs_cons (I.par W (no _ (.tail _ (.tail _ (.head _)))) rfl (by decide) (i := 2) rfl (Fi.nth HI.ok (by rw [HI.nm]; rfl)) B3 fun s4 B4 t4 g4 o4 => ?_)
  refine wpAny_execs_cons (I.list W (no _ (.tail _ (.tail _ (.tail _ (.head _))))) rfl (by decide) B4 fun lA s5 B5 fl n1 n2 ol t5 g5 o5 => wpAny_execs_nil ⟨rfl, ?_⟩)
  have x5 := M.newLx (i := i) (t := t) ((Bool.not_eq_true' _).mp c2.1) c2.2 c1.2 B5 (Nat.lt_of_lt_of_le M.tk (Nat.le_trans t1 (Nat.le_trans t2 (Nat.le_trans t3 (Nat.le_trans t4 t5))))) (g5.trans (g4.trans (g3.trans (g2.trans g1)))) (o5.trans (o4.trans (o3.trans (o2.trans o1)))) fl n1 n2
   ⟨⟨u1, rfl, z.2.1⟩, ⟨tk, rfl⟩, congrArg some z.2.2, rfl, fun y h1 h2 h3 h4 => (if_neg h4).trans ((if_neg h3).trans ((if_neg h2).trans (if_neg h1)))⟩ ol
  exact x5.mid.put hok (v := .lex) rfl (dk hp) fun h' M6 g6 => hq _ _ _ _ ((k1.1.adv g0 M).trans (x5.trans ⟨g6, fun _ => rfl, fun _ => ⟨rfl, rfl⟩, gI ⟨rfl, rfl, rfl, rfl⟩ (dk hp), M6⟩))
end
section
variable {C : Cx} {F FI : Fi} {d n : Nat}
section
variable {nm nm' : List Str} {L L' : Addr} {fs : List Addr} {f f' : FM} {ga ga' : GA} {la la' : List Addr} {st sa sb : St} {s s1 s2 : Shared}
theorem Mid.backLex (X Z : List Addr) (M : Mid C nm L fs f ga la st s) (kp : ∀ b o, s.heap.get? b = some o → s1.heap.get? b = some o) (hL' : s.heap.get? L' = none) (hg : sa.g = st.g) (h0 : st.g.hl = false) (fl : flags 1 sa sb)
  (x : Adv C nm' L' (L :: fs) 1 X f f' ga ga' [] la' sa sb s1 s2) (hX : ∀ b ∈ X, b = L' ∨ b ∈ L :: fs ∨ b ∈ muts ga [] st.g) (hLn : ∃ m, s2.heap.Ns L m ∧ ∀ m0, s.heap.Ns L m0 → m0 = m) (hZ : ∀ b ∈ Z, b = ga'.tkA ∧ sb.g.hl = true) :
  Mid C nm L fs (frz f' s2.heap Z) ga la { st with g := { sb.g with hl := false } } s2 ∧ (∀ b o, s.heap.get? b = some o → b ∉ L :: fs → b ∉ muts ga [] st.g → s2.heap.get? b = some o) ∧
   (∀ b o, frz f' s2.heap Z b = some o → f b = none → s.heap.get? b = none) ∧ (∀ b o, f' b = some o → frz f' s2.heap Z b = some o) :=
 have hhd : sb.g.hd = st.g.hd := (fl.2.1 (Nat.le_refl _)).trans (congrArg G.hd hg)
 have hdg := x.fix1 (Nat.le_refl _)
 have hZf : ∀ b ∈ Z, f' b = none := fun b hb => (hZ b hb).1 ▸ (x.mid.mutF _ (qC2 (hZ b hb).2)).1
 have le : ∀ b o, f' b = some o → frz f' s2.heap Z b = some o := fun b o e => (if_neg fun q => qH ((hZf b q).symm.trans e)).trans e
 M.backG kp hL' x hX hLn (by unfold muts; simp [hhd, h0]) hZf
  (fun b hb => (hZ b hb).1 ▸ (x.fresh _ (qC2 (hZ b hb).2)).elim (fun h => (qFI (P := fun a => a = ga'.tkA → False) (fun q e => (x.mid.apart.2.2.1 (hhd.trans (hg ▸ q)) (hZ b hb).2).2 (hdg.2.trans e)) (fun q _ => Bool.noConfusion ((hg ▸ q : st.g.hl = true).symm.trans h0)) (fun q _ => Bool.noConfusion ((hg ▸ q : st.g.hl = true).symm.trans h0)) (fun i a e _ => qH e) h rfl).elim)
   fun h => Option.eq_none_iff_forall_ne_some.mpr fun o q => qH (h.symm.trans (kp _ o q)))
  (fun h => ⟨(x.mid.dg h).1.ga hdg.1 hdg.2 le, hdg.2 ▸ ((x.mid.dg h).2.keeps (la' := la) le fun _ e => e).ga⟩) fun h => Bool.noConfusion h
end
theorem qLO {np nv : Nat} {b : SC} {vs : List PV} {G1 G2 : G} {r : RV} {P : RV → G → Prop} (h : qAT np nv b vs G1 = some (r, G2)) (hb : vs.length = np → G1.hl = false → Post b (st0 np nv vs G1) fun st2 o => match o with
  | .ret v => v = .lst .toks → st2.g.hl = true → P (.ok (.fl st2.g.toks)) { st2.g with hl := false }
  | .nxt => True
  | .exc c i => P (.exc c i) { st2.g with hl := false }
  | .brk => True) : P r G2 := by
 unfold qAT at h
 by_cases hl : vs.length = np ∧ G1.hl = false
 ·have h := (if_pos hl).symm.trans h
  cases q : b ⟨vs.map some ++ List.replicate (nv - np) none, [], G1⟩ with
  | none => rw [q] at h; exact qH h
  | some z =>
   obtain ⟨o, st2⟩ := z
   rw [q] at h
   have := hb hl.1 hl.2 _ _ q
   cases o with
   | nxt => exact qH h
   | brk => exact qH h
   | ret v =>
    cases v with
    | lst r => cases r with
     | toks =>
      have h := qb h
      exact (Prod.mk.inj h.2).1 ▸ (Prod.mk.inj h.2).2 ▸ this rfl h.1
     | _ => exact qH h
    | _ => exact qH h
   | exc c i => exact (Prod.mk.inj (Option.some.inj h)).1 ▸ (Prod.mk.inj (Option.some.inj h)).2 ▸ this
 ·exact qH ((if_neg hl).symm.trans h)
section
variable {np nv : Nat} {vs : List PV} {nm : List Str} {L L' : Addr} {fs : List Addr} {f f' : FM} {ga ga' : GA} {la la' : List Addr} {st st2 : St} {s s1 s2 s3 : Shared} {Q E : Value → Shared → Prop}
theorem qGS (M : Mid C nm L fs f ga la st s) (kp : ∀ b o, s.heap.get? b = some o → s1.heap.get? b = some o) (hL' : s.heap.get? L' = none) (hl0 : st.g.hl = false) (fl : flags 1 (st0 np nv vs st.g) st2) (x : Adv C F.nm L' (L :: fs) 1 (L' :: muts ga [] st.g) f f' ga ga' [] la' (st0 np nv vs st.g) st2 s1 s2) {u : Value} (hu : VR f' ga' la' (.lst .toks) u) (hl2 : st2.g.hl = true)
  (hq : KF C nm L fs f ga la st s Q E { st2.g with hl := false } (.ok (.fl st2.g.toks))) : Q u s2 :=
 have kk : ∀ b o, s.heap.get? b = some o → b ∉ muts ga [] st.g → s2.heap.get? b = some o := fun b o e n => x.go.keep b o (kp b o e) fun q => (List.mem_cons.mp q).elim (fun q => qH (hL'.symm.trans (q ▸ e))) n
 have B := Mid.backLex (sa := st0 np nv vs st.g) _ [ga'.tkA] M kp hL' rfl hl0 fl x (fun b hb => (List.mem_cons.mp hb).imp id .inr) (M.loc.elim fun m hm => ⟨m, ju hm.1 fun o e => kk L o e fun q => (M.mutF L (gF _ q)).2 rfl, fun m0 h0 => qBN h0 hm.1⟩) fun b hb => ⟨List.mem_singleton.mp hb, hl2⟩
 hq _ s2 u ⟨fun b o e => B.2.2.2 b o (x.go.fle b o e), B.2.2.1, kk, fun b o e => x.go.ex b o (kp b o e)⟩ B.1 (hu.elim fun ua e => e.1 ▸ Option.some.inj e.2 ▸ qIE x.mid (x.mid.lx hl2).2.2.2 (.head _) B.2.2.2)
theorem qS9 {h : Heap} : frz f h [] = f := funext fun b => if_neg List.not_mem_nil
theorem qGQ {c : List Nat} {i : Int} {e : Value} (M : Mid C nm L fs f ga la st s) (kp : ∀ b o, s.heap.get? b = some o → s1.heap.get? b = some o) (hL' : s.heap.get? L' = none) (hl0 : st.g.hl = false) (fl : flags 1 (st0 np nv vs st.g) st2) (x : Adv C F.nm L' (L :: fs) 1 (L' :: (L :: fs) ++ muts ga [] st.g) f f' ga ga' [] la' (st0 np nv vs st.g) st2 s1 s2) (hs : yq (L :: fs) s1 s2)
  (S : Still C F.nm L' (L :: fs) f' ga' la' st2 s2 s1.heap s3) (T : ∀ L', Thrown C L' f' c i e s1.heap s3) (hq : KF C nm L fs f ga la st s Q E { st2.g with hl := false } (.exc c i)) : E e s3 :=
 have x' : Adv C F.nm L' (L :: fs) 1 (L' :: (L :: fs) ++ muts ga [] st.g) f f' ga ga' [] la' (st0 np nv vs st.g) st2 s1 s3 := ⟨⟨x.go.fle, x.go.fnew, fun b o e nx => S.kp b o ⟨o, e⟩ (fun q => nx (List.mem_append_left _ q)) (x.go.keep b o e nx), fun b o e => (x.go.ex b o e).elim fun o' e' => S.ex b o' e'⟩, x.fix0, x.fix1, x.fresh, S.mid⟩
 have sl : yq (L :: fs) s s3 := fun b hb o e => (hs b hb o (kp b o e)).elim fun q1 e1 => (S.sl b (.tail _ hb) _ e1).elim fun q2 e2 => ⟨q2, e2⟩
 have B := Mid.backLex (sa := st0 np nv vs st.g) _ [] M kp hL' rfl hl0 fl x' (fun b hb => (List.mem_append.mp hb).elim (fun q => (List.mem_cons.mp q).imp id .inl) fun q => .inr (.inr q)) (M.loc.elim fun m hm => ⟨m, Ns.slots hm.1 (sl L (.head _)), fun m0 h0 => qBN h0 hm.1⟩) fun b hb => absurd hb List.not_mem_nil
 hq _ s3 e ⟨fun b o e => B.2.2.2 b o (x'.go.fle b o e), B.2.2.1, fun b o e n1 => B.2.1 b o e (fun q => n1 (List.mem_append_left _ q)) fun q => n1 (List.mem_append_right _ q), fun b o e => x'.go.ex b o (kp b o e)⟩ sl B.1 (qS9 ▸ (T L).back fun b o e => ⟨o, kp b o e⟩)
end
theorem qN3 (W : Glo C) {fA : Addr} {np nv : Nat} {body : List Stmt} {b : SC} (hF : F.ok = true) (hfn : qBV C F fA np body) (hnv : F.nm.length = nv) (hnp : np ≤ nv) (hb : vP C F d 1 body b) : DenF C (d + 1) fA (qAT np nv b) :=
 ⟨qI3 hfn, fun vs G1 G2 r h => qLO (P := fun r G2 => (G2.hl = G1.hl ∧ G2.hd = G1.hd) ∧ RunF C (d + 1) fA vs G1 G2 r) h fun hlen hl0 => (hb (st0 np nv vs G1)).use fun st2 o h1 => by
  have fg : false = G1.hl ∧ st2.g.hd = G1.hd := ⟨hl0.symm, h1.1.2.1 (Nat.le_refl _)⟩
  cases o with
  | brk => exact trivial
  | nxt => exact trivial
  | ret v => exact fun ev hl2 => ⟨fg, fun rm M hg hc hv hq => by
    subst hg
    exact qIU W hF hfn hnv hnp rm M hlen hc hv fun L' cd s1 rm1 M1 kp hL' => h1.2 rm1 M1 fun f' ga' la' s2 u x hu => qGS M kp hL' hl0 h1.1 x (ev ▸ hu) hl2 hq⟩
  | exc c i => exact ⟨fg, fun rm M hg hc hv hq => by
    subst hg
    exact qIU W hF hfn hnv hnp rm M hlen hc hv fun L' cd s1 rm1 M1 kp hL' => h1.2 rm1 M1 fun f' ga' la' s2 e x hs ht => qAR rm1 x.mid ht x.go.ex fun s3 S T3 => qGQ M kp hL' hl0 h1.1 x hs S T3 hq⟩⟩
end
section
variable {C : Cx} {F FI : Fi} {d n : Nat}
theorem Mid.del {L : Addr} {fs : List Addr} {f : FM} {ga : GA} {la : List Addr} {st : St} {s : Shared} {i : Nat} {x : Str} {A : Around} {a : Addr} {cd : Value} {pos : Pos} {Q : Unit → Shared → Prop} {E : Value → Shared → Prop}
  (M : Mid C F.nm L fs f ga la st s) (hok : (F.ok && (F.nm[i]? == some x)) = true)
  (h : ∀ s', Mid C F.nm L fs f ga la { st with v := st.v.set i none } s' → Go (L :: muts ga la st.g) f f s s' → Q () s') :
  wpAny (model C.prog C.w) A (do bindName (F.env L a cd) x .none; unbindBehindTheSuite (F.env L a cd) x pos) Q E s := by
 simp only [Fi.ok, Bool.and_eq_true, beq_iff_eq, List.all_eq_true, decide_eq_true_eq] at hok
 obtain ⟨⟨⟨⟨⟨⟨a1, a2⟩, a3⟩, a4⟩, a5⟩, a6⟩, a7⟩ := hok
 have hx := a4 x (List.mem_of_getElem? a7)
 obtain ⟨m, hm, hl⟩ := M.loc
 refine wpAny_nameGoes_keeps (env := F.env L a cd) (show _ = _ from hx.1) hm (by show (F.sc.kind == .class || (F.sc.kind == .module && _)) = false; rw [a1]; rfl) fun h' v hn hs => ?_
 have kp : ∀ b o, b ≠ L → s.heap.get? b = some o → h'.get? b = some o := fun b o hb e => (hs.2 b hb).trans e
 refine h _ (M.reV (fun _ _ e => e) (fun _ _ _ _ e => e) (fun b o e => kp b o (fun q => by rw [q, M.freshL] at e; cases e) (M.fz b o e)) (fun b o hb e _ => kp b o (M.mutF b hb).2 e) (fun b o hb e n => ⟨o, kp b o (M.fr b hb).2.1 e, n⟩) (Nat.succ_pos _) rfl rfl (List.length_set ..) ⟨_, hn, fun j y w e1 e2 => ?_⟩) ⟨fun _ _ e => e, fun _ _ e n => by (rw [e] at n; cases n), fun b o e n => kp b o (fun q => n (q ▸ .head _)) e, fun b o e => ?_⟩
 ·have e2 : (st.v.set i none)[j]? = some (some w) := e2
  by_cases q : i = j
  ·subst q
   rw [List.getElem?_set] at e2
   split at e2
   ·split at e2 <;> cases e2
   ·rename_i q; exact (q rfl).elim
  ·rw [List.getElem?_set_ne q] at e2
   obtain ⟨w', e3, e4⟩ := hl j y w e1 e2
   refine ⟨w', ?_, e4⟩
   have hne : y ≠ x := fun z => by
    subst z
    exact q (((List.getElem?_inj (List.getElem?_eq_some_iff.mp a7).1 a5).mp (a7.trans e1.symm)))
   rw [if_neg hne]; exact e3
 ·by_cases q : b = L
  ·subst q
   obtain ⟨o', _, _, e', _⟩ := hn
   exact ⟨o', e'⟩
  ·exact ⟨o, kp b o q e⟩
theorem Post.tryC {c : St → Option (RV × St)} {fi : Nat} {h : SC} {st : St} {P : St → Out → Prop} (H : Post c st fun st' r => (∀ v, r = .ok v → P st' .nxt) ∧ ∀ c i, r = .exc c i → ∀ st2, za fi (.exc c i) st' = some st2 → Post h st2 fun st3 o => o = .nxt → P { st3 with v := st3.v.set fi none } .nxt) : Post (fun st => match c st with
  | some (.ok _, st') => some (.nxt, st')
  | some (.exc c a, st') => (match za fi (.exc c a) st' with
   | some st2 => (match h st2 with
    | some (.nxt, st3) => some (.nxt, { st3 with v := st3.v.set fi none })
    | _ => none)
   | none => none)
  | none => none) st P := fun st' o e => by
 dsimp only at e
 cases q : c st with
 | none => rw [q] at e; exact qH e
 | some z =>
  rw [q] at e
  obtain ⟨r, z⟩ := z
  have := H z r q
  cases r with
  | ok w => exact Post.pure (P := P) (this.1 w rfl) st' o e
  | exc c i =>
   dsimp only at e
   cases q2 : za fi (.exc c i) z with
   | none => rw [q2] at e; exact qH e
   | some st2 =>
    rw [q2] at e
    have := this.2 c i rfl st2 q2
    dsimp only at e
    cases q3 : h st2 with
    | none => rw [q3] at e; exact qH e
    | some y =>
     obtain ⟨o2, st3⟩ := y
     rw [q3] at e
     have := this st3 o2 q3
     cases o2 with
     | nxt => exact Post.pure (P := P) (this rfl) st' o e
     | _ => exact qH e
theorem Turned.twice {S hot : List Addr} {h h' : Heap} (t : Turned S (hot ++ hot) h h') : Turned S hot h h' := t.more fun b hb => .inl ((List.mem_append.mp hb).elim id id)
theorem Room.zero {A : Around} {L : Addr} {fs : List Addr} {e : Option Value} (rm : Room d A L fs) : Room 0 (A.mark e) L fs := ⟨rm.frames, (by show A.depth + 2 * 0 + 11 < _; have := rm.depth; lia), rm.deep, (by show A.units + 20 * 0 + 200 < _; have := rm.units; lia), fun h => absurd h (Nat.lt_irrefl _)⟩
theorem Room.bottom {A : Around} {L : Addr} {fs : List Addr} (rm : Room d A L fs) (hd0 : 343 ≤ d) : fs = [] := by
 have a1 := rm.depth
 have a2 := rm.deep
 rw [show recursionLimit = 1000 from rfl] at a1
 exact List.eq_nil_of_length_eq_zero (by lia)
theorem qGI {f : FM} {ga : GA} {la : List Addr} {c : List Nat} {i : Int} {L : Addr} {h0 h5 : Heap} {s : Shared} {D : TD} {t : Addr} {fl : Value} {oe : Obj} (he : h5.get? D.e = some oe) (T : ThrownD C L f c i h0 s D) (x : Flies h5 D.e (.ref C.excC) D.dx (some t) fl) (hx : C.excC = ga.exC) : VR (kt f D.e oe) ga la (.exc c i) (.ref D.e) := by
 obtain ⟨oe', vs, oT, ts, w1, w2, w3, w4, _⟩ := x.get
 cases he.symm.trans w1
 exact ⟨T.len, D.e, D.dx, oe, D.od, D.t1, D.t2, rfl, jg, j9 (T.off _ (.head _)) _ _ T.od, w2.trans (congrArg Value.ref hx), (by unfold notCls; rw [w4]), w3, T.code, T.at_⟩
section
variable {nm : List Str} {L : Addr} {f1 f2 : FM} {ga : GA} {la : List Addr} {st1 st3 st4 : St} {G' : G} {s1 s2 : Shared} {c : List Nat} {i : Int} {h5 : Heap} {D : TD} {oe : Obj}
theorem qQI (k : keepsV st1 { st1 with g := G' }) (g2 : Go (L :: [] ++ muts ga [] st1.g) f1 f2 s1 s2) (T : ThrownD C L f2 c i s1.heap s2 D) (S : Still C nm L [] f2 ga la { st1 with g := G' } s2 s1.heap { s2 with heap := h5 }) (he : h5.get? D.e = some oe) (hd : ∃ vs, oe.data = .fields vs) :
  Adv C nm L [] n (L :: muts ga la st1.g) f1 (kt f2 D.e oe) ga ga la la st1 { st1 with g := G' } s1 { s2 with heap := h5 } :=
 have le := j9 (o := oe) (T.off _ (.head _))
 k.adv ⟨fun b o e => le b o (g2.fle b o e), fun b o e z => (Classical.em (f2 b = none)).elim (yx (T.old _ (.head _)) b o e) fun n => (Option.ne_none_iff_exists'.mp n).elim fun o' q => g2.fnew b o' q z,
   fun b o e nx => S.kp b o ⟨o, e⟩ (fun q => nx (List.mem_singleton.mp q ▸ .head _)) (g2.keep b o e fun q => nx ((List.mem_append.mp q).elim (fun q => List.mem_singleton.mp q ▸ .head _) fun q => .tail _ (gF b q))), fun b o e => (g2.ex b o e).elim fun o' e' => S.ex b o' e'⟩
  (S.mid.re le (fun b o e nf fn => (if_neg fun (q : b = D.e) => hd.elim fun vs hd => nf vs (Option.some.inj ((q ▸ e : h5.get? D.e = some o).symm.trans he) ▸ hd)).trans fn) (yN he S.mid.fz) (fun _ _ _ e => e) S.mid.tk rfl rfl)
end
theorem qT2 (W : Glo C) {iA : Addr} (HX : ExCls C FI iA) {y nn : Str} {np hp : Pos} {b0 : Stmt} {suite : List Stmt} {fi : Nat} (hy : C.mg y = some (.ref C.excC)) (hky : F.glob y = true) (hok : (F.ok && (F.nm[fi]? == some nn)) = true)
  {L a : Addr} {cd : Value} {f1 f2 : FM} {ga : GA} {la : List Addr} {st1 st3 st4 : St} {G' : G} {s1 s2 : Shared} {c : List Nat} {i : Int} {e : Value} {A : Around} {Q : Flow → Shared → Prop} {E : Value → Shared → Prop} (k : keepsV st1 { st1 with g := G' }) (hput : za fi (.exc c i) { st1 with g := G' } = some st3)
  (hB : qUE C F 0 0 (b0 :: suite) st3 st4 .nxt) (rm : Room d A L []) (g2 : Go (L :: [] ++ muts ga [] st1.g) f1 f2 s1 s2) (M2 : Mid C F.nm L [] f2 ga la { st1 with g := G' } s2) (T : Thrown C L f2 c i e s1.heap s2)
  (hq : ∀ f' la' s', Adv C F.nm L [] n (L :: muts ga la st1.g) f1 f' ga ga la la' st1 { st4 with v := st4.v.set fi none } s1 s' → Q .next s') :
  wpAny (model C.prog C.w) A (noteFrame e (F.env L a cd)) (fun _ s₂ => wpAny (model C.prog C.w) A (setFlight e none) (fun _ s₃ => wpAny (model C.prog C.w) A (handleBy e (F.env L a cd) [.ExceptHandler (some (.Name y np)) (some nn) (b0 :: suite) hp]) Q E s₃) E s₂) E s2 :=
 rm.frames.elim fun l hl => T.elim fun D T => T.1 ▸ qC5 (env := F.env L a cd) hl.1 hl.2 M2.live rfl T.2.fly T.2.fl fun h3 t ht fly3 tu3 =>
  yw (s := { s2 with heap := h3 }) (L := L) (fs := []) (fr := none) fly3 fun h4 fly4 tu4 => HX.obj.elim fun D2 hC => by
   have M4 := (qGJ M2 T.2 g2.ex ht tu3 tu4 fly4).1.mid
   unfold ED.obj at hC
   refine wpAny_handleBy_cons (codeAny_handlers_test (jz W hky M4 hy ?_)) (fun q => by cases q)
   obtain ⟨oe, vs, oT, ts, u1, u2, _⟩ := fly4.get
   refine wpAny_excMatches_sub_self (M4.up _ _ hC) u1 u2 rfl ?_
   rw [if_pos rfl]
   refine codeAny_handlers_suite_as (yw (s := { s2 with heap := h4 }) (L := L) (fs := []) (fr := none) fly4 fun h5 fly5 tu5 => ?_)
   have S5 := (qGJ M2 T.2 g2.ex ht tu3 (tu4.trans tu5).twice fly5).1
   obtain ⟨oe5, vs5, oT5, ts5, w1, w2, w3, w4, _⟩ := fly5.get
   have x5 := qQI (n := n) k g2 T.2 S5 w1 ⟨_, w4⟩
   exact x5.mid.put hok (qGI w1 T.2 fly5 M2.exc.symm) hput fun h6 M7 g7 => hB.2 rm.zero M7 fun f8 ga8 la8 s8 x8 => by
    have x8 := x8.same
    exact x8.mid.del hok fun s9 M9 g9 => hq _ _ _ ((x5.trans ⟨g7, fun _ => rfl, fun _ => ⟨rfl, rfl⟩, gI ⟨rfl, rfl, rfl, rfl⟩ hput, M7⟩).trans (Adv.trans ⟨x8.go, fun _ => rfl, fun _ => ⟨rfl, rfl⟩, x8.fresh, x8.mid⟩ ⟨g9, fun _ => rfl, fun _ => ⟨rfl, rfl⟩, fun b hb => .inl hb, M9⟩))
theorem qPW (W : Glo C) {iA : Addr} (HX : ExCls C FI iA) {g : Fn} {fA : Addr} {x y nn : Str} {fp cp ep np hp p : Pos} {xs : List Expr} {l : LC} {b0 : Stmt} {suite : List Stmt} {fi : Nat} {h : SC} (hg : DenF C d fA g) (hx : C.mg x = some (.ref fA)) (hk : F.glob x = true) (hl : kq C F d xs l) (hy : C.mg y = some (.ref C.excC)) (hky : F.glob y = true)
  (hok : (F.ok && (F.nm[fi]? == some nn)) = true) (hb : vP C F 0 0 (b0 :: suite) h) (hkf : F.sc.kind = .function := by exact kfR)
  (hs : ∀ env : Env, swapsWith (.Call (.Name x fp) xs [] cp) none ep.line env = pure false := by exact swR) (hd0 : 343 ≤ d := by decide) :
  yc C F d n (.Try [.Expr (.Call (.Name x fp) xs [] cp) ep] [.ExceptHandler (some (.Name y np)) (some nn) (b0 :: suite) hp] [] [] p) (qRT g l fi h) := fun st =>
 .bnd ((hl.2 st).use fun st1 vs h1 => .tryC (.runF hg fun G' r hc k R =>
  ⟨fun v e => ⟨(h1.1.trans k).flags, fun rm M hq => wpAny_Try_except (wpAny_execs_cons (d6 (r := .ok v) (G' := G') W hg.1 hx hk hl.1 hkf hs h1 hc (e ▸ R) rm M fun f1 s1 g1 f2 s2 u g2 M2 v2 => wpAny_execs_nil (wpAny_execs_nil (hq _ _ _ _ (qNL h1.1 g1 k g2 M2)))))⟩,
   fun c i e st3 hp => (hb st3).use fun st4 o hB eo => ⟨((h1.1.trans k).flags.trans ((uX hp).trans hB.1.up0)).trans ⟨fun _ => rfl, fun _ => rfl, List.length_set ..⟩, fun {A L a cd fs f ga la s Q E} rm M hq => wpAny_Try_except (wpAny_execs_cons (d6 (r := .exc c i) (G' := G') W hg.1 hx hk hl.1 hkf hs h1 hc (e ▸ R) rm M
    fun f1 s1 g1 f2 s2 ev g2 sl2 M2 T2 => by
     have z := rm.bottom hd0
     subst z
     exact qT2 (n := n) W HX hy hky hok k hp (eo ▸ hB) rm g2 M2 T2 fun f' la' s' x' => hq _ _ _ _ ⟨g1.trans' (h1.1.muts ga la ▸ x'.go), fun _ => rfl, fun _ => ⟨rfl, rfl⟩, dF (fun b hb => .inl (h1.1.muts ga la ▸ hb)) x'.fresh g1, x'.mid⟩))⟩⟩))
end
end Mine
end
noncomputable section
open PySem PySem.W PySem.Calls PyProof.Rows
set_option maxRecDepth 100000
set_option genInjectivity false
namespace Mine
noncomputable abbrev CX (w : World) (mg mb : Str → Option Value) (h0 : Heap) (os : OsState) : Cx :=
 ⟨PySem.Challenge.rw_qd0034_01.row.prog, w, hd.heap_39 w.params, mg, mb, h0, os, 111, 321, 51⟩
structure Hand (C : Cx) : Prop where
 kin : C.K.In C.h0
 g : C.h0.Ns mainGlobals C.mg
 b : C.h0.Ns builtinsNs C.mb
 nolimit : C.h0.NoLimit
 builtins : ∀ x : Str, x ≠ "__name__" → C.mb x = bootBuiltins x
section
variable {w : World} {mg mb : Str → Option Value} {h0 : Heap} {os : OsState}
theorem Hand.mgv (H : Hand (CX w mg mb h0 os)) {x : Str} {r : Option Value} (e : nsIn (hd.heap_39 w.params) mainGlobals x = some r) : mg x = r := by
 unfold nsIn at e
 split at e
 ·rename_i cl dd es ep sl ho
  have ho' := H.kin _ _ ho
  have h1 := ym H.g ho' x
  unfold lookIn at h1
  dsimp only at h1
  exact Option.some.inj (h1.symm.trans e)
 ·cases e
theorem qXF (w : World) : ClsOk (hd.heap_39 w.params) 111 := ⟨by kernel_rfl, by kernel_rfl, by kernel_rfl, by
 intro x hx
 simp only [List.mem_cons, List.not_mem_nil, or_false] at hx
 rcases hx with rfl | rfl | rfl | rfl | rfl | rfl <;> kernel_rfl⟩
theorem qYM (w : World) : ClsOk (hd.heap_39 w.params) 321 := ⟨by kernel_rfl, by kernel_rfl, by kernel_rfl, by
 intro x hx
 simp only [List.mem_cons, List.not_mem_nil, or_false] at hx
 rcases hx with rfl | rfl | rfl | rfl | rfl | rfl <;> kernel_rfl⟩
theorem qYN (w : World) : ExOk (hd.heap_39 w.params) 51 := ⟨by kernel_rfl, by kernel_rfl, by kernel_rfl, by
 intro x hx
 simp only [List.mem_cons, List.not_mem_nil, or_false] at hx
 rcases hx with rfl | rfl <;> kernel_rfl, ⟨_, 38, rfl, by kernel_rfl⟩, by kernel_rfl⟩
theorem Hand.glo (H : Hand (CX w mg mb h0 os)) : Glo (CX w mg mb h0 os) := ⟨H.kin, H.g, H.b, H.nolimit, H.builtins, by
 intro x hx
 simp only [List.mem_cons, List.not_mem_nil, or_false] at hx
 rcases hx with rfl | rfl | rfl | rfl | rfl <;> exact H.mgv (by kernel_rfl), qXF w, qYM w, qYN w⟩
theorem jH (w : World) : StOk (hd.heap_39 w.params) 111 := ⟨by kernel_rfl, by kernel_rfl, by kernel_rfl⟩
theorem qYR (w : World) : StOk (hd.heap_39 w.params) 321 := ⟨by kernel_rfl, by kernel_rfl, by kernel_rfl⟩
end
section
variable {w : World} {mg mb : Str → Option Value} {h0 : Heap} {os : OsState} {F : Fi}
theorem qU (hF : F.ok = true) {i : Nat} {x : Str} (h : F.nm[i]? = some x := by exact rfl) : (F.ok && (F.nm[i]? == some x)) = true := Fi.nth hF h
theorem dl {C : Cx} {d : Nat} {i : Nat} {x : Str} {p : Pos} (hF : F.ok = true) (h : F.nm[i]? = some x := by exact rfl) : qX C F d (.Name x p) (qC i) := qST (qU hF h)
theorem qBD (hF : F.ok = true) {is : List Nat} {es : List Expr} (h : vc F is es = true) : (F.ok && vc F is es) = true := by rw [hF, h]; rfl
theorem uf {P : List Value → Prop} (h : P []) : ∀ a : List Value, a.length = 0 → P a := fun a e => List.eq_nil_of_length_eq_zero e ▸ h
theorem qMK {n : Nat} {P : List Value → Prop} (h : ∀ a l, l.length = n → P (a :: l)) (l : List Value) (e : l.length = n + 1) : P l := by
 cases l with
 | nil => exact absurd e (Nat.succ_ne_zero n).symm
 | cons a l => exact h a l (Nat.succ.inj e)
theorem jY {P : List Value → Prop} (h : ∀ a, P [a]) : ∀ a : List Value, a.length = 1 → P a := qMK fun a => uf (P := fun l => P (a :: l)) (h a)
theorem qAC {P : List Value → Prop} (h : ∀ a b, P [a, b]) : ∀ a : List Value, a.length = 2 → P a := qMK fun a => jY (P := fun l => P (a :: l)) (h a)
theorem qAD {P : List Value → Prop} (h : ∀ a b c, P [a, b, c]) : ∀ a : List Value, a.length = 3 → P a := qMK fun a => qAC (P := fun l => P (a :: l)) (h a)
theorem qPH {P : List Value → Prop} (h : ∀ a b c d, P [a, b, c, d]) : ∀ a : List Value, a.length = 4 → P a := qMK fun a => qAD (P := fun l => P (a :: l)) (h a)
theorem gO (H : Hand (CX w mg mb h0 os)) {G : Prop} {a : Addr} {o : Obj} (e : (hd.heap_39 w.params).lookup a = some o) (k : h0.get? a = some o → G) : G := k (H.kin a o e)
theorem qJM (H : Hand (CX w mg mb h0 os)) {a np : Nat} {nm : List Str} {oc : Value} {od : Option Addr} {osl : Array (Option Value)} {name q : Str} {params : Arguments} {body : List Stmt} {sc : Scope} {dV kV doc pm cdv ct : Value} {an : Option Addr}
  (ho : h0.get? a = some ⟨oc, od, .func (fnOf name q params body sc dV kV doc pm an cdv ct), osl⟩) (hcd : codeIn (hd.heap_39 w.params) cdv q = true)
  (hbind : ∀ args : List Value, args.length = np → bindArgs (fnOf name q params body sc dV kV doc pm an cdv ct) ⟨args, []⟩ = pure ((nm.take np).zip args)) : qBV (CX w mg mb h0 os) ⟨nm, sc, q⟩ a np body :=
 ⟨⟨oc, od, osl, name, params, dV, kV, doc, pm, an, cdv, ct⟩, ⟨ho, codeRec_of H.kin hcd, hbind⟩⟩
theorem qXE (H : Hand (CX w mg mb h0 os)) {a np nv d : Nat} {nm : List Str} {b : SC} {oc : Value} {od : Option Addr} {osl : Array (Option Value)} {name q : Str} {params : Arguments} {body : List Stmt} {sc : Scope} {dV kV doc pm cdv ct : Value} {an : Option Addr}
  (ho : h0.get? a = some ⟨oc, od, .func (fnOf name q params body sc dV kV doc pm an cdv ct), osl⟩) (hcd : codeIn (hd.heap_39 w.params) cdv q = true)
  (hbind : ∀ args : List Value, args.length = np → bindArgs (fnOf name q params body sc dV kV doc pm an cdv ct) ⟨args, []⟩ = pure ((nm.take np).zip args)) (hF : Fi.ok ⟨nm, sc, q⟩ = true) (hnv : nm.length = nv) (hnp : np ≤ nv)
  (hb : Fi.ok ⟨nm, sc, q⟩ = true → vP (CX w mg mb h0 os) ⟨nm, sc, q⟩ d 0 body b) : DenF (CX w mg mb h0 os) (d + 1) a (zf np nv b) :=
 qPV (F := ⟨nm, sc, q⟩) H.glo hF (qJM H ho hcd hbind) hnv hnp (hb hF)
theorem qVU (H : Hand (CX w mg mb h0 os)) {a np nv d : Nat} {nm : List Str} {b : SC} {oc : Value} {od : Option Addr} {osl : Array (Option Value)} {name q : Str} {params : Arguments} {body : List Stmt} {sc : Scope} {dV kV doc pm cdv ct : Value} {an : Option Addr}
  (ho : h0.get? a = some ⟨oc, od, .func (fnOf name q params body sc dV kV doc pm an cdv ct), osl⟩) (hcd : codeIn (hd.heap_39 w.params) cdv q = true)
  (hbind : ∀ args : List Value, args.length = np → bindArgs (fnOf name q params body sc dV kV doc pm an cdv ct) ⟨args, []⟩ = pure ((nm.take np).zip args)) (hF : Fi.ok ⟨nm, sc, q⟩ = true) (hnv : nm.length = nv) (hnp : np ≤ nv)
  (hb : Fi.ok ⟨nm, sc, q⟩ = true → vP (CX w mg mb h0 os) ⟨nm, sc, q⟩ d 1 body b) : DenF (CX w mg mb h0 os) (d + 1) a (qAT np nv b) :=
 qN3 (F := ⟨nm, sc, q⟩) H.glo hF (qJM H ho hcd hbind) hnv hnp (hb hF)
theorem Room.down {d d' : Nat} {A : Around} {L : Addr} {fs : List Addr} (rm : Room d' A L fs) (h : d ≤ d') : Room d A L fs := ⟨rm.frames, by have := rm.depth; lia, rm.deep, by have := rm.units; lia, fun h0 => rm.handled (by lia)⟩
theorem DenF.up {C : Cx} {d d' fA : Nat} {g : Fn} (h : DenF C d fA g) (hd : d ≤ d') : DenF C d' fA g :=
 ⟨h.1, fun vs G1 G2 r e => ⟨(h.2 vs G1 G2 r e).1, fun rm => (h.2 vs G1 G2 r e).2 (rm.down hd)⟩⟩
noncomputable def qU1 : Value → Bool
 | .none => true
 | _ => false
noncomputable def qU0 (b : Bool) : Value → Bool
 | .bool c => b == c
 | _ => false
noncomputable def qXT (i : Int) : Value → Bool
 | .int j _ => i == j
 | _ => false
noncomputable def qWE (s : Str) : Value → Bool
 | .str x _ => x == s
 | _ => false
noncomputable def qUK : Data → Option (List Value)
 | .seq xs _ => some xs.toList
 | _ => none
noncomputable def qUJ (n : String) : Value → Bool
 | .type m => m == n
 | _ => false
noncomputable def qUX (n : String) (k : List Value → Bool) : Option Obj → Bool
 | some o => qUJ n o.cls && (qUK o.data).any k
 | none => false
noncomputable def qWD (K : Frag) (n : String) (k : List Value → Bool) : Value → Bool
 | .ref a => qUX n k (K.lookup a)
 | _ => false
noncomputable def qXU : List Value → Bool
 | [] => true
 | _ :: _ => false
noncomputable def vsC (f : Value → Bool) (g : List Value → Bool) : List Value → Bool
 | v :: vs => f v && g vs
 | [] => false
mutual
noncomputable def rdK (K : Frag) : PV → Value → Bool
 | .none => qU1
 | .bool b => qU0 b
 | .int i => qXT i
 | .str s => fun v => decide (s.length ≤ line) && qWE ⟨s.toArray⟩ v
 | .tup l => qWD K "tuple" (qOX K l)
 | .fl l => fun v => decide (l.length ≤ line) && qWD K "list" (qOX K l) v
 | .lst _ => fun _ => false
 | .lex => fun _ => false
 | .dg => fun _ => false
 | .exc _ _ => fun _ => false
noncomputable def qOX (K : Frag) : List PV → List Value → Bool
 | [] => qXU
 | p :: r => vsC (rdK K p) (qOX K r)
end
theorem gH {G : Prop} (h : false = true) : G := Bool.noConfusion h
theorem qT5 {v : Value} (h : qU1 v = true) : v = .none := by
 cases v with
 | none => rfl
 | _ => exact gH h
theorem qT4 {b : Bool} {v : Value} (h : qU0 b v = true) : v = .bool b := by
 cases v with
 | bool c => exact congrArg Value.bool (beq_iff_eq.mp h).symm
 | _ => exact gH h
theorem qWC {i : Int} {v : Value} (h : qXT i v = true) : ∃ t, v = .int i t := by
 cases v with
 | int j t => exact ⟨t, congrArg (Value.int · t) (beq_iff_eq.mp h).symm⟩
 | _ => exact gH h
theorem qSE {s : Str} {v : Value} (h : qWE s v = true) : ∃ t, v = .str s t := by
 cases v with
 | str x t => exact ⟨t, congrArg (Value.str · t) (beq_iff_eq.mp h)⟩
 | _ => exact gH h
theorem qSR {n : String} {v : Value} (h : qUJ n v = true) : v = .type n := by
 cases v with
 | type m => exact congrArg Value.type (beq_iff_eq.mp h)
 | _ => exact gH h
theorem qSS {d : Data} {k : List Value → Bool} (h : (qUK d).any k = true) : ∃ xs n, d = .seq xs n ∧ k xs.toList = true := by
 cases d with
 | seq xs n => exact ⟨xs, n, rfl, h⟩
 | _ => exact gH h
theorem qSD {K : Frag} {n : String} {k : List Value → Bool} {v : Value} (h : qWD K n k v = true) : ∃ a o vs m, v = .ref a ∧ K.lookup a = some o ∧ o.cls = .type n ∧ o.data = .seq vs m ∧ k vs.toList = true := by
 cases v with
 | ref a =>
  have h : qUX n k (K.lookup a) = true := h
  cases q : K.lookup a with
  | none => rw [q] at h; exact gH h
  | some o =>
   rw [q] at h
   have h := Bool.and_eq_true_iff.mp h
   exact (qSS h.2).elim fun vs z => z.elim fun m z => ⟨a, o, vs, m, rfl, q, qSR h.1, z⟩
 | _ => exact gH h
mutual
theorem qRP {K : Frag} {f : FM} {ga : GA} {la : List Addr} (hk : ∀ a o, K.lookup a = some o → f a = some o) : ∀ {p : PV} {v : Value}, rdK K p v = true → VR f ga la p v
 | .none, _, h => qT5 h
 | .bool _, _, h => qT4 h
 | .int _, _, h => qWC h
 | .str _, _, h => ⟨of_decide_eq_true (Bool.and_eq_true_iff.mp h).1, qSE (Bool.and_eq_true_iff.mp h).2⟩
 | .tup l, v, h => by
  obtain ⟨a, o, vs, m, e, z1, z2, z3, z4⟩ := qSD (K := K) (n := "tuple") (k := qOX K l) h
  exact e ▸ VR.tup' ⟨o, m, hk _ _ z1, z2, z3⟩ (qHC hk z4)
 | .fl l, v, h => by
  have h := Bool.and_eq_true_iff.mp h
  obtain ⟨a, o, vs, m, e, z1, z2, z3, z4⟩ := qSD (K := K) (n := "list") (k := qOX K l) h.2
  exact e ▸ VR.fl' (of_decide_eq_true h.1) ⟨o, m, hk _ _ z1, z2, z3⟩ (qHC hk z4)
 | .lst _, _, h => gH h
 | .lex, _, h => gH h
 | .dg, _, h => gH h
 | .exc _ _, _, h => gH h
theorem qHC {K : Frag} {f : FM} {ga : GA} {la : List Addr} (hk : ∀ a o, K.lookup a = some o → f a = some o) : ∀ {p : List PV} {v : List Value}, qOX K p v = true → VRs f ga la p v
 | [], v, h => by
  unfold VRs
  cases v with
  | nil => rfl
  | cons => exact gH h
 | p :: r, v, h => by
  cases v with
  | nil => exact gH h
  | cons v vs =>
   have h := Bool.and_eq_true_iff.mp h
   exact VRs.cons (qRP hk h.1) (qHC hk h.2)
end
noncomputable def qNI : Value → Tok
 | .str _ t => t
 | _ => 0
theorem y6 (H : Hand (CX w mg mb h0 os)) {x : Str} {v : Value} {p : PV} (e : nsIn (hd.heap_39 w.params) mainGlobals x = some (some v)) (h : rdK (hd.heap_39 w.params) p v = true := by kernel_rfl) : j8 (CX w mg mb h0 os) x p :=
 ⟨v, H.mgv e, fun f ga la hf => qRP (fun a o q => hf a o (H.kin a o q)) h⟩
theorem ux (H : Hand (CX w mg mb h0 os)) {x : Str} {v : Value} {l : List Nat} (e : nsIn (hd.heap_39 w.params) mainGlobals x = some (some v)) (h : v = .str (Str.ofString (String.ofList (l.map Char.ofNat))) (qNI v) := by kernel_rfl) (h1 : (decide (l.length ≤ line) && decide ((l.map Char.ofNat).map Char.toNat = l)) = true := by decide +kernel) : j8 (CX w mg mb h0 os) x (.str l) :=
 have e2 : v = .str ⟨l.toArray⟩ (qNI v) := h.trans (congrArg (fun s => Value.str s (qNI v)) ((Fast.ofString_ofList _).trans (congrArg (fun m : List Nat => (⟨m.toArray⟩ : Str)) (of_decide_eq_true (wM h1)))))
 ⟨v, H.mgv e, fun f ga la hf => ⟨of_decide_eq_true (wL h1), qNI v, e2⟩⟩
noncomputable def qS3 (es : Array DictEntry) : List (Str × Tok × Value) := es.toList.filterMap fun e => match e.key with
 | .str x t => some (x, t, e.val)
 | _ => none
noncomputable def mkE (P : Params) (p : Str × Tok × Value) : DictEntry := ⟨PyData.keyHash P p.1, .str p.1 p.2.1, p.2.2⟩
theorem qQ4 (H : Hand (CX w mg mb h0 os)) {a : Addr} {es : Array DictEntry} {ep : Nat} (ho : h0.get? a = some ⟨.type "dict", none, .dict es ep, #[]⟩) (he : es.toList = (qS3 es).map (mkE w.params)) :
  h0.MapOf (strKind PySem.Challenge.rw_qd0034_01.row.prog w) a (findBy Value.isStrOf es) := by
 refine ⟨_, es, ep, ho, ⟨rfl, rfl, rfl⟩, rfl, fun e hm => ?_, fun k => rfl⟩
 have hm' := Array.mem_toList_iff.mpr hm
 rw [he] at hm'
 obtain ⟨p, _, rfl⟩ := List.mem_map.mp hm'
 exact ⟨p.1, by show (p.1 == p.1) = true; simp, rfl⟩
theorem wv (H : Hand (CX w mg mb h0 os)) {x : Str} {a : Addr} {keys : List (List Nat)} {es : Array DictEntry} {ep : Nat} (e : nsIn (hd.heap_39 w.params) mainGlobals x = some (some (.ref a))) (ho : h0.get? a = some ⟨.type "dict", none, .dict es ep, #[]⟩) (hs : (a == sysModules) = false)
  (he : es.toList = (qS3 es).map (mkE w.params)) (hk : (qS3 es).map (fun p => p.1.cps.toList) = keys) : qAB (CX w mg mb h0 os) x keys := by
 refine ⟨a, H.mgv e, hs, _, fun l => ?_, qQ4 H ho he⟩
 subst hk
 unfold findBy
 rw [Option.isSome_map, Bool.eq_iff_iff, decide_eq_true_iff, Array.find?_isSome]
 constructor
 ·rintro ⟨y, hy, hp⟩
  have hy' := Array.mem_toList_iff.mpr hy
  rw [he] at hy'
  obtain ⟨p, hp1, rfl⟩ := List.mem_map.mp hy'
  have : (p.1 == (⟨l.toArray⟩ : Str)) = true := hp
  rw [beq_iff_eq] at this
  exact List.mem_map.mpr ⟨p, hp1, by rw [this]⟩
 ·intro hm
  obtain ⟨p, hp1, hp2⟩ := List.mem_map.mp hm
  refine ⟨mkE w.params p, Array.mem_toList_iff.mp (by rw [he]; exact List.mem_map.mpr ⟨p, hp1, rfl⟩), ?_⟩
  show (p.1 == (⟨l.toArray⟩ : Str)) = true
  rw [beq_iff_eq, ← hp2]
theorem qDY {l v : List Nat} : ∀ {t : List (List Nat × List Nat)}, yp t l = some v → (l, v) ∈ t
 | [], h => qH h
 | p :: r, h => by
  unfold yp at h
  by_cases q : p.1 = l
  ·exact q ▸ Option.some.inj ((if_pos q).symm.trans h) ▸ .head _
  ·exact .tail _ (qDY ((if_neg q).symm.trans h))
theorem qWA (H : Hand (CX w mg mb h0 os)) {x : Str} {a : Addr} {t : List (List Nat × List Nat)} {es : Array DictEntry} {ep : Nat} (e : nsIn (hd.heap_39 w.params) mainGlobals x = some (some (.ref a))) (ho : h0.get? a = some ⟨.type "dict", none, .dict es ep, #[]⟩)
  (he : es.toList = (qS3 es).map (mkE w.params)) (hk : (t.all fun p => decide (p.2.length ≤ line) && (findBy Value.isStrOf es ⟨p.1.toArray⟩).any (qWE ⟨p.2.toArray⟩)) = true) : qPD (CX w mg mb h0 os) x t := by
 refine ⟨a, H.mgv e, _, fun l v hl => ?_, qQ4 H ho he⟩
 have h := Bool.and_eq_true_iff.mp (List.all_eq_true.mp hk _ (qDY hl))
 refine ⟨of_decide_eq_true h.1, ?_⟩
 cases q : findBy Value.isStrOf es ⟨l.toArray⟩ with
 | none => rw [q] at h; exact gH h.2
 | some u => rw [q] at h; exact (qSE h.2).elim fun tk e => ⟨tk, congrArg some e⟩
section
variable {C : Cx} {d n : Nat}
theorem s1 {x : Stmt} {a : SC} (h : yc C F d n x a) : vP C F d n [x] (qD a qK) := qG h jr
theorem l1 {x : Expr} {a : EC} (h : qX C F d x a) (hs : noStar [x] = true := by exact ttR) : kq C F d [x] (qB a qI) := qA h qR hs
theorem if1 {t : Expr} {xs : List Stmt} {c : TC} {a : SC} {p : Pos} (ht : du C F d t c) (ha : vP C F d n xs a) : yc C F d n (.If t xs [] p) (sIf c a qK) := zG ht ha jr
theorem gl (W : Glo C) {x : Str} {p : Pos} {v : PV} (hg : j8 C x v) (hk : F.glob x = true := by kernel_rfl) : qX C F d (.Name x p) (eC v) := qB7 W hg hk
theorem ln (W : Glo C) {fp p : Pos} {e : Expr} {a : EC} (ha : qX C F d e a) (hk : F.glob "len" = true := by kernel_rfl) (hs : noStar [e] = true := by exact ttR) : qX C F d (.Call (.Name "len" fp) [e] [] p) (zn a) := ul W hk ha hs
end
section
variable {d d' np nv : Nat} {g : Fn} {fA a : Addr} {x : Str} {o : Expr} {ap p : Pos} {xs : List Expr} {l : LC} {co : EC} {nm : List Str} {b : SC} {oc : Value} {od : Option Addr} {osl : Array (Option Value)} {name q : Str} {params : Arguments} {body : List Stmt} {sc : Scope} {dV kV doc pm cdv ct : Value} {an : Option Addr} (H : Hand (CX w mg mb h0 os))
include H
theorem cl (hg : DenF (CX w mg mb h0 os) d' fA g) (hl : kq (CX w mg mb h0 os) F d xs l) (le : d' ≤ d := by decide) (hx : nsIn (hd.heap_39 w.params) mainGlobals x = some (some (.ref fA)) := by kernel_rfl) (hk : F.glob x = true := by kernel_rfl) :
  qX (CX w mg mb h0 os) F d (.Call (.Name x ap) xs [] p) (qT g l) := jq H.glo (hg.up le) (H.mgv hx) hk hl
theorem ml (hg : DenF (CX w mg mb h0 os) d' fA g) (ho : qX (CX w mg mb h0 os) F d o co) (hl : kq (CX w mg mb h0 os) F d xs l) (le : d' ≤ d := by decide) (h1 : findIn (CX w mg mb h0 os).K (.ref (CX w mg mb h0 os).lexC) x = some (some (.ref fA)) := by kernel_rfl) (h2 : typeIn (CX w mg mb h0 os).K (.ref fA) = some (.type "function") := by kernel_rfl)
  (hx : ((x == "text") || (x == "at") || (x == "diags") || (x == "tokens")) = false := by decide +kernel) (hb : z9 o := by exact pbR) (hline : (ap.endLine == p.line) = true := by exact ttR) (hn : decide (xs.length < 30) = true := by exact ttR) :
  qX (CX w mg mb h0 os) F d (.Call (.Attribute o x ap) xs [] p) (qO g co l) := qN2 H.glo (hg.up le) ⟨h1, h2⟩ ho hl hx hb hline hn
theorem mkF (e : (hd.heap_39 w.params).lookup a = some ⟨oc, od, .func (fnOf name q params body sc dV kV doc pm an cdv ct), osl⟩) (hbind : ∀ args : List Value, args.length = np → bindArgs (fnOf name q params body sc dV kV doc pm an cdv ct) ⟨args, []⟩ = pure ((nm.take np).zip args))
  (hb : Fi.ok ⟨nm, sc, q⟩ = true → vP (CX w mg mb h0 os) ⟨nm, sc, q⟩ d 0 body b) (hcd : codeIn (hd.heap_39 w.params) cdv q = true := by kernel_rfl) (hF : Fi.ok ⟨nm, sc, q⟩ = true := by kernel_rfl) (hnv : nm.length = nv := by rfl) (hnp : np ≤ nv := by decide) : DenF (CX w mg mb h0 os) (d + 1) a (zf np nv b) :=
 qXE H (H.kin a _ e) hcd hbind hF hnv hnp hb
theorem mkX (e : (hd.heap_39 w.params).lookup a = some ⟨oc, od, .func (fnOf name q params body sc dV kV doc pm an cdv ct), osl⟩) (hbind : ∀ args : List Value, args.length = np → bindArgs (fnOf name q params body sc dV kV doc pm an cdv ct) ⟨args, []⟩ = pure ((nm.take np).zip args))
  (hb : Fi.ok ⟨nm, sc, q⟩ = true → vP (CX w mg mb h0 os) ⟨nm, sc, q⟩ d 1 body b) (hcd : codeIn (hd.heap_39 w.params) cdv q = true := by kernel_rfl) (hF : Fi.ok ⟨nm, sc, q⟩ = true := by kernel_rfl) (hnv : nm.length = nv := by rfl) (hnp : np ≤ nv := by decide) : DenF (CX w mg mb h0 os) (d + 1) a (qAT np nv b) :=
 qVU H (H.kin a _ e) hcd hbind hF hnv hnp hb
end
end
end Mine
end
noncomputable section
open PySem PySem.W PySem.Calls PyProof.Rows
set_option maxRecDepth 100000
set_option maxHeartbeats 4000000
set_option genInjectivity false
namespace Mine
section
variable {w : World} {mg mb : Str → Option Value} {h0 : Heap} {os : OsState} (H : Hand (CX w mg mb h0 os))
include H
theorem qIZ : ∃ FI, ExCls (CX w mg mb h0 os) FI 35 := by
 refine gO H (a := 51) rfl fun hc => gO H (a := 35) rfl fun ho => ?_
 exact ⟨⟨[("self" : Str), ("code" : Str), ("at" : Str)], _, _⟩, ⟨⟨⟨_, _, _, _, _, _, _, _, _, _, _, _, _, _, _, _⟩, hc⟩, by kernel_rfl, by kernel_rfl, by kernel_rfl, ⟨by kernel_rfl, rfl, ⟨_, _, _, _, _, _, _, _, qJM H ho (by kernel_rfl) (qAD fun a b c => by kernel_rfl)⟩⟩⟩⟩
theorem qPX : ∃ FI, DgInit (CX w mg mb h0 os) FI 297 := by
 refine gO H (a := 297) rfl fun ho => ?_
 exact ⟨⟨[("self" : Str)], _, _⟩, ⟨by kernel_rfl, rfl, ⟨_, _, _, _, qJM H ho (by kernel_rfl) (jY fun a => by kernel_rfl)⟩, ⟨by kernel_rfl, by kernel_rfl, by kernel_rfl, by kernel_rfl⟩, qYR w, by kernel_rfl⟩⟩
theorem qVO : ∃ FI, LxInit (CX w mg mb h0 os) FI 80 := by
 refine gO H (a := 80) rfl fun ho => ?_
 exact ⟨⟨[("self" : Str), ("text" : Str), ("diags" : Str)], _, _⟩, ⟨by kernel_rfl, rfl, ⟨_, _, _, _, _, _, _, _, _, _, _, _, _, _, _, _, _, qJM H ho (by kernel_rfl) (qAD fun a b c => by kernel_rfl)⟩, ⟨by kernel_rfl, by kernel_rfl, by kernel_rfl, by kernel_rfl⟩, jH w⟩⟩
theorem qJE : qAB (CX w mg mb h0 os) "BLANKS" vI := gO H (a := 63) rfl fun ho => wv H (by kernel_rfl) ho (by kernel_rfl) (by kernel_rfl) (by kernel_rfl)
theorem wu : qPD (CX w mg mb h0 os) "LEX_ESCAPES" t_LEX_ESCAPES := gO H (a := 65) rfl fun ho => qWA H (by kernel_rfl) ho (by kernel_rfl) (by kernel_rfl)
theorem wb : qAB (CX w mg mb h0 os) "LEX_ESCAPES" qv := gO H (a := 65) rfl fun ho => wv H (by kernel_rfl) ho (by kernel_rfl) (by kernel_rfl) (by kernel_rfl)
theorem qCW : qAB (CX w mg mb h0 os) "LINE_ENDS" jR := gO H (a := 62) rfl fun ho => wv H (by kernel_rfl) ho (by kernel_rfl) (by kernel_rfl) (by kernel_rfl)
theorem qCX : qAB (CX w mg mb h0 os) "REAL_ENDS" zO := gO H (a := 66) rfl fun ho => wv H (by kernel_rfl) ho (by kernel_rfl) (by kernel_rfl) (by kernel_rfl)
theorem qLF : qAB (CX w mg mb h0 os) "SIGNS" zt := gO H (a := 59) rfl fun ho => wv H (by kernel_rfl) ho (by kernel_rfl) (by kernel_rfl) (by kernel_rfl)
theorem qLG : qAB (CX w mg mb h0 os) "WORDS" y7 := gO H (a := 54) rfl fun ho => wv H (by kernel_rfl) ho (by kernel_rfl) (by kernel_rfl) (by kernel_rfl)
theorem qAO : j8 (CX w mg mb h0 os) "TK_END" gC := y6 H rfl
theorem v9 : j8 (CX w mg mb h0 os) "TK_NAME" vl := y6 H rfl
theorem uw : j8 (CX w mg mb h0 os) "TK_WORD" wX := y6 H rfl
theorem gW : j8 (CX w mg mb h0 os) "TK_INT" gD := y6 H rfl
theorem y0 : j8 (CX w mg mb h0 os) "TK_TEXT" vn := y6 H rfl
theorem kU : j8 (CX w mg mb h0 os) "TK_CHAR" kB := y6 H rfl
theorem kW : j8 (CX w mg mb h0 os) "TK_SIGN" vm := y6 H rfl
theorem uv : j8 (CX w mg mb h0 os) "LONGEST_SIGN" dG := y6 H rfl
theorem qEK : j8 (CX w mg mb h0 os) "MOST_INT" kT := y6 H rfl
theorem qCQ : j8 (CX w mg mb h0 os) "_law_WORDS" vH := ux H rfl
theorem qCO : j8 (CX w mg mb h0 os) "_law_NAMES" vF := ux H rfl
theorem qCP : j8 (CX w mg mb h0 os) "_law_SIGNS" vG := ux H rfl
theorem qCN : j8 (CX w mg mb h0 os) "_law_GLUED" vE := ux H rfl
theorem qBC : j8 (CX w mg mb h0 os) "_law_BROKEN" y5 := y6 H rfl
theorem qEL : j8 (CX w mg mb h0 os) "_law_ENDS" yO := y6 H rfl
theorem qi : DenF (CX w mg mb h0 os) 2 87 qM :=
 have W := H.glo
 mkF H (nm := ["self"]) rfl (jY fun a => by kernel_rfl) fun hF =>(qG (if1 (qS (qB6 (qm W (dl hF)) (ln W (zP W (dl hF))))) (s1 (qW qF)))
 (s1 (qW (zF (zP W (dl hF)) (qm W (dl hF))))))
theorem zX : DenF (CX w mg mb h0 os) 2 94 qe :=
 have W := H.glo
 mkF H (nm := ["self", "n"]) rfl (qAC fun a b => by kernel_rfl) fun hF =>(qG (if1 (qS (qB6 (qx (qm W (dl hF)) (dl hF)) (ln W (zP W (dl hF))))) (s1 (qW qF)))
 (s1 (qW (zF (zP W (dl hF)) (qx (qm W (dl hF)) (dl hF))))))
theorem jd : DenF (CX w mg mb h0 os) 2 101 zN :=
 have W := H.glo
 mkF H (nm := ["self", "sort", "value", "at"]) rfl (qPH fun a b c d => by kernel_rfl) fun hF =>(s1 (q0 (zV (ke W (dl hF)) (qL (qA (dl hF) (qA (dl hF) (l1 (dl hF))))))))
theorem qGX : DenF (CX w mg mb h0 os) 2 304 dB :=
 have W := H.glo
 mkF H (nm := ["self", "number", "at", "words"]) rfl (qPH fun a b c d => by kernel_rfl) fun hF =>(s1 (q0 (zV (gp W (dl hF)) (qL (qA (dl hF) (qA (dl hF) (l1 (dl hF))))))))
theorem zk : DenF (CX w mg mb h0 os) 3 108 qp :=
 have W := H.glo
 mkF H (nm := ["self", "number", "at", "words"]) rfl (qPH fun a b c d => by kernel_rfl) fun hF =>(s1 (q0 (qN1 W ((qGX H).up (by decide)) ⟨by kernel_rfl, by kernel_rfl⟩ (qB5 W (dl hF)) (qA (dl hF) (qA (dl hF) (l1 (dl hF)))))))
theorem j7 : DenF (CX w mg mb h0 os) 2 157 zI :=
 have W := H.glo
 mkF H (nm := ["c"]) rfl (jY fun a => by kernel_rfl) fun hF =>(qG (if1 (yS .le .le qF (dl hF) qF (by kernel_rfl)).2 (s1 (qW (qBK (uo W (by kernel_rfl) (dl hF)) qE))))
 (qG (if1 (yS .le .le qF (dl hF) qF (by kernel_rfl)).2 (s1 (qW (qBK (uo W (by kernel_rfl) (dl hF)) qE))))
 (qG (if1 (yS .le .le qF (dl hF) qF (by kernel_rfl)).2 (s1 (qW (qBK (uo W (by kernel_rfl) (dl hF)) qE))))
 (s1 (qW qE)))))
theorem yo : DenF (CX w mg mb h0 os) 2 136 zZ :=
 have W := H.glo
 mkF H (nm := ["c"]) rfl (jY fun a => by kernel_rfl) fun hF =>(qG (if1 (jv (jM (yS .le .le qF (dl hF) qF (by kernel_rfl)).2 (jM (yS .le .le qF (dl hF) qF (by kernel_rfl)).2 (jZ (qS (qP (dl hF) qF)))))) (s1 (qW jp)))
 (s1 (qW (qMR (yS .lt .le qF (dl hF) qF (by kernel_rfl)).1 (qIM (dl hF))))))
theorem gc : DenF (CX w mg mb h0 os) 2 255 zq :=
 have W := H.glo
 mkF H (nm := ["text", "units", "letter", "number"]) rfl (jY fun a => by kernel_rfl) fun hF =>(qG (yT (qU hF))
 (qG (qIN (qU hF) (dl hF) (qG (qN (qU hF) (uo W (by kernel_rfl) (dl hF)))
 (s1 (zG (qS (jT (dl hF) qE)) (qG (uq (qU hF) qE)
 (qG (q0 (zV (dl hF) (qGE W (by kernel_rfl) (qx qE (qSV (dl hF) qE)))))
 (s1 (q0 (zV (dl hF) (qGE W (by kernel_rfl) (qx qE (qPU (dl hF) qE)))))))) (s1 (q0 (zV (dl hF) (dl hF))))))))
 (s1 (qW (qB8 (dl hF) (by kernel_rfl))))))
theorem wl : DenF (CX w mg mb h0 os) 4 269 vR :=
 have W := H.glo
 mkF H (nm := ["lx", "begin", "pieces", "end"]) rfl (jY fun a => by kernel_rfl) fun hF =>(qG (qN (qU hF) (qm W (dl hF)))
 (qG (qt W (jH w) (dl hF) qE)
 (qG (yT (qU hF))
 (qG (zy (jU jp) (qG (qN (qU hF) (qIL (zP W (dl hF)) qF (qm W (dl hF))))
 (qG (if1 (qS (z6 (dl hF) qE)) (qG (q0 (zV (dl hF) (kO (zP W (dl hF)) (qm W (dl hF)))))
 (qG (q0 (ml H (zk H) (dl hF) (qA qE (qA (dl hF) (l1 (qL qR))))))
 (qG (kN W (jH w) (dl hF) (ln W (zP W (dl hF))))
 (s1 ur)))))
 (qG (q0 (zV (dl hF) (uO (zP W (dl hF)) (qm W (dl hF)) (dl hF))))
 (qG (kN W (jH w) (dl hF) (qx (dl hF) qE))
 (qG (if1 (qS (z7 (ml H (qi H) (dl hF) qR) qF)) (s1 ur))
 (qG (q0 (zV (dl hF) qF))
 (s1 (qt W (jH w) (dl hF) qE)))))))))
 (s1 (q0 (ml H (jd H) (dl hF) (qA (gl W (y0 H)) (qA (cl H (gc H) (l1 (qB8 (dl hF) (by kernel_rfl)))) (l1 (dl hF)))))))))))
theorem qBH : DenF (CX w mg mb h0 os) 3 143 jF :=
 have W := H.glo
 mkF H (nm := ["c"]) rfl (jY fun a => by kernel_rfl) fun hF =>(s1 (qW (qU8 (cl H (yo H) (l1 (dl hF))) (yS .le .le qF (dl hF) qF (by kernel_rfl)).1)))
theorem wD : DenF (CX w mg mb h0 os) 4 185 jP :=
 have W := H.glo
 mkF H (nm := ["lx", "begin"]) rfl (jY fun a => by kernel_rfl) fun hF =>(qG (qN (qU hF) (qm W (dl hF)))
 (qG (if1 (jU (cl H (yo H) (l1 (ml H (qi H) (dl hF) qR)))) (s1 (zy (jU (cl H (qBH H) (l1 (ml H (qi H) (dl hF) qR)))) (s1 (qt W (jH w) (dl hF) qE)))))
 (s1 (qW (uO (zP W (dl hF)) (dl hF) (qm W (dl hF)))))))
theorem qON : DenF (CX w mg mb h0 os) 5 199 qCJ :=
 have W := H.glo
 mkF H (nm := ["lx", "begin", "name"]) rfl (jY fun a => by kernel_rfl) fun hF =>(qG (qN (qU hF) (qm W (dl hF)))
 (qG (if1 (qS (qP (ml H (zX H) (dl hF) (l1 qE)) qF)) (qG (q0 (cl H (wl H) (l1 (dl hF))))
 (s1 wT)))
 (qG (qt W (jH w) (dl hF) qE)
 (qG (qN (qU hF) (cl H (wD H) (l1 (dl hF))))
 (s1 (zG (qS (qP (dl hF) qF)) (s1 (q0 (ml H (zk H) (dl hF) (qA qE (qA (dl hF) (l1 (qL qR))))))) (s1 (q0 (ml H (jd H) (dl hF) (qA (gl W (v9 H)) (qA (dl hF) (l1 (dl hF)))))))))))))
theorem dN : DenF (CX w mg mb h0 os) 3 220 jV :=
 have W := H.glo
 mkF H (nm := ["lx", "base", "number", "last"]) rfl (qAC fun a b => by kernel_rfl) fun hF =>(qG (qN (qU hF) qE)
 (qG (qN (qU hF) qF)
 (qG (zy (jv (jM (qS (qP (ml H (qi H) (dl hF) qR) qF)) (jZ (qS (z6 (cl H (j7 H) (l1 (ml H (qi H) (dl hF) qR))) (dl hF)))))) (qG (qN (qU hF) (ml H (qi H) (dl hF) qR))
 (qG (if1 (qS (z7 (dl hF) qF)) (s1 (qN (qU hF) (qx (um (dl hF) (dl hF)) (cl H (j7 H) (l1 (dl hF)))))))
 (s1 (qt W (jH w) (dl hF) qE)))))
 (s1 (qW (qL (qA (dl hF) (l1 (z7 (dl hF) qF)))))))))
theorem wk : DenF (CX w mg mb h0 os) 3 234 yL :=
 have W := H.glo
 mkF H (nm := ["lx", "has_u", "has_l", "c", "word"]) rfl (jY fun a => by kernel_rfl) fun hF =>(qG (qN (qU hF) jp)
 (qG (qN (qU hF) jp)
 (qG (zy (jU jp) (qG (qN (qU hF) (ml H (qi H) (dl hF) qR))
 (qG (zG (zU (qy (jv (jM (qS (qP (dl hF) qF)) (jZ (qS (qP (dl hF) qF))))) (zH (yY (jU (dl hF)))))) (s1 (qN (qU hF) jp)) (s1 (zG (zU (qy (jv (jM (qS (qP (dl hF) qF)) (jZ (qS (qP (dl hF) qF))))) (zH (yY (jU (dl hF)))))) (s1 (qN (qU hF) jp)) (s1 ur))))
 (s1 (qt W (jH w) (dl hF) qE)))))
 (qG (qN (qU hF) qF)
 (qG (if1 (jU (dl hF)) (s1 (qN (qU hF) qF)))
 (qG (if1 (jU (dl hF)) (s1 (zR (qU hF) qF)))
 (s1 (qW (dl hF)))))))))
theorem qDC : DenF (CX w mg mb h0 os) 3 227 zr :=
 have W := H.glo
 mkF H (nm := ["lx", "begin", "c", "real", "behind"]) rfl (qAC fun a b => by kernel_rfl) fun hF =>(qG (qN (qU hF) (ml H (qi H) (dl hF) qR))
 (qG (qN (qU hF) (wS W (qCX H) (by kernel_rfl) (dl hF)))
 (qG (if1 (zU (qy (qS (qP (dl hF) qF)) (zH (qS (z6 (cl H (j7 H) (l1 (ml H (zX H) (dl hF) (l1 qE)))) qE))))) (s1 (qN (qU hF) jp)))
 (qG (if1 (jv (jM (qS (qP (dl hF) qF)) (jZ (qS (qP (dl hF) qF))))) (qG (qN (qU hF) (ml H (zX H) (dl hF) (l1 qE)))
 (qG (if1 (jv (jM (qS (qP (dl hF) qF)) (jZ (qS (qP (dl hF) qF))))) (s1 (qN (qU hF) (ml H (zX H) (dl hF) (l1 qE)))))
 (s1 (qN (qU hF) (z6 (cl H (j7 H) (l1 (dl hF))) qE))))))
 (s1 (if1 (jU (dl hF)) (s1 (kM W (qIZ H).choose_spec (H.mgv (by kernel_rfl)) (by kernel_rfl) (by kernel_rfl) (by kernel_rfl) (dl hF)))))))))
theorem qLY : DenF (CX w mg mb h0 os) 4 213 vk :=
 have W := H.glo
 mkF H (nm := ["lx", "begin", "base", "number", "good", "word"]) rfl (jY fun a => by kernel_rfl) fun hF =>(qG (qN (qU hF) (qm W (dl hF)))
 (qG (qN (qU hF) qE)
 (qG (zG (zU (qy (qS (qP (ml H (qi H) (dl hF) qR) qF)) (zH (jv (jM (qS (qP (ml H (zX H) (dl hF) (l1 qE)) qF)) (jZ (qS (qP (ml H (zX H) (dl hF) (l1 qE)) qF)))))))) (s1 (qN (qU hF) qE)) (s1 (if1 (zU (qy (qS (qP (ml H (qi H) (dl hF) qR) qF)) (zH (jv (jM (qS (qP (ml H (zX H) (dl hF) (l1 qE)) qF)) (jZ (qS (qP (ml H (zX H) (dl hF) (l1 qE)) qF)))))))) (s1 (qN (qU hF) qE)))))
 (qG (if1 (qS (z7 (dl hF) qE)) (s1 (qt W (jH w) (dl hF) qE)))
 (qG (jL (qBD hF (by kernel_rfl)) (cl H (dN H) (qA (dl hF) (l1 (dl hF)))))
 (qG (if1 (qS (qP (dl hF) qE)) (s1 (uN W ((qDC H).up (by decide)) (H.mgv (by kernel_rfl)) (by kernel_rfl) (qA (dl hF) (l1 (dl hF))))))
 (qG (if1 (qS (z6 (cl H (j7 H) (l1 (ml H (qi H) (dl hF) qR))) qE)) (qG (qN (qU hF) jp)
 (s1 (q0 (cl H (dN H) (qA (dl hF) (l1 qE)))))))
 (qG (qN (qU hF) (cl H (wk H) (l1 (dl hF))))
 (qG (zG (yY (jU (dl hF))) (qG (q0 (ml H (zk H) (dl hF) (qA qE (qA (dl hF) (l1 (qL qR))))))
 (s1 (qN (qU hF) qE))) (s1 (if1 (qS (jT (dl hF) (gl W (qEK H)))) (qG (q0 (ml H (zk H) (dl hF) (qA qE (qA (dl hF) (l1 (qL qR))))))
 (s1 (qN (qU hF) qE))))))
 (s1 (q0 (ml H (jd H) (dl hF) (qA (gl W (gW H)) (qA (qL (qA (dl hF) (l1 (dl hF)))) (l1 (dl hF))))))))))))))))
theorem qJY : DenF (CX w mg mb h0 os) 5 192 uU :=
 have W := H.glo
 mkF H (nm := ["lx", "begin", "name"]) rfl (qAC fun a b => by kernel_rfl) fun hF =>(qG (qN (qU hF) (cl H (wD H) (l1 (dl hF))))
 (s1 (zG (qS (wS W (qLG H) (by kernel_rfl) (dl hF))) (s1 (q0 (ml H (jd H) (dl hF) (qA (gl W (uw H)) (qA (dl hF) (l1 (dl hF))))))) (s1 (q0 (ml H (jd H) (dl hF) (qA (gl W (v9 H)) (qA (dl hF) (l1 (dl hF))))))))))
theorem j2 : DenF (CX w mg mb h0 os) 2 150 qn :=
 have W := H.glo
 mkF H (nm := ["c"]) rfl (jY fun a => by kernel_rfl) fun hF =>(s1 (qW (wS W (qCW H) (by kernel_rfl) (dl hF))))
theorem dP : DenF (CX w mg mb h0 os) 3 248 jG :=
 have W := H.glo
 mkF H (nm := ["lx", "least", "most", "number", "count"]) rfl (qAD fun a b c => by kernel_rfl) fun hF =>(qG (qN (qU hF) qE)
 (qG (qN (qU hF) qE)
 (qG (zy (zU (qy (qS (z6 (dl hF) (dl hF))) (zH (qS (z6 (cl H (j7 H) (l1 (ml H (qi H) (dl hF) qR))) qE))))) (qG (qN (qU hF) (qx (um (dl hF) qE) (cl H (j7 H) (l1 (ml H (qi H) (dl hF) qR)))))
 (qG (zR (qU hF) qE)
 (s1 (qt W (jH w) (dl hF) qE)))))
 (qG (if1 (qS (z6 (dl hF) (dl hF))) (s1 (qW kL)))
 (s1 (qW (dl hF)))))))
theorem dO : DenF (CX w mg mb h0 os) 4 241 jD :=
 have W := H.glo
 mkF H (nm := ["lx", "begin", "c", "number"]) rfl (jY fun a => by kernel_rfl) fun hF =>(qG (qN (qU hF) (qm W (dl hF)))
 (qG (qt W (jH w) (dl hF) qE)
 (qG (qN (qU hF) (ml H (qi H) (dl hF) qR))
 (qG (if1 (qS (wS W (wb H) (by kernel_rfl) (dl hF))) (qG (qt W (jH w) (dl hF) qE)
 (s1 (qW (qSW W (wu H) (by kernel_rfl) (dl hF))))))
 (qG (qN (qU hF) kL)
 (qG (zG (qS (qP (dl hF) qF)) (qG (qt W (jH w) (dl hF) qE)
 (s1 (qN (qU hF) (cl H (dP H) (qA (dl hF) (qA qE (l1 qE))))))) (s1 (zG (qS (qP (dl hF) qF)) (qG (qt W (jH w) (dl hF) qE)
 (s1 (qN (qU hF) (cl H (dP H) (qA (dl hF) (qA qE (l1 qE))))))) (s1 (zG (qS (qP (dl hF) qF)) (qG (qt W (jH w) (dl hF) qE)
 (s1 (qN (qU hF) (cl H (dP H) (qA (dl hF) (qA qE (l1 qE))))))) (s1 (if1 (zU (qy (qS (z7 (dl hF) qF)) (zH (yY (jU (cl H (j2 H) (l1 (dl hF)))))))) (s1 (qt W (jH w) (dl hF) qE)))))))))
 (qG (if1 (jv (jM (qS (z6 (dl hF) qE)) (jZ (qS (jT (dl hF) qE))))) (qG (q0 (ml H (zk H) (dl hF) (qA qE (qA (dl hF) (l1 (qL qR))))))
 (s1 (qW qF))))
 (s1 (qW (cl H (gc H) (l1 (qGE W (by kernel_rfl) (dl hF)))))))))))))
theorem qG7 : DenF (CX w mg mb h0 os) 3 283 gV :=
 have W := H.glo
 mkF H (nm := ["lx", "count"]) rfl (jY fun a => by kernel_rfl) fun hF =>(qG (qN (qU hF) qE)
 (qG (zy (zU (qy (qS (z7 (ml H (qi H) (dl hF) qR) qF)) (qy (qS (z7 (ml H (qi H) (dl hF) qR) qF)) (zH (yY (jU (cl H (j2 H) (l1 (ml H (qi H) (dl hF) qR))))))))) (qG (if1 (zU (qy (qS (qP (ml H (qi H) (dl hF) qR) qF)) (qy (qS (z7 (ml H (zX H) (dl hF) (l1 qE)) qF)) (zH (yY (jU (cl H (j2 H) (l1 (ml H (zX H) (dl hF) (l1 qE)))))))))) (s1 (qt W (jH w) (dl hF) qE)))
 (qG (qt W (jH w) (dl hF) qE)
 (s1 (zR (qU hF) qE)))))
 (s1 (qW (dl hF)))))
theorem qG4 : DenF (CX w mg mb h0 os) 5 276 dD :=
 have W := H.glo
 mkF H (nm := ["lx", "begin", "c", "letter", "count", "number"]) rfl (jY fun a => by kernel_rfl) fun hF =>(qG (qN (qU hF) (qm W (dl hF)))
 (qG (qt W (jH w) (dl hF) qE)
 (qG (qN (qU hF) (ml H (qi H) (dl hF) qR))
 (qG (qN (qU hF) (dl hF))
 (qG (qN (qU hF) qE)
 (qG (zG (qS (qP (dl hF) qF)) (qG (q0 (ml H (zk H) (dl hF) (qA qE (qA (dl hF) (l1 (qL qR))))))
 (s1 (qN (qU hF) qE))) (s1 (zG (qS (qP (dl hF) qF)) (s1 (qN (qU hF) (cl H (dO H) (l1 (dl hF))))) (s1 (if1 (zU (qy (qS (z7 (dl hF) qF)) (zH (yY (jU (cl H (j2 H) (l1 (dl hF)))))))) (qG (qN (qU hF) (cl H (gc H) (l1 (dl hF))))
 (s1 (qt W (jH w) (dl hF) qE))))))))
 (qG (if1 (zU (qy (qS (qP (dl hF) qE)) (zH (qS (z7 (ml H (qi H) (dl hF) qR) qF))))) (s1 (zR (qU hF) (cl H (qG7 H) (l1 (dl hF))))))
 (qG (zG (qS (qP (ml H (qi H) (dl hF) qR) qF)) (qG (qt W (jH w) (dl hF) qE)
 (s1 (if1 (jv (jM (qS (jT (dl hF) qE)) (jZ (qS (jT (ln W (dl hF)) qE))))) (qG (q0 (ml H (zk H) (dl hF) (qA qE (qA (dl hF) (l1 (qL qR))))))
 (s1 (qN (qU hF) qE)))))) (qG (q0 (ml H (zk H) (dl hF) (qA qE (qA (dl hF) (l1 (qL qR))))))
 (s1 (qN (qU hF) qE))))
 (qG (qN (qU hF) qE)
 (qG (if1 (zU (qy (qS (qP (dl hF) qE)) (zH (qS (z7 (dl hF) qF))))) (s1 (qN (qU hF) (uo W (by kernel_rfl) (dl hF)))))
 (s1 (q0 (ml H (jd H) (dl hF) (qA (gl W (kU H)) (qA (dl hF) (l1 (dl hF)))))))))))))))))
theorem qG5 : DenF (CX w mg mb h0 os) 4 206 vC :=
 have W := H.glo
 mkF H (nm := ["lx", "count", "piece"]) rfl (jY fun a => by kernel_rfl) fun hF =>(qG (qN (qU hF) (gl W (uv H)))
 (qG (zy (qS (jT (dl hF) qE)) (qG (qN (qU hF) (uO (zP W (dl hF)) (qm W (dl hF)) (qx (qm W (dl hF)) (dl hF))))
 (qG (if1 (zU (qy (qS (wS W (qLF H) (by kernel_rfl) (dl hF))) (zH (yY (zU (qy (qS (qP (dl hF) qF)) (zH (qS (qP (ml H (zX H) (dl hF) (l1 qE)) qF))))))))) (qG (q0 (ml H (jd H) (dl hF) (qA (gl W (kW H)) (qA (dl hF) (l1 (qm W (dl hF)))))))
 (qG (qt W (jH w) (dl hF) (ln W (dl hF)))
 (s1 wT))))
 (s1 (uq (qU hF) qE)))))
 (qG (q0 (ml H (zk H) (dl hF) (qA qE (qA (qm W (dl hF)) (l1 (qL (l1 (ml H (qi H) (dl hF) qR))))))))
 (s1 (qt W (jH w) (dl hF) qE)))))
theorem qG6 : DenF (CX w mg mb h0 os) 5 262 dE :=
 have W := H.glo
 mkF H (nm := ["lx", "begin", "letters", "c"]) rfl (jY fun a => by kernel_rfl) fun hF =>(qG (qN (qU hF) (qm W (dl hF)))
 (qG (qt W (jH w) (dl hF) qE)
 (qG (yT (qU hF))
 (qG (zy (qS (z7 (ml H (qi H) (dl hF) qR) qF)) (qG (qN (qU hF) (ml H (qi H) (dl hF) qR))
 (qG (if1 (jv (jM (qS (qP (dl hF) qF)) (jZ (jU (cl H (j2 H) (l1 (dl hF))))))) (qG (q0 (ml H (zk H) (dl hF) (qA qE (qA (dl hF) (l1 (qL qR))))))
 (s1 ur)))
 (s1 (zG (qS (qP (dl hF) qF)) (s1 (q0 (zV (dl hF) (cl H (dO H) (l1 (dl hF)))))) (qG (q0 (zV (dl hF) (cl H (gc H) (l1 (dl hF)))))
 (s1 (qt W (jH w) (dl hF) qE))))))))
 (qG (if1 (qS (qP (ml H (qi H) (dl hF) qR) qF)) (s1 (qt W (jH w) (dl hF) qE)))
 (s1 (q0 (ml H (jd H) (dl hF) (qA (gl W (y0 H)) (qA (qB8 (dl hF) (by kernel_rfl)) (l1 (dl hF))))))))))))
theorem qLZ : DenF (CX w mg mb h0 os) 6 129 yk :=
 have W := H.glo
 mkF H (nm := ["lx", "c"]) rfl (jY fun a => by kernel_rfl) fun hF =>(qG (qN (qU hF) (ml H (qi H) (dl hF) qR))
 (s1 (zG (jU (cl H (yo H) (l1 (dl hF)))) (s1 (q0 (cl H (qJY H) (qA (dl hF) (l1 (qm W (dl hF))))))) (s1 (zG (yS .le .le qF (dl hF) qF (by kernel_rfl)).2 (s1 (uN W ((qLY H).up (by decide)) (H.mgv (by kernel_rfl)) (by kernel_rfl) (l1 (dl hF)))) (s1 (zG (qS (qP (dl hF) qF)) (s1 (q0 (cl H (qG6 H) (l1 (dl hF))))) (s1 (zG (qS (qP (dl hF) qF)) (s1 (q0 (cl H (qG4 H) (l1 (dl hF))))) (s1 (zG (qS (qP (dl hF) qF)) (s1 (q0 (cl H (qON H) (l1 (dl hF))))) (s1 (zG (zU (qy (qS (qP (dl hF) qF)) (zH (qS (z6 (cl H (j7 H) (l1 (ml H (zX H) (dl hF) (l1 qE)))) qE))))) (s1 (kM W (qIZ H).choose_spec (H.mgv (by kernel_rfl)) (by kernel_rfl) (by kernel_rfl) (by kernel_rfl) (qm W (dl hF)))) (s1 (zG (qS (qP (dl hF) qF)) (s1 (kM W (qIZ H).choose_spec (H.mgv (by kernel_rfl)) (by kernel_rfl) (by kernel_rfl) (by kernel_rfl) (qm W (dl hF)))) (s1 (zG (qS (qP (dl hF) qF)) (s1 (kM W (qIZ H).choose_spec (H.mgv (by kernel_rfl)) (by kernel_rfl) (by kernel_rfl) (by kernel_rfl) (qm W (dl hF)))) (s1 (q0 (cl H (qG5 H) (l1 (dl hF))))))))))))))))))))))
theorem qEQ : DenF (CX w mg mb h0 os) 4 178 jx :=
 have W := H.glo
 mkF H (nm := ["lx", "end"]) rfl (jY fun a => by kernel_rfl) fun hF =>(qG (qN (qU hF) (qIL (zP W (dl hF)) qF (qx (qm W (dl hF)) qE)))
 (s1 (zG (qS (z6 (dl hF) qE)) (qG (q0 (ml H (zk H) (dl hF) (qA qE (qA (qm W (dl hF)) (l1 (qL qR))))))
 (s1 (kN W (jH w) (dl hF) (ln W (zP W (dl hF)))))) (s1 (kN W (jH w) (dl hF) (qx (dl hF) qE))))))
theorem qG8 : DenF (CX w mg mb h0 os) 3 171 vD :=
 have W := H.glo
 mkF H (nm := ["lx"]) rfl (jY fun a => by kernel_rfl) fun hF =>(s1 (zy (zU (qy (qS (z7 (ml H (qi H) (dl hF) qR) qF)) (zH (yY (jU (cl H (j2 H) (l1 (ml H (qi H) (dl hF) qR)))))))) (s1 (qt W (jH w) (dl hF) qE))))
theorem dQ : DenF (CX w mg mb h0 os) 5 164 yK :=
 have W := H.glo
 mkF H (nm := ["lx", "c"]) rfl (jY fun a => by kernel_rfl) fun hF =>(s1 (zy (jU jp) (qG (qN (qU hF) (ml H (qi H) (dl hF) qR))
 (s1 (zG (qS (wS W (qJE H) (by kernel_rfl) (dl hF))) (s1 (qt W (jH w) (dl hF) qE)) (s1 (zG (zU (qy (qS (qP (dl hF) qF)) (zH (qS (qP (ml H (zX H) (dl hF) (l1 qE)) qF))))) (s1 (q0 (cl H (qG8 H) (l1 (dl hF))))) (s1 (zG (zU (qy (qS (qP (dl hF) qF)) (zH (qS (qP (ml H (zX H) (dl hF) (l1 qE)) qF))))) (s1 (q0 (cl H (qEQ H) (l1 (dl hF))))) (s1 wT))))))))))
theorem qRE : DenF (CX w mg mb h0 os) 7 122 gA :=
 have W := H.glo
 mkX H (nm := ["text", "diags", "lx"]) rfl (qAC fun a b => by kernel_rfl) fun hF =>(qG (qK6 W (qVO H).choose_spec (H.mgv (by kernel_rfl)) (by kernel_rfl) (qU hF) (dl hF) (dl hF))
 (qG (q0 (cl H (dQ H) (l1 (dl hF))))
 (qG (zy (qS (z6 (qm W (dl hF)) (ln W (dl hF)))) (qG (uN W ((qLZ H).up (by decide)) (H.mgv (by kernel_rfl)) (by kernel_rfl) (l1 (dl hF)))
 (s1 (q0 (cl H (dQ H) (l1 (dl hF)))))))
 (qG (q0 (ml H (jd H) (dl hF) (qA (gl W (qAO H)) (qA qF (l1 (ln W (dl hF)))))))
 (s1 (qW (ke W (dl hF))))))))
theorem qDA : DenF (CX w mg mb h0 os) 2 332 yI :=
 have W := H.glo
 mkF H (nm := []) rfl (uf (by kernel_rfl)) fun hF =>(s1 (qW (qu (qA qE (qA qE (qA qE (qA qE (qA qE (qA qE (qA qE (qA qE (qA qE (qA qE (qA qE (l1 qE)))))))))))))))
theorem qG0 : DenF (CX w mg mb h0 os) 2 339 vB :=
 have W := H.glo
 mkF H (nm := []) rfl (uf (by kernel_rfl)) fun hF =>(s1 (qW (qu (qA (qL (qA qF (l1 qF))) (qA (qL (qA qF (l1 qF))) (qA (qL (qA qF (l1 qF))) (qA (qL (qA qF (l1 qF))) (qA (qL (qA qF (l1 qF))) (qA (qL (qA qF (l1 qF))) (qA (qL (qA qF (l1 qF))) (qA (qL (qA qF (l1 qF))) (qA (qL (qA qF (l1 qF))) (l1 (qL (qA qF (l1 qF))))))))))))))))
theorem uW : DenF (CX w mg mb h0 os) 2 346 jO :=
 have W := H.glo
 mkF H (nm := []) rfl (uf (by kernel_rfl)) fun hF =>(s1 (qW (qu (qA (qL (qA qF (l1 qF))) (qA (qL (qA qF (l1 qF))) (qA (qL (qA qF (l1 qF))) (qA (qL (qA qF (l1 qF))) (qA (qL (qA qF (l1 qF))) (qA (qL (qA qF (l1 qF))) (qA (qL (qA qF (l1 qF))) (qA (qL (qA qF (l1 qF))) (l1 (qL (qA qF (l1 qF)))))))))))))))
theorem qEN : DenF (CX w mg mb h0 os) 2 353 jw :=
 have W := H.glo
 mkF H (nm := []) rfl (uf (by kernel_rfl)) fun hF =>(s1 (qW (qu (qA (qL (qA qF (qA qF (l1 qE)))) (qA (qL (qA qF (qA qF (l1 qE)))) (qA (qL (qA qF (qA qF (l1 qE)))) (qA (qL (qA qF (qA qF (l1 qE)))) (qA (qL (qA qF (qA qF (l1 qE)))) (qA (qL (qA qF (qA qF (l1 qE)))) (qA (qL (qA qF (qA qF (l1 qE)))) (qA (qL (qA qF (qA qF (l1 qE)))) (qA (qL (qA qF (qA qF (l1 qE)))) (qA (qL (qA qF (qA qF (l1 qE)))) (qA (qL (qA qF (qA qF (l1 qE)))) (qA (qL (qA qF (qA qF (l1 qE)))) (qA (qL (qA qF (qA qF (l1 qE)))) (qA (qL (qA qF (qA qF (l1 qE)))) (qA (qL (qA qF (qA qF (l1 qE)))) (qA (qL (qA qF (qA qF (l1 qE)))) (qA (qL (qA qF (qA qF (l1 qE)))) (qA (qL (qA qF (qA qF (l1 qE)))) (qA (qL (qA qF (qA qF (l1 qE)))) (qA (qL (qA qF (qA qF (l1 qE)))) (qA (qL (qA qF (qA qF (l1 qE)))) (qA (qL (qA qF (qA qF (l1 qE)))) (qA (qL (qA qF (qA qF (l1 qE)))) (qA (qL (qA qF (qA qF (l1 qE)))) (qA (qL (qA qF (qA qF (l1 qE)))) (qA (qL (qA qF (qA qF (l1 qE)))) (qA (qL (qA qF (qA qF (l1 qE)))) (qA (qL (qA qF (qA qF (l1 qE)))) (qA (qL (qA qF (qA qF (l1 qE)))) (qA (qL (qA qF (qA qF (l1 qE)))) (qA (qL (qA qF (qA qF (l1 qE)))) (l1 (qL (qA qF (qA qF (l1 qE)))))))))))))))))))))))))))))))))))))))
theorem qGZ : DenF (CX w mg mb h0 os) 2 360 yV :=
 have W := H.glo
 mkF H (nm := []) rfl (uf (by kernel_rfl)) fun hF =>(s1 (qW (qu (qA (qL (qA qF (l1 qF))) (qA (qL (qA qF (l1 qF))) (qA (qL (qA qF (l1 qF))) (qA (qL (qA qF (l1 qF))) (qA (qL (qA qF (l1 qF))) (qA (qL (qA qF (l1 qF))) (l1 (qL (qA qF (l1 qF)))))))))))))
theorem qGY : DenF (CX w mg mb h0 os) 2 367 yU :=
 have W := H.glo
 mkF H (nm := []) rfl (uf (by kernel_rfl)) fun hF =>(s1 (qW (qu (qA (qL (qA qF (l1 qE))) (qA (qL (qA qF (l1 qE))) (qA (qL (qA qF (l1 qE))) (qA (qL (qA qF (l1 qE))) (qA (qL (qA qF (l1 qE))) (qA (qL (qA qF (l1 qE))) (qA (qL (qA qF (l1 qE))) (qA (qL (qA qF (l1 qE))) (qA (qL (qA qF (l1 qE))) (qA (qL (qA qF (l1 qE))) (qA (qL (qA qF (l1 qE))) (qA (qL (qA qF (l1 qE))) (qA (qL (qA qF (l1 qE))) (qA (qL (qA qF (l1 qE))) (qA (qL (qA qF (l1 qE))) (qA (qL (qA qF (l1 qE))) (qA (qL (qA qF (l1 qE))) (qA (qL (qA qF (l1 qE))) (qA (qL (qA qF (l1 qE))) (qA (qL (qA qF (l1 qE))) (qA (qL (qA qF (l1 qE))) (l1 (qL (qA qF (l1 qE))))))))))))))))))))))))))))
theorem qDB : DenF (CX w mg mb h0 os) 2 429 yJ :=
 have W := H.glo
 mkF H (nm := []) rfl (uf (by kernel_rfl)) fun hF =>(s1 (qW (qu (qA qF (qA qF (qA qF (qA qF (qA qF (l1 qF)))))))))
theorem qJW : DenF (CX w mg mb h0 os) 2 436 yi :=
 have W := H.glo
 mkF H (nm := []) rfl (uf (by kernel_rfl)) fun hF =>(s1 (qW (qu (qA qF (qA qF (qA qF (qA qF (qA qF (qA qF (qA qF (qA qF (qA qF (qA qF (qA qF (qA qF (qA qF (qA qF (qA qF (l1 qF)))))))))))))))))))
theorem g8 : DenF (CX w mg mb h0 os) 2 583 z8 :=
 have W := H.glo
 mkF H (nm := ["script", "place", "limit"]) rfl (qAD fun a b c => by kernel_rfl) fun hF =>(qG (if1 (qS (z6 (dl hF) (ln W (dl hF)))) (s1 (qW (zW (zF (dl hF) (dl hF)) (dl hF)))))
 (s1 (qW qE)))
theorem qEO : DenF (CX w mg mb h0 os) 2 590 kQ :=
 have W := H.glo
 mkF H (nm := ["number", "base", "tall", "letters", "out"]) rfl (qAD fun a b c => by kernel_rfl) fun hF =>(qG (qN (qU hF) (db (jU (dl hF)) qF qF))
 (qG (qN (qU hF) qF)
 (qG (zy (jv (jM (qS (jT (dl hF) qE)) (jZ (qS (qP (dl hF) qF))))) (qG (qN (qU hF) (qx (zF (dl hF) (zW (dl hF) (dl hF))) (dl hF)))
 (s1 (qN (qU hF) (jE (dl hF) (dl hF))))))
 (s1 (qW (dl hF))))))
theorem qEP : DenF (CX w mg mb h0 os) 3 597 v4 :=
 have W := H.glo
 mkF H (nm := ["base", "n", "number", "tail", "word", "tall", "digits"]) rfl (qAC fun a b => by kernel_rfl) fun hF =>(qG (qN (qU hF) (zF (cl H (qDA H) qR) (zW (dl hF) qE)))
 (qG (if1 (qS (qP (dl hF) qE)) (s1 (qN (qU hF) (zW (dl hF) qE))))
 (qG (qN (qU hF) (jE (dl hF) qE))
 (qG (jL (qBD hF (by kernel_rfl)) (zF (cl H (qG0 H) qR) (zW (dl hF) qE)))
 (qG (qN (qU hF) (jE (dl hF) qE))
 (qG (qN (qU hF) (qP (zW (jE (dl hF) qE) qE) qE))
 (qG (qN (qU hF) (cl H (qEO H) (qA (dl hF) (qA (dl hF) (l1 (dl hF))))))
 (qG (zG (zU (qy (qS (qP (zW (dl hF) qE) qE)) (zH (qS (jT (ln W (dl hF)) qE))))) (s1 (qN (qU hF) (qx (qx (zF (dl hF) qE) qF) (kO (dl hF) qE)))) (s1 (zG (zU (qy (qS (qP (zW (dl hF) qE) qE)) (zH (qS (jT (ln W (dl hF)) qE))))) (s1 (qN (qU hF) (qx (qx (uP (dl hF) kL) qF) (zF (dl hF) kL)))) (s1 (if1 (qS (qP (zW (dl hF) qE) qE)) (s1 (qN (qU hF) (qx (db (qS (qP (dl hF) qE)) qF qF) (dl hF)))))))))
 (qG (zG (qS (qP (dl hF) qE)) (s1 (qN (qU hF) (qx (db (jU (dl hF)) qF qF) (dl hF)))) (s1 (if1 (qS (qP (dl hF) qE)) (s1 (qN (qU hF) (qx (db (jU (dl hF)) qF qF) (dl hF)))))))
 (qG (if1 (qS (jT (dl hF) qE)) (s1 (qW (qL (qA (qx (dl hF) (dl hF)) (qA (qu (l1 (qL (qA (gl W (gW H)) (qA (qL (qA qE (l1 (dl hF)))) (l1 qE)))))) (l1 (qu (l1 (qL (qA qE (l1 qE))))))))))))
 (s1 (qW (qL (qA (qx (dl hF) (dl hF)) (qA (qu (l1 (qL (qA (gl W (gW H)) (qA (qL (qA (dl hF) (l1 (dl hF)))) (l1 qE)))))) (l1 (qu qR)))))))))))))))))
theorem qJX : DenF (CX w mg mb h0 os) 3 604 uT :=
 have W := H.glo
 mkF H (nm := ["n", "count", "spelt", "meant", "faults", "turn", "piece", "sense", "amiss"]) rfl (jY fun a => by kernel_rfl) fun hF =>(qG (qN (qU hF) (zW (dl hF) qE))
 (qG (qN (qU hF) (jE (dl hF) qE))
 (qG (qN (qU hF) qF)
 (qG (qN (qU hF) qF)
 (qG (yT (qU hF))
 (qG (gq W (qU hF) (by kernel_rfl) (dl hF) (qG (jL (qBD hF (by kernel_rfl)) (zF (cl H (qEN H) qR) (zW (dl hF) qE)))
 (qG (qN (qU hF) (jE (dl hF) qE))
 (qG (if1 (qS (qP (dl hF) qE)) (s1 (q0 (zV (dl hF) (qL (qA qE (l1 (ln W (dl hF)))))))))
 (qG (zR (qU hF) (dl hF))
 (s1 (zR (qU hF) (dl hF))))))))
 (s1 (qW (qL (qA (qx (dl hF) qF) (qA (qu (l1 (qL (qA (gl W (y0 H)) (qA (dl hF) (l1 qE)))))) (l1 (dl hF)))))))))))))
theorem qBI : DenF (CX w mg mb h0 os) 3 611 vz :=
 have W := H.glo
 mkF H (nm := ["n", "count", "spelt", "meant", "turn", "piece", "sense"]) rfl (jY fun a => by kernel_rfl) fun hF =>(qG (qN (qU hF) (zW (dl hF) qE))
 (qG (qN (qU hF) (jE (dl hF) qE))
 (qG (qN (qU hF) qF)
 (qG (qN (qU hF) qF)
 (qG (gq W (qU hF) (by kernel_rfl) (dl hF) (qG (jL (qBD hF (by kernel_rfl)) (zF (cl H (qGZ H) qR) (zW (dl hF) qE)))
 (qG (qN (qU hF) (jE (dl hF) qE))
 (qG (zR (qU hF) (dl hF))
 (s1 (zR (qU hF) (dl hF)))))))
 (s1 (qW (qL (qA (qx (dl hF) qF) (qA (qu (l1 (qL (qA (gl W (y0 H)) (qA (dl hF) (l1 qE)))))) (l1 (qu qR))))))))))))
theorem qG1 : DenF (CX w mg mb h0 os) 2 618 dC :=
 have W := H.glo
 mkF H (nm := ["n", "rows", "parts", "tokens", "at", "sign"]) rfl (jY fun a => by kernel_rfl) fun hF =>(qG (qN (qU hF) (kA (gT (gl W (qCN H)) (by kernel_rfl) (by kernel_rfl)) (by kernel_rfl)))
 (qG (qN (qU hF) (kA (zF (dl hF) (zW (dl hF) (ln W (dl hF)))) (by kernel_rfl)))
 (qG (yT (qU hF))
 (qG (qN (qU hF) qE)
 (qG (qGF (qU hF) (kO (dl hF) qE) (qG (q0 (zV (dl hF) (qL (qA (gl W (kW H)) (qA (dl hF) (l1 (dl hF)))))))
 (s1 (zR (qU hF) (ln W (dl hF))))))
 (s1 (qW (qL (qA (zF (dl hF) qE) (qA (dl hF) (l1 (qu qR))))))))))))
theorem qG2 : DenF (CX w mg mb h0 os) 2 625 gU :=
 have W := H.glo
 mkF H (nm := ["n", "words", "names", "name", "word"]) rfl (jY fun a => by kernel_rfl) fun hF =>(qG (qN (qU hF) (kA (gT (gl W (qCQ H)) (by kernel_rfl) (by kernel_rfl)) (by kernel_rfl)))
 (qG (qN (qU hF) (kA (gT (gl W (qCO H)) (by kernel_rfl) (by kernel_rfl)) (by kernel_rfl)))
 (qG (if1 (qS (qP (zW (dl hF) qE) qE)) (qG (qN (qU hF) (zF (dl hF) (zW (jE (dl hF) qE) (ln W (dl hF)))))
 (s1 (qW (qL (qA (dl hF) (qA (qu (l1 (qL (qA (gl W (v9 H)) (qA (dl hF) (l1 qE)))))) (l1 (qu qR)))))))))
 (qG (if1 (qS (qP (zW (dl hF) qE) qE)) (qG (qN (qU hF) (zF (dl hF) (zW (jE (dl hF) qE) (ln W (dl hF)))))
 (s1 (qW (qL (qA (dl hF) (qA (qu (l1 (qL (qA (gl W (uw H)) (qA (dl hF) (l1 qE)))))) (l1 (qu qR)))))))))
 (qG (qN (qU hF) (zF (qx (dl hF) (dl hF)) (zW (jE (dl hF) qE) (qx (ln W (dl hF)) (ln W (dl hF))))))
 (s1 (qW (qL (qA (qx qF (dl hF)) (qA (qu (l1 (qL (qA (gl W (v9 H)) (qA (dl hF) (l1 qE)))))) (l1 (qu qR))))))))))))
theorem qLX : DenF (CX w mg mb h0 os) 3 632 de :=
 have W := H.glo
 mkF H (nm := ["n", "spelt", "word", "meant", "faults"]) rfl (jY fun a => by kernel_rfl) fun hF =>(qG (if1 (qS (qP (zW (dl hF) qE) qE)) (qG (jL (qBD hF (by kernel_rfl)) (zF (cl H (uW H) qR) (zW (jE (dl hF) qE) qE)))
 (s1 (qW (qL (qA (dl hF) (qA (qu (l1 (qL (qA (gl W (gW H)) (qA (qL (qA qE (l1 (dl hF)))) (l1 qE)))))) (l1 (qu (l1 (qL (qA qE (l1 qE)))))))))))))
 (qG (if1 (qS (qP (zW (dl hF) qE) qE)) (qG (jL (qBD hF (by kernel_rfl)) (zF (gl W (qBC H)) (zW (jE (dl hF) qE) qE)))
 (qG (if1 (qS (qP (zF (dl hF) qE) qF)) (s1 (qW (qL (qA (dl hF) (qA (qu (l1 (qL (qA (gl W (kU H)) (qA qE (l1 qE)))))) (l1 (dl hF))))))))
 (s1 (qW (qL (qA (dl hF) (qA (qu (l1 (qL (qA (gl W (y0 H)) (qA (dl hF) (l1 qE)))))) (l1 (dl hF))))))))))
 (qG (qN (qU hF) (zF (cl H (qDB H) qR) (zW (jE (dl hF) qE) qE)))
 (s1 (qW (qL (qA (dl hF) (qA (qu qR) (l1 (qu (l1 (qL (qA (db (qS (qP (dl hF) qF)) qE qE) (l1 qE))))))))))))))
theorem qG3 : DenF (CX w mg mb h0 os) 4 639 j6 :=
 have W := H.glo
 mkF H (nm := ["kind", "n", "signs", "sign", "spelt", "number"]) rfl (qAC fun a b => by kernel_rfl) fun hF =>(qG (if1 (qS (z6 (dl hF) qE)) (s1 (qW (cl H (qG2 H) (l1 (dl hF))))))
 (qG (if1 (qS (qP (dl hF) qE)) (qG (qN (qU hF) (kA (gT (gl W (qCP H)) (by kernel_rfl) (by kernel_rfl)) (by kernel_rfl)))
 (qG (qN (qU hF) (zF (dl hF) (zW (dl hF) (ln W (dl hF)))))
 (s1 (qW (qL (qA (dl hF) (qA (qu (l1 (qL (qA (gl W (kW H)) (qA (dl hF) (l1 qE)))))) (l1 (qu qR))))))))))
 (qG (if1 (qS (qP (dl hF) qE)) (s1 (qW (cl H (qG1 H) (l1 (dl hF))))))
 (qG (if1 (qS (z6 (dl hF) qE)) (s1 (qW (cl H (qEP H) (qA (zF (qu (qA qE (qA qE (l1 qE)))) (qBK (dl hF) qE)) (l1 (dl hF)))))))
 (qG (if1 (qS (qP (dl hF) qE)) (s1 (qW (cl H (qJX H) (l1 (dl hF))))))
 (qG (if1 (qS (qP (dl hF) qE)) (s1 (qW (cl H (qBI H) (l1 (dl hF))))))
 (qG (if1 (qS (qP (dl hF) qE)) (qG (jL (qBD hF (by kernel_rfl)) (zF (cl H (qGY H) qR) (zW (dl hF) qE)))
 (s1 (qW (qL (qA (qx (qx qF (dl hF)) qF) (qA (qu (l1 (qL (qA (gl W (kU H)) (qA (dl hF) (l1 qE)))))) (l1 (qu qR)))))))))
 (s1 (qW (cl H (qLX H) (l1 (dl hF))))))))))))
theorem qLW : DenF (CX w mg mb h0 os) 2 646 yj :=
 have W := H.glo
 mkF H (nm := ["text", "gap", "spelt", "parting"]) rfl (qAD fun a b c => by kernel_rfl) fun hF =>(qG (qN (qU hF) qF)
 (qG (if1 (zU (qy (qS (qP (dl hF) qF)) (qy (qS (z7 (dl hF) qF)) (qy (qS (qEY (zF (dl hF) kL) (dl hF))) (zH (qS (qEY (zF (dl hF) qE) (dl hF)))))))) (s1 (qW qF)))
 (qG (if1 (zU (qy (qS (qP (uP (dl hF) qE) qF)) (zH (qS (qP (kO (dl hF) kL) qF))))) (s1 (qW (qx qF (dl hF)))))
 (s1 (qW (dl hF))))))
theorem qAW : DenF (CX w mg mb h0 os) 2 653 ja :=
 have W := H.glo
 mkF H (nm := ["text", "at", "faults", "rows", "number", "place", "words"]) rfl (qAD fun a b c => by kernel_rfl) fun hF =>(qG (yT (qU hF))
 (qG (ky (qBD hF (by kernel_rfl)) (dl hF) (qG (qN (qU hF) (db (qS (qP (dl hF) qE)) (qL (l1 (zF (dl hF) (qx (dl hF) (dl hF))))) (qL qR)))
 (s1 (q0 (zV (dl hF) (qL (qA (dl hF) (qA (qx (dl hF) (dl hF)) (l1 (dl hF))))))))))
 (s1 (qW (dl hF)))))
theorem qXY (H : Hand (CX w mg mb h0 os)) {F : Fi} {body : List Stmt} (hF : F.ok = true) : True := trivial
end
section
variable {w : World} {mg mb : Str → Option Value} {h0 : Heap} {os : OsState}
noncomputable def lawOf (w : World) : Option (List Stmt × Scope × Str) := match (hd.heap_39 w.params).lookup 660 with
 | some ⟨_, _, .func fd, _⟩ => (match fd.body with
  | .stmts b => some (b, fd.scope, fd.qualname)
  | _ => none)
 | _ => none
theorem qWB {P : List Stmt → Scope → Str → Prop} {b b' : List Stmt} {sc sc' : Scope} {q q' : Str} (e : lawOf w = some (b', sc', q')) (e' : lawOf w = some (b, sc, q)) (h : P b' sc' q') : P b sc q := by
 rw [e] at e'
 cases e'
 exact h
theorem qTI (H : Hand (CX w mg mb h0 os)) {body : List Stmt} {sc : Scope} {q : Str} (e : lawOf w = some (body, sc, q)) : Fi.ok ⟨[("script" : Str), ("s" : Str), ("text" : Str), ("tokens" : Str), ("rows" : Str), ("k" : Str), ("kind" : Str), ("spelt" : Str), ("parts" : Str), ("faults" : Str), ("at" : Str), ("sort" : Str), ("value" : Str), ("place" : Str), ("word" : Str), ("diags" : Str), ("caught" : Str), ("fault" : Str)], sc, q⟩ = true ∧ vP (CX w mg mb h0 os) ⟨[("script" : Str), ("s" : Str), ("text" : Str), ("tokens" : Str), ("rows" : Str), ("k" : Str), ("kind" : Str), ("spelt" : Str), ("parts" : Str), ("faults" : Str), ("at" : Str), ("sort" : Str), ("value" : Str), ("place" : Str), ("word" : Str), ("diags" : Str), ("caught" : Str), ("fault" : Str)], sc, q⟩ 343 2 body qEV := by
 have W := H.glo
 refine qWB (P := fun body sc q => Fi.ok ⟨[("script" : Str), ("s" : Str), ("text" : Str), ("tokens" : Str), ("rows" : Str), ("k" : Str), ("kind" : Str), ("spelt" : Str), ("parts" : Str), ("faults" : Str), ("at" : Str), ("sort" : Str), ("value" : Str), ("place" : Str), ("word" : Str), ("diags" : Str), ("caught" : Str), ("fault" : Str)], sc, q⟩ = true ∧ vP (CX w mg mb h0 os) ⟨[("script" : Str), ("s" : Str), ("text" : Str), ("tokens" : Str), ("rows" : Str), ("k" : Str), ("kind" : Str), ("spelt" : Str), ("parts" : Str), ("faults" : Str), ("at" : Str), ("sort" : Str), ("value" : Str), ("place" : Str), ("word" : Str), ("diags" : Str), ("caught" : Str), ("fault" : Str)], sc, q⟩ 343 2 body qEV) rfl e ?_
 refine (fun hF => And.intro hF ?_) (by kernel_rfl)
 exact (qG (qN (qU hF) (uP (dl hF) qE))
 (qG (qN (qU hF) qF)
 (qG (yT (qU hF))
 (qG (yT (qU hF))
 (qG (gq W (qU hF) (by kernel_rfl) (qSU W (by kernel_rfl) qE (jE (qx (ul W (by kernel_rfl) (dl hF)) qE) qE)) (qG (qN (qU hF) (jq W ((g8 H).up (by decide)) (H.mgv (by kernel_rfl)) (by kernel_rfl) (qA (dl hF) (qA (qx (um qE (dl hF)) qE) (qA qE qR)))))
 (qG (jL (qBD hF (by kernel_rfl)) (jq W ((qG3 H).up (by decide)) (H.mgv (by kernel_rfl)) (by kernel_rfl) (qA (dl hF) (qA (jq W ((g8 H).up (by decide)) (H.mgv (by kernel_rfl)) (by kernel_rfl) (qA (dl hF) (qA (qx (um qE (dl hF)) qE) (qA qE qR)))) qR))))
 (qG (zR (qU hF) (jq W ((qLW H).up (by decide)) (H.mgv (by kernel_rfl)) (by kernel_rfl) (qA (dl hF) (qA (zF (jq W ((qJW H).up (by decide)) (H.mgv (by kernel_rfl)) (by kernel_rfl) qR) (jq W ((g8 H).up (by decide)) (H.mgv (by kernel_rfl)) (by kernel_rfl) (qA (dl hF) (qA (qx (um qE (dl hF)) qE) (qA qE qR))))) (qA (dl hF) qR)))))
 (qG (qN (qU hF) (ul W (by kernel_rfl) (dl hF)))
 (qG (zR (qU hF) (dl hF))
 (qG (ky (qBD hF (by kernel_rfl)) (dl hF) (qG (q0 (zV (dl hF) (qL (qA (dl hF) (qA (dl hF) (qA (qx (dl hF) (dl hF)) qR))))))
 jr))
 (qG (qAI (qU hF) (jq W ((qAW H).up (by decide)) (H.mgv (by kernel_rfl)) (by kernel_rfl) (qA (dl hF) (qA (dl hF) (qA (dl hF) qR)))))
 jr))))))))
 (qG (zR (qU hF) qF)
 (qG (qN (qU hF) (ul W (by kernel_rfl) (dl hF)))
 (qG (jL (qBD hF (by kernel_rfl)) (zF (qB7 W (qEL H) (by kernel_rfl)) (jq W ((g8 H).up (by decide)) (H.mgv (by kernel_rfl)) (by kernel_rfl) (qA (dl hF) (qA qE (qA qE qR))))))
 (qG (zG (qS (z7 (dl hF) qF)) (qG (qB9 W (qPX H).choose_spec (H.mgv (by kernel_rfl)) (by kernel_rfl) (qU hF))
 (qG (qN (qU hF) (qL (qA qF (qA kL qR))))
 (qG (qPW W (qIZ H).choose_spec ((qRE H).up (by decide)) (H.mgv (by kernel_rfl)) (by kernel_rfl) (qA (qx (dl hF) (dl hF)) (qA (dl hF) qR)) (H.mgv (by kernel_rfl)) (by kernel_rfl) (qU hF) (qG (qN (qU hF) (qL (qA (qEH W (dl hF)) (qA (qm W (dl hF)) qR))))
 jr))
 (qG (zG (jv (jM (qS (qMT (dl hF) (qL (qA (dl hF) (qA (dl hF) qR))))) (jZ (qS (qMT (gp W (dl hF)) (dl hF)))))) (qG (qW jp)
 jr) jr)
 (qG (qN (qU hF) qF)
 jr))))) jr)
 (qG (zR (qU hF) (dl hF))
 (qG (ky (qBD hF (by kernel_rfl)) (dl hF) (qG (q0 (zV (dl hF) (qL (qA (dl hF) (qA (dl hF) (qA (qx (dl hF) (dl hF)) qR))))))
 jr))
 (qG (qAI (qU hF) (jq W ((qAW H).up (by decide)) (H.mgv (by kernel_rfl)) (by kernel_rfl) (qA (dl hF) (qA (dl hF) (qA (dl hF) qR)))))
 (qG (q0 (zV (dl hF) (qL (qA (qB7 W (qAO H) (by kernel_rfl)) (qA qF (qA (ul W (by kernel_rfl) (dl hF)) qR))))))
 (qG (qB9 W (qPX H).choose_spec (H.mgv (by kernel_rfl)) (by kernel_rfl) (qU hF))
 (qG (qW (qMR (qMS (jq W ((qRE H).up (by decide)) (H.mgv (by kernel_rfl)) (by kernel_rfl) (qA (dl hF) (qA (dl hF) qR))) (dl hF)) (qMS (gp W (dl hF)) (dl hF))))
 jr)))))))))))))))
end
end Mine
end
noncomputable section
open PySem PySem.W PySem.Calls PyProof.Rows
set_option maxRecDepth 100000
set_option genInjectivity false
namespace Mine
noncomputable def qUS (ns : List Int) : St := ⟨[some (.fl (ns.map .int))] ++ List.replicate 17 none, [], {}⟩
noncomputable def LawTrue : Prop := ∀ ns : List Int, ns.length ≤ 63 → ∃ st', qEV (qUS ns) = some (.ret (.bool true), st')
section
variable {w : World} {mg mb : Str → Option Value}
theorem qJC {f : FM} {ga : GA} {la : List Addr} {vs : List Value} {ns : List Int} (h : IntsAre vs ns) : VRs f ga la (ns.map .int) vs := by
 induction h with
 | nil => simp only [List.map_nil, VRs]
 | cons n t _ ih => simp only [List.map_cons, VRs]; exact ⟨_, _, rfl, ⟨t, rfl⟩, ih⟩
theorem law_join (hpure : LawTrue) {s₁ : Shared} (H : Hand (CX w mg mb s₁.heap s₁.os)) {L a sA : Addr} {cd : Value} {h₁ : Heap} {m : Str → Option Value} {tk : Nat} {vs : List Value} {ns : List Int} {body : List Stmt} {sc : Scope} {q : Str} {Q : Flow → Shared → Prop} {E : Value → Shared → Prop}
  (e : lawOf w = some (body, sc, q)) (F : Fr s₁.heap L h₁ m) (hL : s₁.heap.IsList sA vs.toArray) (hI : IntsAre vs ns) (hn : ns.length ≤ 63) (hm : m "script" = some (.ref sA)) (hg : s₁.gens = #[]) (htk : 0 < tk) (hQ : ∀ s', (∀ b o, s₁.heap.get? b = some o → s'.heap.get? b = some o) → s'.os = s₁.os → s'.gens = #[] → Q (.ret (.bool true)) s') :
  wpAny (model PySem.Challenge.rw_qd0034_01.row.prog w) (callerA.deeper (envOf q sc L a cd)) (execs body (envOf q sc L a cd)) Q E { s₁ with heap := h₁, toks := tk } := by
 obtain ⟨hF, hD⟩ := qTI H e
 obtain ⟨st', hrun⟩ := hpure ns hn
 have hk : sc.kind = .function := by
  simp only [Fi.ok, Bool.and_eq_true, beq_iff_eq] at hF
  exact hF.1.1.1.1.1
 have hsz : ∀ b o, s₁.heap.get? b = some o → b ≠ L := fun b o q => Nat.ne_of_lt (Nat.lt_of_lt_of_le (Heap.lt_size q) F.above)
 have fL : s₁.heap.get? L = none := by
  cases q : s₁.heap.get? L with
  | none => rfl
  | some o => exact absurd rfl (hsz L o q)
 have rm : Room 343 (callerA.deeper (envOf q sc L a cd)) L [] := ⟨⟨[envOf q sc L a cd], rfl, ⟨by show sc.kind ≠ _; rw [hk]; decide, rfl, trivial⟩⟩, (by show 302 + 2 * 343 + 11 < 1000; decide), (by show 301 + 0 < 302; decide), (by show 7 + 20 * 343 + 200 < cLine; decide +kernel), fun _ => rfl⟩
 have lr : ns.length = vs.length := (by have := (qJC (f := fun _ => none) (ga := ⟨0, 0, 0, 0, 0, 0⟩) (la := []) hI).length; simpa using this.symm)
 have M : Mid (CX w mg mb s₁.heap s₁.os) [("script" : Str), ("s" : Str), ("text" : Str), ("tokens" : Str), ("rows" : Str), ("k" : Str), ("kind" : Str), ("spelt" : Str), ("parts" : Str), ("faults" : Str), ("at" : Str), ("sort" : Str), ("value" : Str), ("place" : Str), ("word" : Str), ("diags" : Str), ("caught" : Str), ("fault" : Str)] L [] (fun b => s₁.heap.get? b) ⟨0, 0, 0, 0, 0, 51⟩ [] (qUS ns) { s₁ with heap := h₁, toks := tk } := by
  refine ⟨fun _ _ e => e, F.keep, htk, hg, rfl, rfl, ⟨m, F.ns, fun i x v e1 e2 => ?_⟩, fL, fun b hb => (by cases hb), .nil, rfl, fun i a l e1 e2 => (by cases e1), fun h => (by cases h), fun h => (by cases h), rfl, fun b hb => (by cases hb)⟩
  cases i with
  | zero =>
   cases e1
   cases e2
   refine ⟨_, hm, ?_⟩
   simp only [VR]
   obtain ⟨o, h1, h2, n, h3⟩ := hL
   refine ⟨?_, sA, vs, rfl, ⟨o, n, h1, h2, h3⟩, qJC hI⟩
   rw [List.length_map]
   exact Nat.le_trans hn (by decide)
  | succ i =>
   have : ((List.replicate 17 none : List (Option PV)))[i]? = some (some v) := e2
   rw [List.getElem?_replicate] at this
   split at this <;> cases this
 refine (hD _ _ _ hrun).2 rm M fun f' ga' la' s' u x hv => ?_
 have hv : u = .bool true := hv
 subst hv
 exact hQ s' (fun b o q => x.mid.fz b o (x.mid.base b o q)) x.mid.os x.mid.gens
end
end Mine
end
noncomputable section
open PySem PySem.W PySem.Calls PyProof.Rows
set_option genInjectivity false
namespace Mine
noncomputable def E : Nat := 1114112
noncomputable def qIO (c : Nat) : Bool := decide (48 ≤ c) && decide (c ≤ 57)
noncomputable def zJ (c : Nat) : Bool := (decide (97 ≤ c) && decide (c ≤ 122)) || ((decide (65 ≤ c) && decide (c ≤ 90)) || ((c == 95) || (decide (127 < c) && (decide (c ≤ 65535) && Txt.isalpha ⟨#[c]⟩))))
noncomputable def zT (c : Nat) : Bool := zJ c || qIO c
noncomputable def zB (c : Nat) : Nat := if 48 ≤ c ∧ c ≤ 57 then c - 48 else if 97 ≤ c ∧ c ≤ 102 then c - 87 else if 65 ≤ c ∧ c ≤ 70 then c - 55 else 99
noncomputable def qh (c : Nat) : Bool := decide ([c] ∈ jR)
noncomputable def z5 (c : Nat) : Bool := decide ([c] ∈ vI)
noncomputable def sg (c : Nat) : List Nat := if c = E then [] else [c]
noncomputable abbrev Tok := Int × PV × Nat
noncomputable abbrev Row := Int × Nat × List PV
structure Res where
 toks : List Tok := []
 rows : List Row := []
 k : Nat
noncomputable def qo : Nat → Nat → Nat → List Nat → Option (List Row × Nat × List Nat)
 | _, _, _, [] => none
 | 0, k, b, c :: r => if z5 c then qo 0 (k + 1) 0 r else if c = 47 then (match r with
   | [] => none
   | d :: _ => if d = 47 then qo 1 (k + 1) 0 r else if d = 42 then qo 2 (k + 1) k r else some ([], k, c :: r)) else some ([], k, c :: r)
 | 1, k, b, c :: r => if c = E then some ([], k, c :: r) else if qh c then qo 0 (k + 1) 0 r else qo 1 (k + 1) 0 r
 | 2, k, b, c :: r => qo 3 (k + 1) b r
 | 3, k, b, c :: r => if c = E then some ([(1035, b, [])], k, c :: r) else if c = 42 then (match r with
   | [] => none
   | d :: _ => if d = 47 then qo 4 (k + 1) b r else qo 3 (k + 1) b r) else qo 3 (k + 1) b r
 | _, k, b, c :: r => qo 0 (k + 1) 0 r
noncomputable def zo : List Nat → Option Nat
 | [] => none
 | c :: r => if zT c then (match zo r with
  | some n => some (n + 1)
  | none => none) else some 0
noncomputable def kP (base : Nat) : Nat → Bool → Nat → List Nat → Option (Nat × Bool × Nat)
 | _, _, _, [] => none
 | num, good, k, c :: r => if c = 95 then kP base num false (k + 1) r else if zB c < base then kP base (num * base + zB c) true (k + 1) r else some (num, good, k)
noncomputable def jc : Bool → Bool → Nat → List Nat → Option (Bool × Bool × Nat)
 | _, _, _, [] => none
 | u, l, k, c :: r => if (c = 117 ∨ c = 85) ∧ u = false then jc true l (k + 1) r else if (c = 108 ∨ c = 76) ∧ l = false then jc u true (k + 1) r else some (u, l, k)
noncomputable def qGL : Nat → Nat → Nat → List Nat → Option (Nat × Nat)
 | 0, num, n, _ => some (num, n)
 | _, _, _, [] => none
 | m + 1, num, n, c :: r => if zB c < 16 then qGL m (num * 16 + zB c) (n + 1) r else some (num, n)
noncomputable def zC (c : Nat) : List Nat := if c > 65535 then [55296 + (c - 65536) / 1024, 56320 + (c - 65536) % 1024] else [c]
noncomputable def vy (least most j : Nat) (x : List Nat) : Option (List Nat × Bool × Nat) := match qGL most 0 0 x with
 | none => none
 | some (num, n) => some (if n < least ∨ num > 1114111 then ([], true, j + n) else (zC num, false, j + n))
noncomputable def j0 (x : List Nat) : Option (List Nat × Bool × Nat) := match x with
 | _ :: c :: r => (match yp t_LEX_ESCAPES (sg c) with
  | some v => some (v, false, 2)
  | none => if c = 117 then vy 4 4 2 r else if c = 120 then vy 1 4 2 r else if c = 85 then vy 8 8 2 r else if c = E ∨ qh c = true then some ([], true, 1) else some ([], true, 2))
 | _ => none
noncomputable def zg (b : Bool) (k : Nat) : List Row := if b then [(1009, k, [])] else []
noncomputable def zK : Nat → Nat → List Nat → List Nat → List Row → Option (List Nat × List Row × Nat)
 | 0, _, _, _, _ => none
 | n + 1, k, x, acc, rows => match x with
  | [] => none
  | c :: r => if c = 34 then some (acc, rows, k + 1) else if c = E ∨ qh c = true then some (acc, rows ++ [(1010, 0, [])], k)
   else if c = 92 then (match j0 x with
    | none => none
    | some (v, b, j) => zK n (k + j) (x.drop j) (acc ++ v) (rows ++ zg b k))
   else zK n (k + 1) r (acc ++ zC c) rows
noncomputable def jB : Nat → List Nat → List Nat → Option (List Nat × List Row × Nat)
 | _, [], _ => none
 | k, c :: r, acc => if c = E then some (acc, [(1039, 0, [])], k) else if c = 34 then (match r with
   | [] => none
   | d :: r2 => if d = 34 then jB (k + 2) r2 (acc ++ [34]) else some (acc, [], k + 1)) else jB (k + 1) r (acc ++ zC c)
noncomputable def jS : Nat → Nat → Nat → List Nat → Option (Nat × Nat)
 | 0, _, _, _ => none
 | n + 1, cnt, k, x => match x with
  | [] => none
  | c :: r => if c = 39 ∨ c = E ∨ qh c = true then some (cnt, k) else if c = 92 then (match r with
    | [] => none
    | d :: r2 => if d = E ∨ qh d = true then jS n (cnt + 1) (k + 1) r else jS n (cnt + 1) (k + 2) r2) else jS n (cnt + 1) (k + 1) r
noncomputable def yr (x : List Nat) : Option (List Nat × Nat × List Row × Nat) := match x with
 | [] => none
 | c :: r => if c = 39 then some ([39], 0, [(1011, 0, [])], 1) else if c = 92 then (match j0 (c :: r) with
   | none => none
   | some (v, b, j) => some (v, 1, zg b 1, 1 + j)) else if c = E ∨ qh c = true then some (sg c, 1, [], 1) else some (zC c, 1, [], 2)
noncomputable def yH (fuel : Nat) (x : List Nat) (count k : Nat) : Option (Nat × Nat) := match x with
 | [] => none
 | h :: r => if count = 1 ∧ h ≠ 39 then (match jS fuel 0 0 (h :: r) with
  | none => none
  | some (n, j) => some (count + n, k + j)) else some (count, k)
noncomputable def d7 (count : Nat) (letter : List Nat) : Int := if count = 1 then (match letter with
  | u :: _ => (u : Int)
  | [] => 0) else 0
noncomputable def yX (letter : List Nat) (count : Nat) (rows : List Row) (k h : Nat) : Res :=
 if h = 39 then (if count > 1 ∨ letter.length > 1 then { toks := [(5, .int 0, 0)], rows := rows ++ [(1012, 0, [])], k := k + 1 } else { toks := [(5, .int (d7 count letter), 0)], rows := rows, k := k + 1 })
 else { toks := [(5, .int 0, 0)], rows := rows ++ [(1010, 0, [])], k := k }
noncomputable def d8 (fuel : Nat) (x : List Nat) : Option Res := match yr (x.drop 1) with
 | none => none
 | some (letter, count, rows, k) => (match yH fuel (x.drop k) count k with
  | none => none
  | some (count, k) => (match x.drop k with
   | [] => none
   | h :: _ => some (yX letter count rows k h)))
noncomputable def d0 (u l : Bool) : List Nat := (if u then [117] else []) ++ if l then [108] else []
noncomputable def ye (x : List Nat) : Option Bool := match x with
 | [] => none
 | c :: r => if c = 46 then (match r with
   | [] => none
   | d :: _ => some (decide (zB d < 10)))
  else if c = 101 ∨ c = 69 then (match r with
   | [] => none
   | d :: r2 => if d = 43 ∨ d = 45 then (match r2 with
     | [] => none
     | e :: _ => some (decide (zB e < 10))) else some (decide (zB d < 10)))
  else some (decide ([c] ∈ zO))
inductive One where
 | ok (r : Res)
 | left (code : List Nat)
noncomputable def vt (x : List Nat) : Option Nat := match x with
 | [] => none
 | c :: r => if c = 48 then (match r with
   | [] => none
   | d :: _ => if d = 120 ∨ d = 88 then some 16 else if d = 98 ∨ d = 66 then some 2 else some 10) else some 10
noncomputable def gr (num : Nat) (good : Bool) (w : List Nat) (k : Nat) : Res :=
 if good = false then { toks := [(3, .tup [.int 0, .str w], 0)], rows := [(1013, 0, [])], k := k }
 else if num > 18446744073709551615 then { toks := [(3, .tup [.int 0, .str w], 0)], rows := [(1021, 0, [])], k := k }
 else { toks := [(3, .tup [.int num, .str w], 0)], k := k }
noncomputable def va (num : Nat) (good : Bool) (k : Nat) (x : List Nat) : Option Res := match jc false false k x with
 | none => none
 | some (u, l, k) => some (gr num good (d0 u l) k)
noncomputable def yB (num : Nat) (good : Bool) (k : Nat) (x : List Nat) : Option Res := match x with
 | [] => none
 | h :: r => if zB h < 10 then (match kP 10 0 false 0 (h :: r) with
   | none => none
   | some (_, _, j) => va num false (k + j) ((h :: r).drop j)) else va num good k (h :: r)
noncomputable def gu (x : List Nat) : Option One := match vt x with
 | none => none
 | some base => (match kP base 0 false (if base = 10 then 0 else 2) (x.drop (if base = 10 then 0 else 2)) with
  | none => none
  | some (num, good, k) => (match (if base = 10 then ye (x.drop k) else some false) with
   | none => none
   | some true => some (.left [114, 101, 97, 108])
   | some false => (match yB num good k (x.drop k) with
    | none => none
    | some r => some (.ok r))))
noncomputable def zu (w : List Nat) : Option Res := some { toks := [(6, .str w, 0)], k := w.length }
noncomputable def jm (x : List Nat) : Option Res := match x with
 | a :: c :: r => if a = 60 ∧ c = 60 then (match r with
   | [] => none
   | d :: _ => if d = 61 then zu [60, 60, 61] else zu [60, 60])
  else if a = 62 ∧ c = 61 then (match r with
   | [] => none
   | d :: _ => if d = 61 then zu [62] else zu [62, 61])
  else if [a, c] ∈ zt then zu [a, c] else if [a] ∈ zt then zu [a] else some { rows := [(1056, 0, [.str [a]])], k := 1 }
 | _ => none
noncomputable def qAV (o : Option Res) : Option One := match o with
 | some r => some (.ok r)
 | none => none
noncomputable def ya (w : Nat) (o : Option (List Nat × List Row × Nat)) : Option One := match o with
 | some (v, rows, k) => some (.ok { toks := [(4, .str v, 0)], rows := rows, k := k })
 | none => none
noncomputable def vb (x : List Nat) : Option One := match zo x with
 | none => none
 | some n => some (.ok { toks := [(if x.take n ∈ y7 then 2 else 1, .str (x.take n), 0)], k := n })
noncomputable def kb (x : List Nat) : Option One := match x with
 | _ :: d :: r => if d = 34 then ya 0 (jB 2 r []) else if zJ d then (match zo (d :: r) with
   | none => none
   | some n => some (.ok { toks := [(1, .str ((d :: r).take n), 0)], k := n + 1 })) else some (.ok { rows := [(1646, 0, [])], k := 1 })
 | _ => none
noncomputable def zS (fuel : Nat) (x : List Nat) : Option One := match x with
 | [] => none
 | c :: r => if zJ c then vb (c :: r)
  else if qIO c then gu (c :: r)
  else if c = 34 then ya 0 (zK fuel 1 r [] [])
  else if c = 39 then qAV (d8 fuel (c :: r))
  else if c = 64 then kb (c :: r)
  else if c = 46 then (match r with
   | [] => none
   | d :: _ => if zB d < 10 then some (.left [114, 101, 97, 108]) else qAV (jm (c :: r)))
  else if c = 35 then some (.left [100, 105, 114, 101, 99, 116, 105, 118, 101])
  else if c = 36 then some (.left [105, 110, 116, 101, 114, 112, 111, 108, 97, 116, 101, 100])
  else qAV (jm (c :: r))
noncomputable def shT (p : Nat) (t : Tok) : Tok := (t.1, t.2.1, p + t.2.2)
noncomputable def shR (p : Nat) (r : Row) : Row := (r.1, p + r.2.1, r.2.2)
noncomputable def ji : Nat → Nat → List Nat → List Tok → List Row → Option (Option (List Nat × Nat) × List Tok × List Row × Nat)
 | 0, _, _, _, _ => none
 | n + 1, p, x, toks, rows => match qo 0 p 0 x with
  | none => none
  | some (_, _, []) => none
  | some (br, k, c :: r) => if c = E then some (none, toks, rows ++ br, k) else match zS 200 (c :: r) with
    | none => none
    | some (.left code) => some (some (code, k), toks, rows ++ br, k)
    | some (.ok q) => ji n (k + q.k) ((c :: r).drop q.k) (toks ++ q.toks.map (shT k)) (rows ++ br ++ q.rows.map (shR k))
section
variable (c k n : Nat) (r acc : List Nat) (rows : List Row)
theorem qFK : zo (c :: r) = if zT c then (match zo r with
  | some n => some (n + 1)
  | none => none) else some 0 := rfl
theorem qCB (base num : Nat) (good : Bool) : kP base num good k (c :: r) = if c = 95 then kP base num false (k + 1) r else if zB c < base then kP base (num * base + zB c) true (k + 1) r else some (num, good, k) := rfl
theorem wZ (u l : Bool) : jc u l k (c :: r) = if (c = 117 ∨ c = 85) ∧ u = false then jc true l (k + 1) r else if (c = 108 ∨ c = 76) ∧ l = false then jc u true (k + 1) r else some (u, l, k) := rfl
theorem qLC (num m : Nat) : qGL (m + 1) num n (c :: r) = if zB c < 16 then qGL m (num * 16 + zB c) (n + 1) r else some (num, n) := rfl
theorem kH : zK (n + 1) k (c :: r) acc rows = if c = 34 then some (acc, rows, k + 1) else if c = E ∨ qh c = true then some (acc, rows ++ [(1010, 0, [])], k)
   else if c = 92 then (match j0 (c :: r) with
    | none => none
    | some (v, b, j) => zK n (k + j) ((c :: r).drop j) (acc ++ v) (rows ++ zg b k))
   else zK n (k + 1) r (acc ++ zC c) rows := rfl
theorem yC : jB k (c :: r) acc = if c = E then some (acc, [(1039, 0, [])], k) else if c = 34 then (match r with
   | [] => none
   | d :: r2 => if d = 34 then jB (k + 2) r2 (acc ++ [34]) else some (acc, [], k + 1)) else jB (k + 1) r (acc ++ zC c) := by cases r <;> rfl
theorem gM (cnt : Nat) : jS (n + 1) cnt k (c :: r) = if c = 39 ∨ c = E ∨ qh c = true then some (cnt, k) else if c = 92 then (match r with
    | [] => none
    | d :: r2 => if d = E ∨ qh d = true then jS n (cnt + 1) (k + 1) r else jS n (cnt + 1) (k + 2) r2) else jS n (cnt + 1) (k + 1) r := rfl
theorem dK (toks : List Tok) : ji (n + 1) k r toks rows = match qo 0 k 0 r with
  | none => none
  | some (_, _, []) => none
  | some (br, k, c :: r) => if c = E then some (none, toks, rows ++ br, k) else match zS 200 (c :: r) with
    | none => none
    | some (.left code) => some (some (code, k), toks, rows ++ br, k)
    | some (.ok q) => ji n (k + q.k) ((c :: r).drop q.k) (toks ++ q.toks.map (shT k)) (rows ++ br ++ q.rows.map (shR k)) := rfl
end
theorem qFL {c n : Nat} {r : List Nat} (hb : zT c = false) (hn : zo (c :: r) = some n) : n = 0 := (Option.some.inj ((if_neg (hb ▸ Bool.false_ne_true)).symm.trans hn)).symm
theorem we {c n : Nat} {r : List Nat} (hb : zT c = true) (hn : zo (c :: r) = some n) : ∃ m, zo r = some m ∧ m + 1 = n := by
 replace hn : (match zo r with | some n => some (n + 1) | none => none) = some n := (if_pos hb).symm.trans hn
 cases hm : zo r with
 | none => rw [hm] at hn; exact qH hn
 | some m => rw [hm] at hn; exact ⟨m, rfl, Option.some.inj hn⟩
noncomputable def jf (t : List Nat) (p : Nat) : List Nat := match t[p]? with
 | some c => [c]
 | none => []
theorem qa {α β : Type} {a : St → Option (α × St)} {k : α → St → Option (β × St)} {st st' : St} {x : α} (h : a st = some (x, st')) : bnd a k st = k x st' := by unfold bnd; rw [h]
section
variable {a b e : EC} {t u : TC} {st st1 st2 : St} {x y v : PV} {p q : Bool}
theorem qJ {a b : SC} (h : a st = some (.nxt, st1)) : qD a b st = b st1 := qa h
theorem qz {a b : SC} {v : PV} (h : a st = some (.ret v, st1)) : qD a b st = some (.ret v, st1) := qa h
theorem qAY {a b : SC} (h : a st = some (.brk, st1)) : qD a b st = some (.brk, st1) := qa h
theorem qNA {a b : SC} {c : List Nat} {i : Int} (h : a st = some (.exc c i, st1)) : qD a b st = some (.exc c i, st1) := qa h
theorem zM {a b : SC} (h : t st = some (true, st1)) : sIf t a b st = a st1 := qa h
theorem qr {a b : SC} (h : t st = some (false, st1)) : sIf t a b st = b st1 := qa h
theorem qJ5 {a b : SC} (h : t st = some (false, st1)) : qD (sIf t a qK) b st = b st1 := qJ (qr h)
theorem zl (h : a st = some (.bool p, st1)) : tE a st = some (p, st1) := qa h
theorem jI {u : PV} (h : a st = some (u, st1)) : zL a st = some (.ret u, st1) := qa h
theorem qFT {b : SC} (h : a st = some (v, st1)) : qD (zL a) b st = some (.ret v, st1) := qz (jI h)
theorem x_c {u : PV} : eC u st = some (u, st) := rfl
theorem zE {u : PV} {i : Nat} (h : e st = some (u, st1)) (h2 : za i u st1 = some st2) : qV i e st = some (.nxt, st2) := (qa h).trans (by rw [h2])
theorem vW {u : PV} (h : a st = some (u, st1)) : qc a st = some (.nxt, st1) := qa h
theorem ze {r : LC} {us : List PV} (h : a st = some (v, st1)) (h2 : r st1 = some (us, st2)) : qB a r st = some (v :: us, st2) := (qa h).trans (qa h2)
theorem jn (h : t st = some (p, st1)) (h2 : u st1 = some (q, st1)) : zb t u st = some (p && q, st1) := (qa h).trans (by
 cases p
 ·rfl
 ·exact h2)
theorem ue (h : t st = some (false, st1)) : zb t u st = some (false, st1) := qa h
theorem qEB (h : t st = some (p, st1)) : ve t st = some (!p, st1) := qa h
theorem op1 {f : PV → Option PV} (h : a st = some (x, st1)) (h2 : f x = some v) : bnd a (fun x st => okP (f x) st) st = some (v, st1) := (qa h).trans (congrArg (fun r => okP r st1) h2)
theorem op2 {f : PV → PV → Option PV} (h : a st = some (x, st1)) (h2 : b st1 = some (y, st2)) (h3 : f x y = some v) : bnd a (fun x => bnd b fun y st => okP (f x y) st) st = some (v, st2) := (qa h).trans (op1 h2 h3)
theorem op3 {f : PV → PV → PV → Option PV} {c : EC} {z : PV} {st3 : St} (h : a st = some (x, st1)) (h2 : b st1 = some (y, st2)) (h3 : c st2 = some (z, st3)) (h4 : f x y z = some v) : bnd a (fun x => bnd b fun y => bnd c fun z st => okP (f x y z) st) st = some (v, st3) := (qa h).trans (op2 h2 h3 h4)
theorem qF9 {f : Fn} {as : LC} {vs : List PV} (h : as st = some (vs, st1)) (h2 : runF f vs st1 = some (.ok .none, st2)) : vU f as st = some (.nxt, st2) := (qa h).trans (by rw [h2])
theorem qGA {f : Fn} {as : LC} {vs : List PV} {c : List Nat} {i : Int} (h : as st = some (vs, st1)) (h2 : runF f vs st1 = some (.exc c i, st2)) : vU f as st = some (.exc c i, st2) := (qa h).trans (by rw [h2])
theorem qU3 {o : Bop} {i : Nat} {n : Int} (h : qC i st = some (.int n, st)) (h2 : e st = some (y, st1)) (h3 : bop o (.int n) y = some v) (h4 : za i v st1 = some st2) : j3 o i e st = some (.nxt, st2) := (qa h).trans ((qa h2).trans (by rw [h3]; dsimp only; rw [h4]))
theorem qPI {o : Bop} {i : Nat} {n : List Nat} (h : qC i st = some (.str n, st)) (h2 : e st = some (y, st1)) (h3 : bop o (.str n) y = some v) (h4 : za i v st1 = some st2) : j3 o i e st = some (.nxt, st2) := (qa h).trans ((qa h2).trans (by rw [h3]; dsimp only; rw [h4]))
theorem qEE {x y : List Nat} (h : x.length + y.length ≤ line) : bop .add (.str x) (.str y) = some (.str (x ++ y)) := if_pos h
theorem qX6 {x y : List PV} (h : x.length + y.length ≤ line) : bop .add (.fl x) (.fl y) = some (.fl (x ++ y)) := if_pos h
theorem dR {i : Nat} {is : List Nat} {l : List PV} {r : Option St} (h : za i v st = some st1) (h2 : yd is l st1 = r) : yd (i :: is) (v :: l) st = r := by
 have e : yd (i :: is) (v :: l) st = (match za i v st with
  | some st1 => yd is l st1
  | none => none) := rfl
 rw [e, h]; exact h2
theorem qHS {is : List Nat} {l : List PV} (h : e st = some (.tup l, st1)) (h2 : yd is l st1 = some st2) : zz is e st = some (.nxt, st2) := (qa h).trans (by dsimp only; rw [h2])
theorem qVF {i : Nat} {n : Nat} {b : SC} {r : Out × St} (h : e st = some (.int n, st1)) (hn : n ≤ line) (h2 : forC (za i) b (jX n) st1 = some r) : j4 i e b st = some r := (qa h).trans ((if_pos ⟨Int.natCast_nonneg n, Int.ofNat_le.mpr hn⟩).trans h2)
theorem qVG {is : List Nat} {l : List PV} {b : SC} {r : Out × St} (h : e st = some (.fl l, st1)) (hn : PV.cleans l = true) (h2 : forC (unp is) b l st1 = some r) : y8 is e b st = some r := (qa h).trans ((if_pos hn).trans h2)
theorem qYB {i : Nat} {l : List PV} {b : SC} {r : Out × St} (h : e st = some (.fl l, st1)) (hn : PV.cleans l = true) (h2 : forC (za i) b l st1 = some r) : dT i e b st = some r := (qa h).trans ((if_pos hn).trans h2)
theorem qM8 {i : Nat} (h : qC i st = some (.dg, st)) (hd : st.g.hd = true) : qg (qC i) .rows st = some (.lst .rows, st) := (qa h).trans (congrArg (fun o => okP o st) (if_pos hd))
theorem qP5 (h : a st = some (x, st1)) (h2 : b st1 = some (y, st2)) (h3 : kh x y st2 = some true) : qEI a b st = some (.bool true, st2) := (qa h).trans ((qa h2).trans (congrArg (fun r : Option Bool => okP (r.map .bool) st2) h3))
theorem qQ9 (h : a st = some (x, st1)) (h2 : b st1 = some (y, st2)) (h3 : kh x y st2 = some true) : qIS a b st = some (.bool false, st2) := (qa h).trans ((qa h2).trans (congrArg (fun r : Option Bool => okP (r.map fun r => .bool !r) st2) h3))
theorem qXP {f : Fn} {as : LC} {vs : List PV} {i : Nat} {c : List Nat} {n : Int} {s : SC} {st3 st4 : St} (h : as st = some (vs, st1)) (h2 : runF f vs st1 = some (.exc c n, st2)) (h3 : za i (.exc c n) st2 = some st3) (h4 : s st3 = some (.nxt, st4)) : qRT f as i s st = some (.nxt, { st4 with v := st4.v.set i none }) := (qa h).trans (by rw [h2]; dsimp only; rw [h3]; dsimp only; rw [h4])
theorem qCK {B : PV → St → Option St} {s : SC} {l : List PV} (h : B x st = some st1) (h2 : s st1 = some (.nxt, st2)) : forC B s (x :: l) st = forC B s l st2 := by
 have e : forC B s (x :: l) st = (match B x st with
  | none => none
  | some st1 => (match s st1 with
   | none => none
   | some (.nxt, st2) => forC B s l st2
   | some (.brk, st2) => some (.nxt, st2)
   | some (o, st2) => some (o, st2))) := rfl
 rw [e, h]; dsimp only; rw [h2]
theorem wK (h : t st = some (p, st1)) (h2 : u st1 = some (q, st1)) : tOr t u st = some (p || q, st1) := (qa h).trans (by
 cases p
 ·exact h2
 ·rfl)
theorem qXI (h : a st = some (.bool p, st1)) (h2 : b st1 = some (.bool q, st1)) : eOr a b st = some (.bool (p || q), st1) := (qa h).trans (by
 cases p
 ·exact h2
 ·rfl)
theorem qPG (h : a st = some (.bool p, st1)) (h2 : b st1 = some (.bool q, st1)) : qN5 a b st = some (.bool (p && q), st1) := (qa h).trans (by
 cases p
 ·rfl
 ·exact h2)
theorem z0 {o : Cop} (h : a st = some (x, st1)) (h2 : b st1 = some (y, st2)) (h3 : vx o x y = some p) : qQ o a b st = some (.bool p, st2) :=
 (qa h).trans ((qa h2).trans (congrArg (fun r : Option Bool => okP (r.map .bool) st2) h3))
theorem qGD {o1 o2 : Cop} {c : EC} {z : PV} (h : a st = some (x, st)) (h2 : b st = some (y, st)) (h3 : c st = some (z, st)) (e1 : vx o1 x y = some p) (e2 : vx o2 y z = some q) : vA o1 o2 a b c st = some (.bool (p && q), st) := by
 refine (qa h).trans ((qa h2).trans ?_)
 rw [e1]
 cases p
 ·rfl
 ·exact (qa h3).trans (congrArg (fun r : Option Bool => okP (r.map .bool) st) e2)
theorem qMA (h : a st = some (x, st1)) (h2 : b st1 = some (y, st2)) (h3 : gE x y = some v) : zm a b st = some (v, st2) := (qa h).trans ((qa h2).trans (congrArg (fun r => okP r st2) h3))
theorem qU4 {o : Bop} (h : a st = some (x, st1)) (h2 : b st1 = some (y, st2)) (h3 : bop o x y = some v) : qY o a b st = some (v, st2) := (qa h).trans ((qa h2).trans (congrArg (fun r => okP r st2) h3))
theorem zQ {f : Fn} {as : LC} {vs : List PV} (h : as st = some (vs, st1)) (h2 : runF f vs st1 = some (.ok v, st2)) : qT f as st = some (v, st2) := (qa h).trans (by rw [h2])
theorem zA {f : Fn} {vs : List PV} {r : RV} {g : G} (hc : PV.cleans vs = true) (h : f vs st.g = some (r, g)) : runF f vs st = some (r, { st with g := g }) := by
 unfold runF; rw [if_pos hc, h]
theorem zj {np nv : Nat} {b : SC} {args : List PV} {g : G} {v : PV} {st : St} (hl : args.length = np) (h : b ⟨args.map some ++ List.replicate (nv - np) none, [], g⟩ = some (.ret v, st)) (hv : v.okRet = true) : zf np nv b args g = some (.ok (v.freeze st.ls), st.g) := by
 unfold zf
 rw [if_pos hl, h]
 exact if_pos hv
theorem yE {np nv : Nat} {b : SC} {args : List PV} {g : G} {st : St} (hl : args.length = np) (h : b ⟨args.map some ++ List.replicate (nv - np) none, [], g⟩ = some (.nxt, st)) : zf np nv b args g = some (.ok .none, st.g) := by
 unfold zf
 rw [if_pos hl, h]
theorem qLP {np nv : Nat} {b : SC} {args : List PV} {g : G} {c : List Nat} {i : Int} {st : St} (hl : args.length = np) (h : b ⟨args.map some ++ List.replicate (nv - np) none, [], g⟩ = some (.exc c i, st)) : zf np nv b args g = some (.exc c i, st.g) := by
 unfold zf
 rw [if_pos hl, h]
end
theorem qD6 {t : TC} {b : SC} {st st1 : St} (h : t st = some (false, st1)) : whileC t b st = some (.nxt, st1) := by rw [kI, h]
theorem uc {t : TC} {b : SC} {st st1 st2 : St} (h : t st = some (true, st1)) (h2 : b st1 = some (.nxt, st2)) : whileC t b st = whileC t b st2 := by
 rw [kI, h]; dsimp only; rw [h2]
theorem qT9 {t : TC} {b : SC} {st st1 st2 : St} (h : t st = some (true, st1)) (h2 : b st1 = some (.brk, st2)) : whileC t b st = some (.nxt, st2) := by
 rw [kI, h]; dsimp only; rw [h2]
theorem qXV {t : TC} {b : SC} {st st1 st2 : St} {u : PV} (h : t st = some (true, st1)) (h2 : b st1 = some (.ret u, st2)) : whileC t b st = some (.ret u, st2) := by
 rw [kI, h]; dsimp only; rw [h2]
theorem qYU {t : TC} {b : SC} {st st1 st2 : St} {u : List Nat} {i : Int} (h : t st = some (true, st1)) (h2 : b st1 = some (.exc u i, st2)) : whileC t b st = some (.exc u i, st2) := by
 rw [kI, h]; dsimp only; rw [h2]
theorem qBL {t : List Nat} {p c : Nat} (h : t[p]? = some c) : gE (.str t) (.int p) = some (.str [c]) := by
 show (if (0 : Int) ≤ p then (t[p]?).map (fun c => PV.str [c]) else if -(t.length : Int) ≤ p then (t[(t.length + p : Int).toNat]?).map fun c => .str [c] else none) = _
 rw [if_pos (Int.natCast_nonneg p), h]; rfl
theorem qCT {t : List Nat} {p : Nat} (h : t[p]? = none) : jf t p = [] := by unfold jf; rw [h]
theorem qCU {t : List Nat} {p c : Nat} (h : t[p]? = some c) : jf t p = [c] := by unfold jf; rw [h]
theorem qW2 {a b : Nat} (h : b ≤ a) : vx .ge (.int a) (.int b) = some true := congrArg some (decide_eq_true (Int.ofNat_le.mpr h))
theorem qW1 {a b : Nat} (h : a < b) : vx .ge (.int a) (.int b) = some false := congrArg some (decide_eq_false fun c => absurd (Int.ofNat_le.mp c) (Nat.not_le_of_lt h))
theorem qMY {t : List Nat} {tk rw' : List PV} {d : Bool} {p : Nat} : qM [.lex] ⟨t, p, tk, rw', true, d⟩ = some (.ok (.str (jf t p)), ⟨t, p, tk, rw', true, d⟩) := by
 refine zj (b := qBW) (v := .str (jf t p)) (st := ⟨[some .lex], [], ⟨t, p, tk, rw', true, d⟩⟩) rfl ?_ rfl
 rcases Nat.lt_or_ge p t.length with h | h
 ·rw [qCU (List.getElem?_eq_getElem h)]
  exact (qJ5 (zl (z0 (Eq.refl _) (Eq.refl _) (qW1 h)))).trans (qFT (qMA (Eq.refl _) (Eq.refl _) (qBL (List.getElem?_eq_getElem h))))
 ·rw [qCT (List.getElem?_eq_none h)]
  exact qz ((zM (zl (z0 (Eq.refl _) (Eq.refl _) (qW2 h)))).trans rfl)
theorem qHA {t : List Nat} {tk rw' : List PV} {d : Bool} {p n : Nat} : qe [.lex, .int n] ⟨t, p, tk, rw', true, d⟩ = some (.ok (.str (jf t (p + n))), ⟨t, p, tk, rw', true, d⟩) := by
 refine zj (b := qBX) (v := .str (jf t (p + n))) (st := ⟨[some .lex, some (.int n)], [], ⟨t, p, tk, rw', true, d⟩⟩) rfl ?_ rfl
 rcases Nat.lt_or_ge (p + n) t.length with h | h
 ·rw [qCU (List.getElem?_eq_getElem h)]
  exact (qJ5 (zl (z0 (Eq.refl _) (Eq.refl _) (qW1 h)))).trans (qFT (qMA (Eq.refl _) (Eq.refl _) (qBL (List.getElem?_eq_getElem h))))
 ·rw [qCT (List.getElem?_eq_none h)]
  exact qz ((zM (zl (z0 (Eq.refl _) (Eq.refl _) (qW2 h)))).trans rfl)
theorem qH1 {g : G} {p : Nat} (hl : g.hl = true) (hp : g.at_ = p) : qM [.lex] g = some (.ok (.str (jf g.text p)), g) := by
 cases g; cases hl; cases hp; exact qMY
theorem qH2 {g : G} {p n : Nat} (hl : g.hl = true) (hp : g.at_ = p) : qe [.lex, .int n] g = some (.ok (.str (jf g.text (p + n))), g) := by
 cases g; cases hl; cases hp; exact qHA
structure At (g : G) (T : List Nat) (p : Nat) : Prop where
 text : g.text = T
 at_ : g.at_ = p
 hl : g.hl = true
 hd : g.hd = true
noncomputable def qk (T : List Nat) : Prop := (∀ c ∈ T, c < E) ∧ 2 * T.length < line
noncomputable def onX (T : List Nat) (p : Nat) : List Nat := T.drop p ++ [E, E, E, E]
theorem dj {T : List Nat} (hT : qk T) {p n c : Nat} (h : (onX T p)[n]? = some c) : jf T (p + n) = sg c := by
 unfold onX at h
 unfold jf sg
 rcases Nat.lt_or_ge n (T.drop p).length with q | q
 ·rw [List.getElem?_append_left q, List.getElem?_drop] at h
  rw [h]
  have := hT.1 c (List.mem_of_getElem? h)
  rw [if_neg (by lia)]
 ·rw [List.getElem?_append_right q] at h
  have hc : c = E := by
   have := List.mem_of_getElem? h
   simpa using this
  have hn : T[p + n]? = none := by
   rw [List.length_drop] at q
   exact List.getElem?_eq_none (by lia)
  rw [hn, if_pos hc]
theorem vK {T : List Nat} {p n : Nat} (h : p + n ≤ T.length) : (onX T p).drop n = onX T (p + n) := by
 unfold onX
 rw [List.drop_append_of_le_length (by rw [List.length_drop]; lia), List.drop_drop]
theorem qJZ {T : List Nat} {p c : Nat} {r : List Nat} (hT : qk T) (h : onX T p = c :: r) (hc : c ≠ E) : p < T.length ∧ T[p]? = some c ∧ r = onX T (p + 1) := by
 rcases Nat.lt_or_ge p T.length with q | q
 ·refine ⟨q, ?_, ?_⟩
  ·unfold onX at h
   rw [List.drop_eq_getElem_cons q] at h
   refine (List.getElem?_eq_getElem q).trans ?_
   exact congrArg some (List.cons.inj h).1
  ·rw [← vK (n := 1) (by lia), h]; rfl
 ·unfold onX at h
  rw [List.drop_eq_nil_of_le q] at h
  exact absurd (List.cons.inj h).1.symm hc
theorem qTC {g : G} {T : List Nat} {p c : Nat} (hT : qk T) (A : At g T p) (h : (onX T p)[0]? = some c) : qM [.lex] g = some (.ok (.str (sg c)), g) := by
 rw [qH1 A.hl A.at_, A.text, ← dj hT h]; rfl
theorem qTQ {g : G} {T : List Nat} {p n c : Nat} (hT : qk T) (A : At g T p) (h : (onX T p)[n]? = some c) : qe [.lex, .int n] g = some (.ok (.str (sg c)), g) := by
 rw [qH2 A.hl A.at_, A.text, ← dj hT h]
theorem qQ1 (a c : Nat) : decide (([a] : List Nat) < [c]) = decide (a < c) := decide_eq_decide.mpr ⟨fun h => (List.cons_lt_cons_iff.mp h).elim id fun h => absurd h.2 (List.not_lt_nil _), fun h => List.cons_lt_cons_iff.mpr (.inl h)⟩
theorem wA (a c : Nat) : leL [a] [c] = decide (a ≤ c) := (congrArg (!·) (qQ1 c a)).trans (decide_not.symm.trans (decide_eq_decide.mpr Nat.not_lt))
theorem qYL (a : Nat) : decide (([a] : List Nat) < []) = false := by rfl
section
variable {g : G} {c lo hi k : Nat}
noncomputable abbrev S1 (c : Nat) (g : G) : St := ⟨[some (.str [c])], [], g⟩
theorem cmp2_le : vA .le .le (eC (.str [lo])) (qC 0) (eC (.str [hi])) (S1 c g) = some (.bool (decide (lo ≤ c) && decide (c ≤ hi)), S1 c g) :=
 qGD (Eq.refl _) (Eq.refl _) (Eq.refl _) (congrArg some (wA lo c)) (congrArg some (wA c hi))
theorem qW6 {t : TC} {e : EC} {st : St} {x y : Bool} (h : t st = some (x, st)) (h2 : e st = some (.bool y, st)) : qD (sIf t (qD (zL (eC (.bool true))) qK) qK) (qD (zL e) qK) st = some (.ret (.bool (x || y)), st) := by
 cases x
 ·exact (qJ5 h).trans (qFT h2)
 ·exact qz ((zM h).trans rfl)
theorem qL9 : ∀ A B C D F H : Bool, (A || (B || (C || (D && (F && H))))) = ((A || (B || (C && true))) || ((D && F) && H)) := by decide
theorem wa : zZ [.str (sg c)] g = some (.ok (.bool (zJ c)), g) := by
 refine zj (b := kd) (v := .bool (zJ c)) (st := ⟨[some (.str (sg c))], [], g⟩) rfl ?_ rfl
 by_cases hc : c = E
 ·subst hc; rfl
 ·rw [show sg c = [c] from if_neg hc, zJ, qL9]
  exact qW6 (wK (zl cmp2_le) (wK (zl cmp2_le) (zl (z0 (Eq.refl _) (Eq.refl _) (Eq.refl _))))) (qPG (qGD (Eq.refl _) (Eq.refl _) (Eq.refl _) (congrArg some (qQ1 127 c)) (congrArg some (wA c 65535))) (Eq.refl _))
theorem qPZ {b : SC} (h : lo ≤ c ∧ c ≤ hi) (hk : k ≤ lo) : qD (sIf (tE (vA .le .le (eC (.str [lo])) (qC 0) (eC (.str [hi])))) (qD (zL (qY .sub (qCC (qC 0)) (eC (.int k)))) qK) qK) b (S1 c g) = some (.ret (.int (c - k : Nat)), S1 c g) :=
 qz ((zM (zl (cmp2_le.trans (congrArg (fun x => some (PV.bool x, S1 c g)) ((Bool.decide_and _ _).symm.trans (decide_eq_true h)))))).trans (qFT (qU4 (Eq.refl _) (Eq.refl _) (congrArg (fun i => some (PV.int i)) (Int.ofNat_sub (Nat.le_trans hk h.1)).symm))))
theorem qPY {b a : SC} (h : ¬ (lo ≤ c ∧ c ≤ hi)) : qD (sIf (tE (vA .le .le (eC (.str [lo])) (qC 0) (eC (.str [hi])))) a qK) b (S1 c g) = b (S1 c g) :=
 qJ5 (zl (cmp2_le.trans (congrArg (fun x => some (PV.bool x, S1 c g)) ((Bool.decide_and _ _).symm.trans (decide_eq_false h)))))
theorem qIP : zI [.str (sg c)] g = some (.ok (.int (zB c)), g) := by
 refine zj (b := qBY) (v := .int (zB c)) (st := ⟨[some (.str (sg c))], [], g⟩) rfl ?_ rfl
 by_cases hc : c = E
 ·subst hc; rfl
 ·rw [show sg c = [c] from if_neg hc]
  by_cases h1 : 48 ≤ c ∧ c ≤ 57
  ·rw [show zB c = c - 48 from if_pos h1]; exact qPZ h1 (by decide)
  ·refine (qPY h1).trans ?_
   by_cases h2 : 97 ≤ c ∧ c ≤ 102
   ·rw [show zB c = c - 87 from (if_neg h1).trans (if_pos h2)]; exact qPZ h2 (by decide)
   ·refine (qPY h2).trans ?_
    by_cases h3 : 65 ≤ c ∧ c ≤ 70
    ·rw [show zB c = c - 55 from (if_neg h1).trans ((if_neg h2).trans (if_pos h3))]; exact qPZ h3 (by decide)
    ·rw [show zB c = 99 from (if_neg h1).trans ((if_neg h2).trans (if_neg h3))]; exact qPY h3
theorem is_line_end_eq : qn [.str (sg c)] g = some (.ok (.bool (decide (sg c ∈ jR))), g) := by
 unfold qn dw zf
 rfl
end
section
variable {T : List Nat} {g : G} {p n c : Nat} {st : St}
theorem kX {i : Nat} {v : PV} (h : st.v[i]? = some (some v)) : qC i st = some (v, st) := by unfold qC; rw [h]
theorem gY {f : Fn} {o : EC} {as : LC} {vs : List PV} {r : PV} {st1 st2 st3 : St} (h : o st = some (.lex, st1)) (h2 : as st1 = some (vs, st2)) (hl : st2.g.hl = true) (h3 : runF f (.lex :: vs) st2 = some (.ok r, st3)) : qO f o as st = some (r, st3) :=
 (qa h).trans ((qa h2).trans ((if_pos hl).trans (by rw [h3])))
theorem qP2 (hT : qk T) (h0 : st.v[0]? = some (some .lex)) (A : At st.g T p) (h : (onX T p)[0]? = some c) : qO qM (qC 0) qI st = some (.str (sg c), st) := gY (kX h0) (Eq.refl _) A.hl (zA rfl (qTC hT A h))
theorem qYA (hT : qk T) (h0 : st.v[0]? = some (some .lex)) (A : At st.g T p) (h : (onX T p)[n]? = some c) : qO qe (qC 0) (qB (eC (.int (n : Int))) qI) st = some (.str (sg c), st) := gY (kX h0) (Eq.refl _) A.hl (zA rfl (qTQ hT A h))
theorem qXM (h0 : st.v[0]? = some (some .lex)) (A : At st.g T p) (k : Nat) (i : Int) (hi : i = (k : Int)) : qq (qC 0) (eC (.int i)) st = some (.nxt, { st with g := { st.g with at_ := ((p + k : Nat) : Int) } }) := by
 subst hi
 exact (qa (kX h0)).trans ((if_pos A.hl).trans ((qa (x := PV.int k) (st' := st) (Eq.refl _)).trans ((if_pos A.hl).trans (congrArg (fun j : Int => some (Out.nxt, { st with g := { st.g with at_ := j + (k : Int) } })) A.at_))))
theorem At.go (A : At g T p) (q : Nat) : At { g with at_ := (q : Int) } T q := ⟨A.text, rfl, A.hl, A.hd⟩
theorem qHB : runF zZ [.str (sg c)] st = some (.ok (.bool (zJ c)), st) := zA rfl wa
theorem qBF {c : Nat} : jF [.str (sg c)] g = some (.ok (.bool (zT c)), g) := by
 refine zj (b := ku) (v := .bool (zT c)) (st := ⟨[some (.str (sg c))], [], g⟩) rfl ?_ rfl
 refine qFT (qXI (zQ (Eq.refl _) qHB) ?_)
 by_cases hc : c = E
 ·subst hc; rfl
 ·rw [show sg c = [c] from if_neg hc]; exact cmp2_le
theorem qV1 : runF jF [.str (sg c)] st = some (.ok (.bool (zT c)), st) := zA rfl qBF
theorem vL {c : Nat} (h : c ≠ E) : sg c = [c] := by unfold sg; exact (if_neg h)
theorem At.same (A : At g T p) : ({ g with at_ := (p : Int) } : G) = g := by
 cases g; cases A.at_; rfl
theorem qTP {c : Nat} (h : zT c = true) : c ≠ E := fun q => by subst q; revert h; decide
theorem qFM (hT : qk T) : ∀ (x : List Nat) (p n : Nat) (g : G) (v1 : Option PV), onX T p = x → p ≤ T.length → zo x = some n → At g T p →
  whileC (tE (qT jF (qB (qO qM (qC 0) qI) qI))) (qD (qq (qC 0) (eC (.int 1))) qK) ⟨[some .lex, v1], [], g⟩ = some (.nxt, ⟨[some .lex, v1], [], { g with at_ := ((p + n : Nat) : Int) }⟩) ∧ p + n ≤ T.length
 | [], p, n, g, v1, hx, hp, hn, A => qH hn
 | c :: r, p, n, g, v1, hx, hp, hn, A => by
  have e2 : tE (qT jF (qB (qO qM (qC 0) qI) qI)) ⟨[some .lex, v1], [], g⟩ = some (zT c, ⟨[some .lex, v1], [], g⟩) :=
   zl (zQ ((qa (qP2 (st := ⟨[some .lex, v1], [], g⟩) hT rfl A (by rw [hx]; rfl))).trans rfl) qV1)
  cases hb : zT c with
  | false =>
   cases qFL hb hn
   exact ⟨(qD6 (e2.trans (by rw [hb]))).trans (congrArg (fun g : G => some (Out.nxt, (⟨[some .lex, v1], [], g⟩ : St))) A.same.symm), hp⟩
  | true =>
   obtain ⟨q1, q2, q3⟩ := qJZ hT hx (qTP hb)
   obtain ⟨m, hm, e⟩ := we hb hn
   cases e
   have ih := qFM hT r (p + 1) m { g with at_ := ((p + 1 : Nat) : Int) } v1 q3.symm q1 hm (A.go (p + 1))
   rw [Nat.add_assoc, Nat.add_comm 1 m] at ih
   exact ⟨(uc (e2.trans (by rw [hb])) (qJ (qXM (st := ⟨[some .lex, v1], [], g⟩) rfl A 1 1 rfl))).trans ih.1, ih.2⟩
end
theorem wR {n p : Nat} (h : p ≤ n) : zD n (p : Int) = p := by
 unfold zD
 refine (if_neg (by lia)).trans ?_
 simp; lia
theorem qR5 {T : List Nat} {p n : Nat} (h : p + n ≤ T.length) : (T.drop p).take n = (onX T p).take n := by
 unfold onX
 rw [List.take_append_of_le_length (by rw [List.length_drop]; lia)]
section
variable {T : List Nat} {g : G} {p c n : Nat}
theorem qUH {st : St} (h : st.v[0]? = some (some .lex)) (A : At st.g T p) : qg (qC 0) .at st = some (.int p, st) :=
 (qa (kX h)).trans (congrArg (fun o => okP o st) ((if_pos A.hl).trans (congrArg (fun i => some (PV.int i)) A.at_)))
theorem qT0 {st : St} (h : st.v[0]? = some (some .lex)) (A : At st.g T p) : qg (qC 0) .text st = some (.str T, st) :=
 (qa (kX h)).trans (congrArg (fun o => okP o st) ((if_pos A.hl).trans (congrArg (fun i => some (PV.str i)) A.text)))
theorem qL7 (A : At g T p) (hn : p + n ≤ T.length) : qBS (.str T) (.int p) (.int (p + n : Nat)) = some (.str ((onX T p).take n)) := by
 show some (PV.str ((T.take (zD T.length (p + n : Nat))).drop (zD T.length p))) = _
 rw [wR hn, wR (Nat.le_trans (Nat.le_add_right p n) hn), List.drop_take, Nat.add_sub_cancel_left, qR5 hn]
theorem qJO (A : At g T p) (hn : p + n ≤ T.length) : qD (zL (yt (qg (qC 0) .text) (qC 1) (qg (qC 0) .at))) qK ⟨[some .lex, some (.int p)], [], { g with at_ := ((p + n : Nat) : Int) }⟩ = some (.ret (.str ((onX T p).take n)), ⟨[some .lex, some (.int p)], [], { g with at_ := ((p + n : Nat) : Int) }⟩) :=
 qFT ((qa (qT0 rfl (A.go (p + n)))).trans ((qa (kX rfl)).trans ((qa (qUH rfl (A.go (p + n)))).trans (congrArg (fun o => okP o _) (qL7 A hn)))))
theorem qQ7 {b : Bool} (hT : qk T) (A : At g T p) (hc : (onX T p)[0]? = some c) (hb : zJ c = b) : tE (qT zZ (qB (qO qM (qC 0) qI) qI)) ⟨[some .lex, some (.int p)], [], g⟩ = some (b, ⟨[some .lex, some (.int p)], [], g⟩) :=
 hb ▸ zl (zQ ((qa (qP2 hT rfl A hc)).trans rfl) qHB)
theorem qM2 {st : St} (A : At g T p) (h : qD (sIf (tE (qT zZ (qB (qO qM (qC 0) qI) qI))) (qD (whileC (tE (qT jF (qB (qO qM (qC 0) qI) qI))) (qD (qq (qC 0) (eC (.int 1))) qK)) qK) qK) (qD (zL (yt (qg (qC 0) .text) (qC 1) (qg (qC 0) .at))) qK) ⟨[some .lex, some (.int p)], [], g⟩ = some (.ret (.str ((onX T p).take n)), st)) :
  jP [.lex] g = some (.ok (.str ((onX T p).take n)), st.g) :=
 zj (b := qAH) (v := .str ((onX T p).take n)) (st := st) rfl ((qJ (zE (qUH rfl A) rfl)).trans h) rfl
theorem wH (hT : qk T) (A : At g T p) (hp : p ≤ T.length) (hc : (onX T p)[0]? = some c) :
  (zJ c = false → jP [.lex] g = some (.ok (.str []), g)) ∧
  (∀ n, zJ c = true → zo (onX T p) = some n → jP [.lex] g = some (.ok (.str ((onX T p).take n)), { g with at_ := ((p + n : Nat) : Int) }) ∧ p + n ≤ T.length) := by
 constructor
 ·intro hs
  have := qJO (n := 0) A hp
  rw [Nat.add_zero, A.same] at this
  exact qM2 (n := 0) A ((qJ5 (qQ7 hT A hc hs)).trans this)
 ·intro n hs hn
  obtain ⟨l1, l2⟩ := qFM hT _ p n g (some (.int p)) rfl hp hn A
  exact ⟨qM2 A ((qJ ((zM (qQ7 hT A hc hs)).trans ((qJ l1).trans rfl))).trans (qJO A l2)), l2⟩
end
theorem d5 {o a : EC} {r : LRef} {v : PV} {l : List PV} {st st1 st2 : St} (h : o st = some (.lst r, st1)) (h2 : a st1 = some (v, st2)) (h3 : dI r st2 = some l) (h4 : v.solid = true) (h5 : l.length < line) : qw o a st = some (.none, qHI r (l ++ [v]) st2) := (qa h).trans ((qa h2).trans (by
 dsimp only; rw [h3]; exact if_pos (by rw [h4]; exact decide_eq_true h5)))
section
variable {α : Type} {f : α → PV}
theorem vv : ∀ {l : List α}, (∀ x ∈ l, (f x).clean = true) → PV.cleans (l.map f) = true
 | [], _ => rfl
 | a :: _, h => jo (h a (.head _)) (vv fun x hx => h x (.tail _ hx))
theorem qDT : ∀ {l : List α}, (∀ x ∈ l, (f x).solid = true) → PV.solids (l.map f) = true
 | [], _ => rfl
 | a :: _, h => jo (h a (.head _)) (qDT fun x hx => h x (.tail _ hx))
theorem da : ∀ {l : List α}, (∀ x ∈ l, (f x).data = true) → PV.datas (l.map f) = true
 | [], _ => rfl
 | a :: _, h => jo (h a (.head _)) (da fun x hx => h x (.tail _ hx))
end
theorem qDS : ∀ {l : List PV}, (∀ x ∈ l, x.solid = true) → PV.solids l = true
 | [], _ => rfl
 | a :: _, h => jo (h a (.head _)) (qDS fun x hx => h x (.tail _ hx))
theorem u5 {a b c : PV} (ha : a.solid = true) (hb : b.solid = true) (hc : c.solid = true) : (PV.tup [a, b, c]).solid = true := (jo ha (jo hb (jo hc rfl)) : (a.solid && (b.solid && (c.solid && true))) = true)
theorem qK4 {a b c : PV} (ha : a.clean = true) (hb : b.clean = true) (hc : c.clean = true) : (PV.tup [a, b, c]).clean = true := (jo ha (jo hb (jo hc rfl)) : (a.clean && (b.clean && (c.clean && true))) = true)
theorem qWV {a b c : PV} (ha : a.data = true) (hb : b.data = true) (hc : c.data = true) : (PV.tup [a, b, c]).data = true := (jo ha (jo hb (jo hc rfl)) : (a.data && (b.data && (c.data && true))) = true)
theorem qRO {g : G} {a b c : PV} (hl : g.hl = true) (ha : a.solid = true) (hb : b.solid = true) (hc : c.solid = true) (hn : g.toks.length < line) : zN [.lex, a, b, c] g = some (.ok .none, { g with toks := g.toks ++ [.tup [a, b, c]] }) :=
 yE (b := qEU) (st := ⟨[some .lex, some a, some b, some c], [], { g with toks := g.toks ++ [.tup [a, b, c]] }⟩) rfl
  ((qa ((qa (d5 (r := .toks) (l := g.toks) (st1 := ⟨[some .lex, some a, some b, some c], [], g⟩) (st2 := ⟨[some .lex, some a, some b, some c], [], g⟩) ((qa (kX rfl)).trans (congrArg (fun o => okP o _) (if_pos hl))) (Eq.refl _) (if_pos hl) (u5 ha hb hc) hn)).trans rfl)).trans rfl)
theorem qSX {g : G} {a b c : PV} (hd : g.hd = true) (ha : a.solid = true) (hb : b.solid = true) (hc : c.solid = true) (hn : g.rows.length < line) : dB [.dg, a, b, c] g = some (.ok .none, { g with rows := g.rows ++ [.tup [a, b, c]] }) :=
 yE (b := qAE) (st := ⟨[some .dg, some a, some b, some c], [], { g with rows := g.rows ++ [.tup [a, b, c]] }⟩) rfl
  ((qa ((qa (d5 (r := .rows) (l := g.rows) (st1 := ⟨[some .dg, some a, some b, some c], [], g⟩) (st2 := ⟨[some .dg, some a, some b, some c], [], g⟩) ((qa (kX rfl)).trans (congrArg (fun o => okP o _) (if_pos hd))) (Eq.refl _) (if_pos hd) (u5 ha hb hc) hn)).trans rfl)).trans rfl)
mutual
theorem vM : ∀ {v : PV}, v.solid = true → v.clean = true
 | .none, _ => rfl
 | .bool _, _ => rfl
 | .int _, _ => rfl
 | .str _, _ => rfl
 | .tup l, h => gx (l := l) h
 | .fl l, h => gx (l := l) h
 | .lst _, h => absurd h Bool.false_ne_true
 | .lex, _ => rfl
 | .dg, _ => rfl
 | .exc _ _, h => absurd h Bool.false_ne_true
theorem gx : ∀ {l : List PV}, PV.solids l = true → PV.cleans l = true
 | [], _ => rfl
 | x :: r, h => jo (vM (wL h)) (gx (wM h))
end
theorem qK5 {a b c d : PV} (hd : d.clean = true) (ha : a.solid = true) (hb : b.solid = true) (hc : c.solid = true) : PV.cleans [d, a, b, c] = true := (jo hd (jo (vM ha) (jo (vM hb) (jo (vM hc) rfl))) : (d.clean && (a.clean && (b.clean && (c.clean && true)))) = true)
theorem qQ5 {f : Fn} {o : EC} {as : LC} {vs : List PV} {r : PV} {st st1 st2 st3 : St} (h : o st = some (.dg, st1)) (h2 : as st1 = some (vs, st2)) (hl : st2.g.hd = true) (h3 : runF f (.dg :: vs) st2 = some (.ok r, st3)) : qK7 f o as st = some (r, st3) :=
 (qa h).trans ((qa h2).trans ((if_pos hl).trans (by rw [h3])))
theorem qQC {g : G} {a b c : PV} (hl : g.hl = true) (hd : g.hd = true) (ha : a.solid = true) (hb : b.solid = true) (hc : c.solid = true) (hn : g.rows.length < line) : qp [.lex, a, b, c] g = some (.ok .none, { g with rows := g.rows ++ [.tup [a, b, c]] }) :=
 yE (b := qAF) (st := ⟨[some .lex, some a, some b, some c], [], { g with rows := g.rows ++ [.tup [a, b, c]] }⟩) rfl
  ((qa ((qa (qQ5 (st1 := ⟨[some .lex, some a, some b, some c], [], g⟩) ((qa (kX rfl)).trans (congrArg (fun o => okP o _) (if_pos (by rw [hl, hd]; rfl)))) (Eq.refl _) hd (zA (qK5 rfl ha hb hc) (qSX hd ha hb hc hn)))).trans rfl)).trans rfl)
noncomputable abbrev LG (T : List Nat) (p : Nat) (tk rw : List PV) : G := ⟨T, (p : Int), tk, rw, true, true⟩
noncomputable abbrev LX (v : List (Option PV)) (ls : List (List PV)) (T : List Nat) (p : Nat) (tk rw : List PV) : St := ⟨some .lex :: v, ls, LG T p tk rw⟩
theorem qUC (T : List Nat) (p : Nat) (tk rw : List PV) : At (LG T p tk rw) T p := ⟨rfl, rfl, rfl, rfl⟩
theorem px1 {T : List Nat} (hT : qk T) {p c : Nat} {r : List Nat} (h : onX T p = c :: r) : jf T p = sg c := by
 have := dj hT (p := p) (n := 0) (c := c) (by rw [h]; rfl)
 simpa using this
theorem px2 {T : List Nat} (hT : qk T) {p c d : Nat} {r : List Nat} (h : onX T p = c :: d :: r) : jf T (p + 1) = sg d := dj hT (by rw [h]; rfl)
theorem px3 {T : List Nat} (hT : qk T) {p c d e : Nat} {r : List Nat} (h : onX T p = c :: d :: e :: r) : jf T (p + 2) = sg e := dj hT (by rw [h]; rfl)
theorem onN {T : List Nat} (hT : qk T) {p c : Nat} {r : List Nat} (h : onX T p = c :: r) (hc : c ≠ E) : p < T.length ∧ T[p]? = some c ∧ onX T (p + 1) = r := by
 obtain ⟨a, b, d⟩ := qJZ hT h hc
 exact ⟨a, b, d.symm⟩
theorem onE {T : List Nat} (hT : qk T) {p : Nat} {r : List Nat} (h : onX T p = E :: r) (hp : p ≤ T.length) : p = T.length := by
 rcases Nat.lt_or_ge p T.length with q | q
 ·exfalso
  unfold onX at h
  rw [List.drop_eq_getElem_cons q] at h
  have := (List.cons.inj h).1
  have h2 := hT.1 T[p] (List.getElem_mem q)
  lia
 ·lia
section
variable {T : List Nat} {p c d : Nat} {tk rw : List PV} {v : List (Option PV)} {ls : List (List PV)} {st : St}
theorem jj : qO qM (qC 0) qI (LX v ls T p tk rw) = some (.str (jf T p), LX v ls T p tk rw) := gY rfl (Eq.refl _) rfl (zA rfl qMY)
theorem dr : qO qe (qC 0) (qB (eC (.int 1)) qI) (LX v ls T p tk rw) = some (.str (jf T (p + 1)), LX v ls T p tk rw) := gY rfl (Eq.refl _) rfl (zA rfl (qHA (n := 1)))
theorem qNP : qO qe (qC 0) (qB (eC (.int 2)) qI) (LX v ls T p tk rw) = some (.str (jf T (p + 2)), LX v ls T p tk rw) := gY rfl (Eq.refl _) rfl (zA rfl (qHA (n := 2)))
theorem qHT : qg (qC 0) .at (LX v ls T p tk rw) = some (.int p, LX v ls T p tk rw) := rfl
theorem qEC : qg (qC 0) .text (LX v ls T p tk rw) = some (.str T, LX v ls T p tk rw) := rfl
theorem yD : qq (qC 0) (eC (.int 1)) (LX v ls T p tk rw) = some (.nxt, LX v ls T (p + 1) tk rw) := rfl
theorem qXX : qq (qC 0) (eC (.int 2)) (LX v ls T p tk rw) = some (.nxt, LX v ls T (p + 2) tk rw) := rfl
theorem sg_E : sg E = [] := if_pos rfl
theorem qR0 {c : Nat} : sg c = [] ↔ c = E := ⟨fun e => Decidable.byContradiction fun h => absurd ((vL h).symm.trans e) (List.cons_ne_nil _ _), fun h => if_pos h⟩
theorem qL5 {c d : Nat} (hd : d ≠ E) : sg c = [d] ↔ c = d := by
 by_cases h : c = E
 ·subst h; exact ⟨fun e => absurd (sg_E.symm.trans e).symm (List.cons_ne_nil _ _), fun e => absurd e.symm hd⟩
 ·rw [vL h]; exact ⟨fun e => (List.cons.inj e).1, fun e => congrArg (fun x => [x]) e⟩
theorem beq_dec {a b : List Nat} : (a == b) = decide (a = b) := Bool.eq_iff_iff.mpr (beq_iff_eq.trans (decide_eq_true_iff).symm)
theorem qF7 {a b : List Nat} : (a != b) = !decide (a = b) := congrArg (!·) beq_dec
theorem qKZ (hd : d ≠ E) : vx .eq (.str (sg c)) (.str [d]) = some (decide (c = d)) := congrArg some (beq_dec.trans (decide_eq_decide.mpr (qL5 hd)))
theorem qU6 (hd : d ≠ E) : vx .ne (.str (sg c)) (.str [d]) = some (!decide (c = d)) := congrArg (fun b => some (!b)) (beq_dec.trans (decide_eq_decide.mpr (qL5 hd)))
theorem qWU : vx .eq (.str (sg c)) (.str []) = some (decide (c = E)) := congrArg some (beq_dec.trans (decide_eq_decide.mpr qR0))
theorem qMO : vx .ne (.str (sg c)) (.str []) = some (!decide (c = E)) := congrArg (fun b => some (!b)) (beq_dec.trans (decide_eq_decide.mpr qR0))
theorem qNB (k : List (List Nat)) (h1 : ([] : List Nat) ∉ k) (h2 : [E] ∉ k) : decide (sg c ∈ k) = decide ([c] ∈ k) := by
 by_cases h : c = E
 ·subst h; rw [sg_E, decide_eq_false h1, decide_eq_false h2]
 ·rw [vL h]
theorem qQN : inF vI (.str (sg c)) = some (.bool (z5 c)) := congrArg (fun b => some (PV.bool b)) (qNB vI (by decide) (by decide))
theorem qXZ : inF jR (.str (sg c)) = some (.bool (qh c)) := congrArg (fun b => some (PV.bool b)) (qNB jR (by decide) (by decide))
theorem qTE : inF zO (.str (sg c)) = some (.bool (decide ([c] ∈ zO))) := congrArg (fun b => some (PV.bool b)) (qNB zO (by decide) (by decide))
theorem qJ3 : runF zI [.str (sg c)] st = some (.ok (.int (zB c)), st) := zA rfl qIP
theorem qBE {g : G} : qn [.str (sg c)] g = some (.ok (.bool (qh c)), g) := is_line_end_eq.trans (congrArg (fun b => some (RV.ok (.bool b), g)) (qNB jR (by decide) (by decide)))
theorem qDI : runF qn [.str (sg c)] st = some (.ok (.bool (qh c)), st) := zA rfl qBE
theorem qXL {a b : PV} {n : Int} (ha : a.solid = true) (hb : b.solid = true) (hn : tk.length < line) : runF zN [.lex, a, b, .int n] (LX v ls T p tk rw) = some (.ok .none, LX v ls T p (tk ++ [.tup [a, b, .int n]]) rw) := zA (qK5 rfl ha hb rfl) (qRO rfl ha hb rfl hn)
theorem qTS {n m : Int} {l : List PV} (hl : PV.solids l = true) (hn : rw.length < line) : runF qp [.lex, .int n, .int m, .tup l] (LX v ls T p tk rw) = some (.ok .none, LX v ls T p tk (rw ++ [.tup [.int n, .int m, .tup l]])) := zA (qK5 (c := .tup l) rfl rfl rfl hl) (qQC (c := .tup l) rfl rfl rfl rfl hl hn)
theorem qA7 {a b : PV} {n : Int} {ea eb en : EC} (h1 : ea (LX v ls T p tk rw) = some (a, LX v ls T p tk rw)) (h2 : eb (LX v ls T p tk rw) = some (b, LX v ls T p tk rw)) (h3 : en (LX v ls T p tk rw) = some (.int n, LX v ls T p tk rw)) (ha : a.solid = true) (hb : b.solid = true) (hn : tk.length < line) :
  qc (qO zN (qC 0) (qB ea (qB eb (qB en qI)))) (LX v ls T p tk rw) = some (.nxt, LX v ls T p (tk ++ [.tup [a, b, .int n]]) rw) :=
 vW (gY rfl (ze h1 (ze h2 (ze h3 rfl))) rfl (qXL ha hb hn))
theorem yb {n m : Int} {en em el : EC} {l : List PV} (h1 : en (LX v ls T p tk rw) = some (.int n, LX v ls T p tk rw)) (h2 : em (LX v ls T p tk rw) = some (.int m, LX v ls T p tk rw)) (h3 : el (LX v ls T p tk rw) = some (.tup l, LX v ls T p tk rw)) (hl : PV.solids l = true) (hn : rw.length < line) :
  qc (qO qp (qC 0) (qB en (qB em (qB el qI)))) (LX v ls T p tk rw) = some (.nxt, LX v ls T p tk (rw ++ [.tup [.int n, .int m, .tup l]])) :=
 vW (gY rfl (ze h1 (ze h2 (ze h3 rfl))) rfl (qTS hl hn))
theorem uD : qZ qI st = some (.tup [], st) := rfl
end
end Mine
end
noncomputable section
open PySem PySem.W PySem.Calls PyProof.Rows
open Builtin.Str
set_option genInjectivity false
namespace Mine
noncomputable def gB (x y : PySem.Str) (hi : Nat) : List Nat → Option Nat
 | [] => none
 | i :: r => if i + y.length ≤ hi ∧ subAt x y i = true then some i else gB x y hi r
theorem qJU (x y : PySem.Str) (hi : Nat) (a : Array Nat) (ha : a.size = 1) : ∀ (l : List Nat) (k : Nat), (forIn (m := Id) l (a, k) (StrLaws.occBody x y hi 1)).run.fst = a
 | [], k => rfl
 | i :: r, k => by
  have hi' : ¬ (((a.size < 1 ∧ k ≤ i) ∧ i + y.length ≤ hi) ∧ subAt x y i = true) := fun c => by rw [ha] at c; exact absurd c.1.1.1 (Nat.lt_irrefl _)
  simp only [List.forIn_cons, StrLaws.occBody, if_neg hi']
  exact qJU x y hi a ha r k
theorem qM3 (x y : PySem.Str) (hi : Nat) : ∀ (l : List Nat) (k : Nat), (∀ i ∈ l, k ≤ i) → (forIn (m := Id) l ((#[] : Array Nat), k) (StrLaws.occBody x y hi 1)).run.fst = (match gB x y hi l with | some i => #[i] | none => #[])
 | [], k, _ => rfl
 | i :: r, k, hk => by
  unfold gB
  by_cases h : i + y.length ≤ hi ∧ subAt x y i = true
  ·rw [if_pos h]
   have hi' : (((#[] : Array Nat).size < 1 ∧ k ≤ i) ∧ i + y.length ≤ hi) ∧ subAt x y i = true := ⟨⟨⟨Nat.zero_lt_one, hk i (.head _)⟩, h.1⟩, h.2⟩
   simp only [List.forIn_cons, StrLaws.occBody, if_pos hi']
   exact qJU x y hi _ rfl r _
  ·rw [if_neg h]
   have hi' : ¬ ((((#[] : Array Nat).size < 1 ∧ k ≤ i) ∧ i + y.length ≤ hi) ∧ subAt x y i = true) := fun c => h ⟨c.1.2, c.2⟩
   simp only [List.forIn_cons, StrLaws.occBody, if_neg hi']
   exact qM3 x y hi r k fun j hj => hk j (.tail _ hj)
theorem qOM (x y : PySem.Str) (lo hi : Nat) : occurrences x y lo hi 1 = (gB x y hi (List.range' lo (hi + 1 - lo))).toList := by
 rw [StrLaws.occ_eq, qM3 x y hi _ lo fun i hi => (List.mem_range'_1.mp hi).1]
 cases gB x y hi (List.range' lo (hi + 1 - lo)) <;> rfl
theorem wt {T : List Nat} {a b i : Nat} (h : i + 2 ≤ T.length) : subAt ⟨T.toArray⟩ ⟨[a, b].toArray⟩ i = (T[i]? == some a && T[i + 1]? == some b) := by
 unfold subAt
 have e : (T.toArray.extract i (i + (⟨[a, b].toArray⟩ : PySem.Str).length)) = [T[i]'(by lia), T[i+1]'(by lia)].toArray := by
  show T.toArray.extract i (i + 2) = _
  apply Array.ext'
  rw [Array.toList_extract]
  simp only [List.extract, Nat.add_sub_cancel_left]
  rw [List.drop_eq_getElem_cons (by lia), List.drop_eq_getElem_cons (by lia)]
  rfl
 show (T.toArray.extract i _ == [a, b].toArray) = _
 rw [e, List.getElem?_eq_getElem (by lia), List.getElem?_eq_getElem (by lia)]
 simp
theorem qO7 {T : List Nat} {a i : Nat} (h : i + 1 ≤ T.length) : subAt ⟨T.toArray⟩ ⟨[a].toArray⟩ i = (T[i]? == some a) := by
 unfold subAt
 have e : (T.toArray.extract i (i + (⟨[a].toArray⟩ : PySem.Str).length)) = [T[i]'(by lia)].toArray := by
  show T.toArray.extract i (i + 1) = _
  apply Array.ext'
  rw [Array.toList_extract]
  simp only [List.extract, Nat.add_sub_cancel_left]
  rw [List.drop_eq_getElem_cons (by lia)]
  rfl
 show (T.toArray.extract i _ == [a].toArray) = _
 rw [e, List.getElem?_eq_getElem (by lia)]
 simp
theorem uh (k b c : Nat) (r : List Nat) : qo 0 k b (c :: r) = if z5 c then qo 0 (k + 1) 0 r else if c = 47 then (match r with
   | [] => none
   | d :: _ => if d = 47 then qo 1 (k + 1) 0 r else if d = 42 then qo 2 (k + 1) k r else some ([], k, c :: r)) else some ([], k, c :: r) := rfl
theorem qF3 (k b c : Nat) (r : List Nat) : qo 1 k b (c :: r) = if c = E then some ([], k, c :: r) else if qh c then qo 0 (k + 1) 0 r else qo 1 (k + 1) 0 r := rfl
theorem qF4 (k b c : Nat) (r : List Nat) : qo 2 k b (c :: r) = qo 3 (k + 1) b r := rfl
theorem qF5 (k b c : Nat) (r : List Nat) : qo 3 k b (c :: r) = if c = E then some ([(1035, b, [])], k, c :: r) else if c = 42 then (match r with
   | [] => none
   | d :: _ => if d = 47 then qo 4 (k + 1) b r else qo 3 (k + 1) b r) else qo 3 (k + 1) b r := rfl
theorem qF6 (k b c : Nat) (r : List Nat) : qo 4 k b (c :: r) = qo 0 (k + 1) 0 r := rfl
theorem qLI {c : Nat} (h : qh c = true) : z5 c = true := by
 have : [c] ∈ jR := of_decide_eq_true h
 unfold z5
 simp only [jR, List.mem_cons, List.cons.injEq, and_true, List.not_mem_nil, or_false] at this
 rcases this with rfl | rfl | rfl | rfl | rfl <;> decide
theorem qFG {T : List Nat} (hT : qk T) {tk rw : List PV} : ∀ (x : List Nat) (p b : Nat) (r : List Row × Nat × List Nat), onX T p = x → p ≤ T.length → qo 1 p b x = some r →
  ∃ m, whileC (zb (tE (qQ .ne (qO qM (qC 0) qI) (eC (.str [])))) (ve (tE (qT qn (qB (qO qM (qC 0) qI) qI))))) (qD (qq (qC 0) (eC (.int 1))) qK) (LX [] [] T p tk rw) = some (.nxt, LX [] [] T (p + m) tk rw) ∧
   p + m ≤ T.length ∧ qo 0 (p + m) 0 (onX T (p + m)) = some r
 | [], p, b, r, hx, hp, hb => qH hb
 | c :: y, p, b, r, hx, hp, hb => by
  have e : zb (tE (qQ .ne (qO qM (qC 0) qI) (eC (.str [])))) (ve (tE (qT qn (qB (qO qM (qC 0) qI) qI)))) (LX [] [] T p tk rw) = some (!decide (c = E) && !qh c, LX [] [] T p tk rw) := by
   have hh : qO qM (qC 0) qI (LX [] [] T p tk rw) = some (.str (sg c), LX [] [] T p tk rw) := px1 hT hx ▸ jj
   exact jn (zl (z0 hh x_c qMO)) (qEB (zl (zQ (ze hh rfl) qDI)))
  rw [qF3] at hb
  by_cases hE : c = E
  ·rw [if_pos hE] at hb
   refine ⟨0, qD6 (by rw [e, hE]; rfl), hp, ?_⟩
   subst hE
   rw [Nat.add_zero, hx, uh, ← hb]; rfl
  ·rw [if_neg hE] at hb
   cases hl : qh c with
   | true =>
    replace hb := hl ▸ hb
    refine ⟨0, qD6 (by rw [e, hl, Bool.not_true, Bool.and_false]; rfl), hp, ?_⟩
    rw [Nat.add_zero, hx, uh, if_pos (qLI hl)]; exact hb
   | false =>
    replace hb := hl ▸ hb
    obtain ⟨q1, q2, q3⟩ := onN hT hx hE
    obtain ⟨m, h1, h2, h3⟩ := qFG hT (tk := tk) (rw := rw) y (p + 1) 0 r q3 q1 hb
    refine ⟨m + 1, ?_, by lia, ?_⟩
    ·rw [uc (st1 := LX [] [] T p tk rw) (st2 := LX [] [] T (p + 1) tk rw) (by rw [e, hl, decide_eq_false hE]; rfl) ((qJ yD).trans rfl), h1]
     rw [Nat.add_assoc, Nat.add_comm 1 m]
    ·rw [show p + (m + 1) = p + 1 + m by lia]; exact h3
noncomputable def zx (T y : List Nat) (q : Nat) : Option Nat := gB ⟨T.toArray⟩ ⟨y.toArray⟩ T.length (List.range' q (T.length + 1 - q))
theorem jy {T y : List Nat} {q : Nat} (h : q ≤ T.length) : zx T y q = if q + y.length ≤ T.length ∧ subAt ⟨T.toArray⟩ ⟨y.toArray⟩ q = true then some q else zx T y (q + 1) := by
 unfold zx
 have e : T.length + 1 - q = (T.length + 1 - (q + 1)) + 1 := by lia
 rw [e, List.range'_succ]
 have e2 : (⟨y.toArray⟩ : PySem.Str).length = y.length := by rfl
 show (if q + (⟨y.toArray⟩ : PySem.Str).length ≤ T.length ∧ _ then _ else _) = _
 rw [e2]
theorem qAN {T y : List Nat} : zx T y (T.length + 1) = none := by
 unfold zx
 rw [Nat.sub_self]; rfl
theorem qB1 {T : List Nat} (hT : qk T) : ∀ (x : List Nat) (q b : Nat) (r : List Row × Nat × List Nat), onX T q = x → q ≤ T.length → qo 3 q b x = some r →
  (∃ i, zx T [42, 47] q = some i ∧ q ≤ i ∧ i + 2 ≤ T.length ∧ qo 0 (i + 2) 0 (onX T (i + 2)) = some r) ∨ (zx T [42, 47] q = none ∧ r = ([(1035, b, [])], T.length, onX T T.length))
 | [], q, b, r, hx, hq, hb => qH hb
 | c :: y, q, b, r, hx, hq, hb => by
  rw [qF5] at hb
  by_cases hE : c = E
  ·replace hb := ifp hE hb
   subst hE
   right
   have hlen := onE hT hx hq
   subst hlen
   rw [jy (Nat.le_refl _), if_neg (fun z => by have := z.1; simp at this; lia), qAN, hx]
   exact ⟨rfl, by cases hb; rfl⟩
  ·replace hb := ifn hE hb
   obtain ⟨q1, q2, q3⟩ := onN hT hx hE
   have go : qo 3 (q + 1) b y = some r → (¬ (q + 2 ≤ T.length ∧ subAt ⟨T.toArray⟩ ⟨[42, 47].toArray⟩ q = true)) → (∃ i, zx T [42, 47] q = some i ∧ q ≤ i ∧ i + 2 ≤ T.length ∧ qo 0 (i + 2) 0 (onX T (i + 2)) = some r) ∨ (zx T [42, 47] q = none ∧ r = ([(1035, b, [])], T.length, onX T T.length)) := by
    intro h1 h2
    rw [jy hq, if_neg (by simpa using h2)]
    rcases qB1 hT y (q + 1) b r q3 q1 h1 with ⟨i, a1, a2, a3, a4⟩ | ⟨a1, a2⟩
    ·exact .inl ⟨i, a1, by lia, a3, a4⟩
    ·exact .inr ⟨a1, a2⟩
   by_cases h42 : c = 42
   ·replace hb := ifp h42 hb
    subst h42
    cases y with
    | nil => exact qH hb
    | cons d z =>
     dsimp only at hb
     by_cases h47 : d = 47
     ·rw [if_pos h47] at hb
      subst h47
      obtain ⟨p1, p2, p3⟩ := onN hT q3 (by decide)
      left
      have hs : subAt ⟨T.toArray⟩ ⟨[42, 47].toArray⟩ q = true := by rw [wt (by lia), q2, p2]; rfl
      refine ⟨q, by exact (jy hq).trans (if_pos ⟨p1, hs⟩), Nat.le_refl _, p1, ?_⟩
      rw [qF6] at hb
      rw [p3]; exact hb
     ·replace hb := ifn h47 hb
      refine go hb fun w => ?_
      rw [wt w.1, q2] at w
      have := w.2
      simp at this
      have h2 : T[q + 1]? = some d := by
       unfold onX at q3
       rw [List.drop_eq_getElem_cons (by lia)] at q3
       refine (List.getElem?_eq_getElem (by lia)).trans ?_
       exact congrArg some (List.cons.inj q3).1
      rw [h2] at this
      exact h47 (Option.some.inj this)
   ·rw [if_neg h42] at hb
    refine go hb fun w => ?_
    rw [wt w.1, q2] at w
    have := w.2
    simp at this
    exact h42 this.1
noncomputable def qd (t : Tok) : PV := .tup [.int t.1, t.2.1, .int t.2.2]
noncomputable def qf (t : Row) : PV := .tup [.int t.1, .int t.2.1, .tup t.2.2]
noncomputable def qDE : Option Nat → Int
 | some i => (i : Int)
 | none => -1
theorem qI1 {T y : List Nat} {q : Nat} (h : q ≤ T.length) : Txt.find3 ⟨T.toArray⟩ ⟨y.toArray⟩ (q : Int) = qDE (zx T y q) := by
 unfold Txt.find3
 have e : fromIndex (⟨T.toArray⟩ : PySem.Str).length (q : Int) = q := by
  unfold fromIndex
  rw [if_neg (by lia)]
  rfl
 rw [e, qOM]
 have e2 : (⟨T.toArray⟩ : PySem.Str).length = T.length := by simp [PySem.Str.length]
 rw [e2]
 show _ = qDE (zx T y q)
 unfold zx qDE
 cases gB ⟨T.toArray⟩ ⟨y.toArray⟩ T.length (List.range' q (T.length + 1 - q)) <;> rfl
theorem qPC {v : List (Option PV)} {ls : List (List PV)} {T : List Nat} {p : Nat} {tk rw : List PV} : qC 0 (LX v ls T p tk rw) = some (.lex, LX v ls T p tk rw) := rfl
noncomputable def qBZ : SC := (sIf (tE (eIn vI (qC 1))) (qD (qq (qC 0) (eC (.int 1)))
 qK) (qD (sIf (zb (tE (qQ .eq (qC 1) (eC (.str [47])))) (tE (qQ .eq (qO qe (qC 0) (qB (eC (.int 1)) qI)) (eC (.str [47]))))) (qD (qc (qT vD (qB (qC 0) qI)))
 qK) (qD (sIf (zb (tE (qQ .eq (qC 1) (eC (.str [47])))) (tE (qQ .eq (qO qe (qC 0) (qB (eC (.int 1)) qI)) (eC (.str [42]))))) (qD (qc (qT jx (qB (qC 0) qI)))
 qK) (qD qFV
 qK))
 qK))
 qK))
noncomputable def qF2 : SC := qD (qV 1 (qO qM (qC 0) qI)) (qD qBZ qK)
section
variable {T : List Nat} {p c d : Nat} {tk rw : List PV}
theorem qHM (hT : qk T) {x : List Nat} {r : List Row × Nat × List Nat} (hx : onX T p = 47 :: x) (hb : qo 1 (p + 1) 0 x = some r) :
  ∃ q, p < q ∧ vD [.lex] (LG T p tk rw) = some (.ok .none, LG T q tk rw) ∧ q ≤ T.length ∧ qo 0 q 0 (onX T q) = some r := by
 obtain ⟨q1, q2, q3⟩ := onN hT hx (by decide)
 obtain ⟨m, h1, h2, h3⟩ := qFG hT (tk := tk) (rw := rw) _ (p + 1) 0 r q3 q1 hb
 refine ⟨p + 1 + m, by lia, yE (st := LX [] [] T (p + 1 + m) tk rw) rfl ?_, h2, h3⟩
 show kw (LX [] [] T p tk rw) = _
 unfold kw
 rw [qJ ((uc (st1 := LX [] [] T p tk rw) (st2 := LX [] [] T (p + 1) tk rw) ?_ ?_).trans h1)]
 ·rfl
 ·have hh : qO qM (qC 0) qI (LX [] [] T p tk rw) = some (.str (sg 47), LX [] [] T p tk rw) := px1 hT hx ▸ jj
  exact jn (zl (z0 hh x_c qMO)) (qEB (zl (zQ (ze hh rfl) qDI)))
 ·rw [qJ yD]; rfl
theorem qES (hT : qk T) {r : List Row × Nat × List Nat} (hp : p + 2 ≤ T.length) (hb : qo 3 (p + 2) p (onX T (p + 2)) = some r) (hn : rw.length + r.1.length ≤ line) :
  (∃ i, p < i ∧ jx [.lex] (LG T p tk rw) = some (.ok .none, LG T i tk rw) ∧ i ≤ T.length ∧ qo 0 i 0 (onX T i) = some r) ∨
  (jx [.lex] (LG T p tk rw) = some (.ok .none, LG T T.length tk (rw ++ r.1.map qf)) ∧ r.2 = (T.length, onX T T.length)) := by
 have e1 : ∀ o, zx T [42, 47] (p + 2) = o → qV 1 (qE1 (qg (qC 0) .text) (eC (.str [42, 47])) (qY .add (qg (qC 0) .at) (eC (.int 2)))) (LX [none] [] T p tk rw) = some (.nxt, LX [some (.int (qDE o))] [] T p tk rw) := by
  intro o ho
  exact zE (op3 (f := qQE) qEC x_c (Eq.refl _) (congrArg (fun i => some (PV.int i)) (ho ▸ qI1 (y := [42, 47]) hp))) rfl
 rcases qB1 hT _ (p + 2) p r rfl hp hb with ⟨i, a1, a2, a3, a4⟩ | ⟨a1, a2⟩
 ·refine .inl ⟨i + 2, by lia, yE (st := LX [some (.int i)] [] T (i + 2) tk rw) rfl ?_, a3, a4⟩
  show yW (LX [none] [] T p tk rw) = _
  unfold yW
  rw [qJ (e1 _ a1)]
  have : ¬ ((i : Int) < 0) := by lia
  rw [qJ (st1 := LX [some (.int i)] [] T (i + 2) tk rw)]
  ·rfl
  ·rw [qr (st1 := LX [some (.int i)] [] T p tk rw)]
   ·rfl
   ·exact zl (z0 (Eq.refl _) (Eq.refl _) (congrArg some (decide_eq_false this)))
 ·subst a2
  refine .inr ⟨yE (st := LX [some (.int (-1))] [] T T.length tk (rw ++ [qf (1035, p, [])])) rfl ?_, rfl⟩
  show yW (LX [none] [] T p tk rw) = _
  unfold yW
  rw [qJ (e1 _ a1)]
  rw [qJ (st1 := LX [some (.int (-1))] [] T T.length tk (rw ++ [qf (1035, p, [])]))]
  ·rfl
  ·rw [zM (st1 := LX [some (.int (-1))] [] T p tk rw)]
   ·rw [qJ (yb rfl qHT uD rfl (by simp at hn; lia))]
    rfl
   ·rfl
@[elab_as_elim] theorem blanks_elim {k b : Nat} {x : List Nat} {P : List Row × Nat × List Nat → Prop} {r : List Row × Nat × List Nat} (h : qo 0 k b (c :: x) = some r) (h1 : z5 c = true → qo 0 (k + 1) 0 x = some r → P r) (h2 : ∀ z, z5 c = false → c = 47 → x = 47 :: z → qo 1 (k + 1) 0 x = some r → P r) (h3 : ∀ z, z5 c = false → c = 47 → x = 42 :: z → qo 2 (k + 1) k x = some r → P r)
  (h4 : ∀ d z, z5 c = false → c = 47 → x = d :: z → d ≠ 47 → d ≠ 42 → P ([], k, c :: x)) (h5 : z5 c = false → c ≠ 47 → P ([], k, c :: x)) : P r := by
 rw [uh] at h
 cases hb : z5 c with
 | true => rw [hb] at h; exact h1 hb h
 | false =>
  rw [hb] at h
  replace h := ifn Bool.false_ne_true h
  by_cases c1 : c = 47
  ·replace h := ifp c1 h
   cases x with
   | nil => exact qH h
   | cons d z =>
    by_cases d1 : d = 47
    ·exact h2 z hb c1 (by rw [d1]) (ifp d1 h)
    replace h := ifn d1 h
    by_cases d2 : d = 42
    ·exact h3 z hb c1 (by rw [d2]) (ifp d2 h)
    ·exact Option.some.inj (ifn d2 h) ▸ h4 d z hb c1 rfl d1 d2
  ·exact Option.some.inj (ifn c1 h) ▸ h5 hb c1
noncomputable abbrev BX (c : Nat) (T : List Nat) (p : Nat) (tk rw : List PV) : St := LX [some (.str (sg c))] [] T p tk rw
section
variable {x y : List Nat} {k q : Nat} {F rw' : List PV} {S S' : St} {v1 : Option PV}
theorem qWR (hT : qk T) (hx : onX T p = c :: x) : qV 1 (qO qM (qC 0) qI) (LX [v1] [] T p tk rw) = some (.nxt, BX c T p tk rw) := zE jj (by rw [px1 hT hx]; rfl)
theorem qPN {b : Bool} (h : z5 c = b) : tE (eIn vI (qC 1)) (BX c T p tk rw) = some (b, BX c T p tk rw) := h ▸ zl (op1 (f := inF vI) (Eq.refl _) qQN)
theorem qWS : tE (qQ .eq (qC 1) (eC (.str [47]))) (BX c T p tk rw) = some (decide (c = 47), BX c T p tk rw) := zl (z0 (Eq.refl _) (Eq.refl _) (qKZ (by decide)))
theorem qUI {t : TC} (h : c ≠ 47) : zb (tE (qQ .eq (qC 1) (eC (.str [47])))) t (BX c T p tk rw) = some (false, BX c T p tk rw) := (qa qWS).trans (if_neg (Bool.eq_false_iff.mp (decide_eq_false h)))
theorem qB0 (hT : qk T) {d e : Nat} {z : List Nat} (hx : onX T p = c :: d :: z) (h : c = 47) (he : e ≠ E) : zb (tE (qQ .eq (qC 1) (eC (.str [47])))) (tE (qQ .eq (qO qe (qC 0) (qB (eC (.int 1)) qI)) (eC (.str [e])))) (BX c T p tk rw) = some (decide (d = e), BX c T p tk rw) := by
 have := jn (qWS (c := c) (T := T) (p := p) (tk := tk) (rw := rw)) (zl (z0 dr x_c (px2 hT hx ▸ qKZ he)))
 rwa [decide_eq_true h] at this
theorem qMM {f : Fn} (h : f [.lex] (LG T p tk rw) = some (.ok .none, LG T q tk rw')) : qD (qc (qT f (qB (qC 0) qI))) qK (BX c T p tk rw) = some (.nxt, BX c T q tk rw') := (qJ (vW (zQ (ze qPC rfl) (zA rfl h)))).trans rfl
theorem qSN (hT : qk T) {z : List Nat} (hx : onX T p = c :: 47 :: z) (hb : z5 c = false) (h : c = 47) (hf : vD [.lex] (LG T p tk rw) = some (.ok .none, LG T q tk rw')) : qBZ (BX c T p tk rw) = some (.nxt, BX c T q tk rw') :=
 (qr (qPN hb)).trans ((qJ ((zM (qB0 hT hx h (by decide))).trans (qMM hf))).trans rfl)
theorem qIC (hT : qk T) {z : List Nat} (hx : onX T p = c :: 42 :: z) (hb : z5 c = false) (h : c = 47) (hf : jx [.lex] (LG T p tk rw) = some (.ok .none, LG T q tk rw')) : qBZ (BX c T p tk rw) = some (.nxt, BX c T q tk rw') :=
 (qr (qPN hb)).trans ((qJ ((qr (qB0 hT hx h (by decide))).trans ((qJ ((zM (qB0 hT hx h (by decide))).trans (qMM hf))).trans rfl))).trans rfl)
theorem qPM (hT : qk T) {d : Nat} {z : List Nat} (hx : onX T p = c :: d :: z) (hb : z5 c = false) (h : c = 47) (d1 : d ≠ 47) (d2 : d ≠ 42) : qBZ (BX c T p tk rw) = some (.ret .none, BX c T p tk rw) :=
 (qr (qPN hb)).trans (qz ((qr ((qB0 hT hx h (by decide)).trans (by rw [decide_eq_false d1]))).trans (qz ((qr ((qB0 hT hx h (by decide)).trans (by rw [decide_eq_false d2]))).trans rfl))))
theorem qPL (hb : z5 c = false) (h : c ≠ 47) : qBZ (BX c T p tk rw) = some (.ret .none, BX c T p tk rw) := (qr (qPN hb)).trans (qz ((qr (qUI h)).trans (qz ((qr (qUI h)).trans rfl))))
noncomputable def BOk (T : List Nat) (tk F : List PV) (z : Nat × List Nat) (S : St) : Prop := (∃ v2, whileC (tE (eC (.bool true))) qF2 S = some (.ret .none, LX [v2] [] T z.1 tk F)) ∧ z.1 ≤ T.length ∧ z.2 = onX T z.1
theorem BOk.go (hT : qk T) {z : Nat × List Nat} (hx : onX T p = c :: x) (h : BOk T tk F z (BX c T q tk rw')) (g : qBZ (BX c T p tk rw) = some (.nxt, BX c T q tk rw')) : BOk T tk F z (LX [v1] [] T p tk rw) :=
 ⟨h.1.elim fun v2 e => ⟨v2, (uc (b := qF2) rfl ((qJ (qWR hT hx)).trans ((qJ g).trans rfl))).trans e⟩, h.2⟩
theorem BOk.stop (hT : qk T) (hx : onX T p = c :: x) (hp : p ≤ T.length) (g : qBZ (BX c T p tk rw) = some (.ret .none, BX c T p tk rw)) : BOk T tk (rw ++ [].map qf) (p, c :: x) (LX [v1] [] T p tk rw) :=
 ⟨⟨_, (qXV (b := qF2) rfl ((qJ (qWR hT hx)).trans (qz g))).trans (by rw [List.map_nil, List.append_nil])⟩, hp, hx.symm⟩
end
theorem blank_E : z5 E = false := by decide
theorem yy (hT : qk T) {tk : List PV} : ∀ (n p : Nat) (rw : List PV) (v1 : Option PV) (r : List Row × Nat × List Nat), T.length - p < n → p ≤ T.length → qo 0 p 0 (onX T p) = some r → rw.length + r.1.length ≤ line → BOk T tk (rw ++ r.1.map qf) r.2 (LX [v1] [] T p tk rw)
 | 0, p, rw, v1, r, hm, hp, hb, hn => absurd hm (Nat.not_lt_zero _)
 | n + 1, p, rw, v1, r, hm, hp, hb, hn => by
  cases hx : onX T p with
  | nil => rw [hx] at hb; exact qH hb
  | cons c x =>
   rw [hx] at hb
   have dec : ∀ q, p < q → q ≤ T.length → T.length - q < n := fun q h h2 => by lia
   revert hn
   refine blanks_elim hb (fun h1 h hn => ?_) (fun z h1 h47 hz h hn => ?_) (fun z h1 h47 hz h hn => ?_) (fun d z h1 h47 hz d1 d2 hn => BOk.stop hT hx hp (qPM hT (hz ▸ hx) h1 h47 d1 d2)) fun h1 h47 hn => BOk.stop hT hx hp (qPL h1 h47)
   ·have q := onN hT hx fun e => Bool.noConfusion (blank_E.symm.trans (e ▸ h1))
    exact BOk.go hT hx (yy hT n (p + 1) rw _ r (dec _ (Nat.lt_succ_self p) q.1) q.1 (q.2.2 ▸ h) hn) ((zM (qPN h1)).trans ((qJ yD).trans rfl))
   ·obtain ⟨q, g0, g1, g2, g3⟩ := qHM (tk := tk) (rw := rw) hT (hx.trans (by rw [h47])) h
    exact BOk.go hT hx (yy hT n q rw _ r (dec q g0 g2) g2 g3 hn) (qSN hT (hz ▸ hx) h1 h47 g1)
   ·have q3 := onN hT hx (h47 ▸ by decide)
    have p3 := onN hT (q3.2.2.trans hz) (by decide)
    rw [hz, qF4, ← p3.2.2] at h
    rcases qES (tk := tk) (rw := rw) hT p3.1 h hn with g | g
    ·obtain ⟨i, b1, b2, b3, b4⟩ := g
     exact BOk.go hT hx (yy hT n i rw _ r (dec i b1 b3) b3 b4 hn) (qIC hT (hz ▸ hx) h1 h47 b2)
    ·have e := yy hT (tk := tk) n T.length (rw ++ r.1.map qf) (some (.str (sg c))) ([], T.length, onX T T.length) (dec _ q3.1 (Nat.le_refl _)) (Nat.le_refl _) (by unfold onX; rw [List.drop_length]; rfl) (by simpa using hn)
     rw [List.map_nil, List.append_nil] at e
     exact BOk.go hT hx (g.2 ▸ e) (qIC hT (hz ▸ hx) h1 h47 g.1)
theorem qDQ (hT : qk T) {br : List Row} {k : Nat} {y : List Nat} (hp : p ≤ T.length) (hb : qo 0 p 0 (onX T p) = some (br, k, y)) (hn : rw.length + br.length ≤ line) :
  yK [.lex] (LG T p tk rw) = some (.ok .none, LG T k tk (rw ++ br.map qf)) ∧ k ≤ T.length ∧ y = onX T k := by
 obtain ⟨⟨v2, h1⟩, h2, h3⟩ := yy hT (tk := tk) _ p rw none (br, k, y) (Nat.lt_succ_self _) hp hb hn
 refine ⟨zj (v := .none) (st := LX [v2] [] T k tk (rw ++ br.map qf)) rfl ?_ rfl, h2, h3⟩
 show gn (LX [none] [] T p tk rw) = _
 unfold gn
 exact qz h1
end
end Mine
end
noncomputable section
open PySem PySem.W PySem.Calls PyProof.Rows
set_option genInjectivity false
namespace Mine
noncomputable abbrev aft (T : List Nat) (p : Nat) (tk rw : List PV) (r : Res) : G := LG T (p + r.k) (tk ++ r.toks.map fun t => qd (shT p t)) (rw ++ r.rows.map fun q => qf (shR p q))
noncomputable def uE (tk rw : List PV) (r : Res) : Prop := tk.length + r.toks.length ≤ line ∧ rw.length + r.rows.length ≤ line
section
variable {T : List Nat} {p q c d : Nat} {tk rw tk' rw' : List PV} {v : List (Option PV)} {ls : List (List PV)} {st st1 st2 : St} {u : PV} {f : Fn} {i : Nat} {e : EC}
theorem gf (h : f [.lex] (LG T p tk rw) = some (.ok u, LG T q tk' rw')) : qT f (qB (qC 0) qI) (LX v ls T p tk rw) = some (u, LX v ls T q tk' rw') := zQ (ze qPC rfl) (zA rfl h)
theorem gR {a b : EC} {x y : PV} (h1 : a st = some (x, st)) (h2 : b st = some (y, st)) : qZ (qB a (qB b qI)) st = some (.tup [x, y], st) := (qa (ze h1 (ze h2 rfl))).trans rfl
theorem qU5 {a b : Nat} : vx .lt (.int a) (.int b) = some (decide (a < b)) := congrArg some (decide_eq_decide.mpr Int.ofNat_lt)
theorem qA3 (hT : qk T) {x : List Nat} {n : Nat} (hx : onX T p = c :: x) (hp : p ≤ T.length) (hs : zJ c = true) (hn : zo (c :: x) = some n) : jP [.lex] (LG T p tk rw) = some (.ok (.str ((c :: x).take n)), LG T (p + n) tk rw) ∧ p + n ≤ T.length := by
 have := (wH hT (qUC T p tk rw) hp (c := c) (by rw [hx]; rfl)).2 n hs (by rw [hx]; exact hn)
 rw [hx] at this
 exact this
theorem qKE (hT : qk T) {x : List Nat} (hx : onX T p = c :: x) (hp : p ≤ T.length) (hs : zJ c = false) : jP [.lex] (LG T p tk rw) = some (.ok (.str []), LG T p tk rw) :=
 (wH hT (qUC T p tk rw) hp (c := c) (by rw [hx]; rfl)).1 hs
theorem qJG (hT : qk T) {x : List Nat} {r : Res} (hx : onX T p = c :: x) (hp : p ≤ T.length) (hs : zJ c = true) (h : vb (c :: x) = some (.ok r)) (hf : uE tk rw r) :
  uU [.lex, .int p] (LG T p tk rw) = some (.ok .none, aft T p tk rw r) ∧ p + r.k ≤ T.length := by
 unfold vb at h
 cases hn : zo (c :: x) with
 | none => rw [hn] at h; exact qH h
 | some n =>
  rw [hn] at h
  cases h
  obtain ⟨h1, h2⟩ := qA3 (tk := tk) (rw := rw) hT hx hp hs hn
  have hk : tk.length < line := hf.1
  refine ⟨yE (st := LX [some (.int p), some (.str ((c :: x).take n))] [] T (p + n) (tk ++ [qd (if (c :: x).take n ∈ y7 then 2 else 1, .str ((c :: x).take n), p)]) (rw ++ [])) rfl ?_, h2⟩
  show uH (LX [some (.int p), none] [] T p tk rw) = _
  unfold uH
  refine (qJ (st1 := LX [some (.int p), some (.str ((c :: x).take n))] [] T (p + n) tk rw) (zE (gf h1) rfl)).trans ?_
  have ti : tE (eIn y7 (qC 2)) (LX [some (.int p), some (.str ((c :: x).take n))] [] T (p + n) tk rw) = some (decide ((c :: x).take n ∈ y7), LX [some (.int p), some (.str ((c :: x).take n))] [] T (p + n) tk rw) := rfl
  rw [List.append_nil]
  by_cases hw : (c :: x).take n ∈ y7
  ·rw [decide_eq_true hw] at ti
   rw [qJ ((zM ti).trans ((qJ (qA7 (a := .int 2) (b := .str ((c :: x).take n)) (n := p) rfl rfl rfl rfl rfl hk)).trans rfl)), if_pos hw]
   rfl
  ·rw [decide_eq_false hw] at ti
   rw [qJ ((qr ti).trans ((qJ (qA7 (a := .int 1) (b := .str ((c :: x).take n)) (n := p) rfl rfl rfl rfl rfl hk)).trans rfl)), if_neg hw]
   rfl
noncomputable def qVA : TC := (tOr (tE (qQ .eq (qO qM (qC 0) qI) (eC (.str [95])))) (tE (qQ .lt (qT zI (qB (qO qM (qC 0) qI) qI)) (qC 1))))
noncomputable def qN4 : SC := (qD (qV 3 (qO qM (qC 0) qI))
 (qD (sIf (tE (qQ .ne (qC 3) (eC (.str [95])))) (qD (qV 2 (qY .add (qY .mul (qC 2) (qC 1)) (qT zI (qB (qC 3) qI))))
 qK) qK)
 (qD (qq (qC 0) (eC (.int 1)))
 qK)))
theorem wU (hT : qk T) {base : Nat} (hb : base ≤ 16) : ∀ (x : List Nat) (p num k : Nat) (l : List Nat) (num' : Nat) (good' : Bool) (k' : Nat), onX T p = x → p ≤ T.length → kP base num (!decide (l = [95])) k x = some (num', good', k') →
  ∃ m l', k' = k + m ∧ good' = !decide (l' = [95]) ∧ p + m ≤ T.length ∧ whileC qVA qN4 (LX [some (.int base), some (.int num), some (.str l)] [] T p tk rw) = some (.nxt, LX [some (.int base), some (.int num'), some (.str l')] [] T (p + m) tk rw)
 | [], p, num, k, l, num', good', k', hx, hp, h => by exact qH h
 | c :: x, p, num, k, l, num', good', k', hx, hp, h => by
  replace h := (qCB ..).symm.trans h
  have et : qVA (LX [some (.int base), some (.int num), some (.str l)] [] T p tk rw) = some (decide (c = 95) || decide (zB c < base), LX [some (.int base), some (.int num), some (.str l)] [] T p tk rw) := by
   have hh : qO qM (qC 0) qI (LX [some (.int base), some (.int num), some (.str l)] [] T p tk rw) = some (.str (sg c), LX [some (.int base), some (.int num), some (.str l)] [] T p tk rw) := px1 hT hx ▸ jj
   exact wK (zl (z0 hh x_c (qKZ (by decide)))) (zl (z0 (zQ (ze hh rfl) qJ3) (Eq.refl _) qU5))
  have a1 : qV 3 (qO qM (qC 0) qI) (LX [some (.int base), some (.int num), some (.str l)] [] T p tk rw) = some (.nxt, LX [some (.int base), some (.int num), some (.str (sg c))] [] T p tk rw) := zE jj (by rw [px1 hT hx]; rfl)
  have t2 : tE (qQ .ne (qC 3) (eC (.str [95]))) (LX [some (.int base), some (.int num), some (.str (sg c))] [] T p tk rw) = some (!decide (c = 95), LX [some (.int base), some (.int num), some (.str (sg c))] [] T p tk rw) := zl (z0 (st1 := LX [some (.int base), some (.int num), some (.str (sg c))] [] T p tk rw) rfl x_c (qU6 (show 95 ≠ E by decide)))
  by_cases h95 : c = 95
  ·rw [if_pos h95] at h
   have hE : c ≠ E := fun q => by subst q; revert h95; decide
   obtain ⟨q1, q2, q3⟩ := onN hT hx hE
   have hs : sg c = [95] := by rw [vL hE, h95]
   obtain ⟨m, l', g1, g2, g3, g4⟩ := wU hT hb x (p + 1) num (k + 1) (sg c) num' good' k' q3 q1 (by rw [hs]; exact h)
   refine ⟨m + 1, l', by lia, g2, by lia, ?_⟩
   rw [uc (b := qN4) (st1 := LX [some (.int base), some (.int num), some (.str l)] [] T p tk rw) (st2 := LX [some (.int base), some (.int num), some (.str (sg c))] [] T (p + 1) tk rw) ?_ ?_, g4, Nat.add_assoc, Nat.add_comm 1 m]
   ·rw [et, h95]; rfl
   ·unfold qN4
    refine (qJ a1).trans ?_
    rw [decide_eq_true h95] at t2
    exact (qJ ((qr t2).trans rfl)).trans ((qJ yD).trans rfl)
  ·rw [if_neg h95] at h
   by_cases hd : zB c < base
   ·replace h := ifp hd h
    have hE : c ≠ E := fun q => by
     subst q
     have : zB E = 99 := by decide
     lia
    obtain ⟨q1, q2, q3⟩ := onN hT hx hE
    have hs : (!decide (sg c = [95])) = true := by rw [vL hE]; simp [h95]
    obtain ⟨m, l', g1, g2, g3, g4⟩ := wU hT hb x (p + 1) (num * base + zB c) (k + 1) (sg c) num' good' k' q3 q1 (by rw [hs]; exact h)
    refine ⟨m + 1, l', by lia, g2, by lia, ?_⟩
    rw [uc (b := qN4) (st1 := LX [some (.int base), some (.int num), some (.str l)] [] T p tk rw) (st2 := LX [some (.int base), some (.int ((num * base + zB c : Nat) : Int)), some (.str (sg c))] [] T (p + 1) tk rw) ?_ ?_, g4, Nat.add_assoc, Nat.add_comm 1 m]
    ·rw [et, decide_eq_true hd, Bool.or_true]
    ·unfold qN4
     refine (qJ a1).trans ?_
     rw [decide_eq_false h95] at t2
     rw [qJ (st1 := LX [some (.int base), some (.int ((num * base + zB c : Nat) : Int)), some (.str (sg c))] [] T p tk rw) ((zM t2).trans ((qJ (st1 := LX [some (.int base), some (.int ((num * base + zB c : Nat) : Int)), some (.str (sg c))] [] T p tk rw) ?_).trans rfl)), qJ yD]; rfl
     have hsm : small (base : Int) = true := by simp [small]; lia
     refine zE (u := .int ((num * base + zB c : Nat) : Int)) (st1 := LX [some (.int base), some (.int num), some (.str (sg c))] [] T p tk rw) ?_ rfl
     exact op2 (f := bop .add) (op2 (f := bop .mul) (x := .int num) (y := .int base) rfl rfl (if_pos (by rw [hsm, Bool.or_true]))) (zQ (ze (v := .str (sg c)) rfl rfl) qJ3) rfl
   ·replace h := ifn hd h
    cases h
    refine ⟨0, l, rfl, rfl, hp, qD6 ?_⟩
    rw [et, decide_eq_false h95, decide_eq_false hd]; rfl
theorem dS (hT : qk T) {base : Nat} (hb : base ≤ 16) {num k : Nat} {good : Bool} {k0 : Nat} (hp : p ≤ T.length) (h : kP base 0 false k0 (onX T p) = some (num, good, k)) :
  ∃ m, k = k0 + m ∧ p + m ≤ T.length ∧ jV [.lex, .int base] (LG T p tk rw) = some (.ok (.tup [.int num, .bool good]), LG T (p + m) tk rw) := by
 obtain ⟨m, l, g1, g2, g3, g4⟩ := wU (tk := tk) (rw := rw) hT hb _ p 0 k0 [95] num good k rfl hp h
 refine ⟨m, g1, g3, zj (v := .tup [.int num, .bool good]) (st := LX [some (.int base), some (.int num), some (.str l)] [] T (p + m) tk rw) rfl ?_ rfl⟩
 show gk (LX [some (.int base), none, none] [] T p tk rw) = _
 unfold gk
 refine (qJ (st1 := LX [some (.int base), some (.int 0), none] [] T p tk rw) rfl).trans ((qJ (st1 := LX [some (.int base), some (.int 0), some (.str [95])] [] T p tk rw) rfl).trans ?_)
 have g4 : whileC qVA qN4 (LX [some (.int base), some (.int 0), some (.str [95])] [] T p tk rw) = _ := g4
 refine (qJ g4).trans (qz (jI ?_))
 rw [g2]
 exact gR (Eq.refl _) (z0 (Eq.refl _) (Eq.refl _) (congrArg some qF7))
end
section
variable {T : List Nat} {p q c d : Nat} {tk rw tk' rw' : List PV} {v : List (Option PV)} {ls : List (List PV)} {st st1 st2 : St} {u : PV} {f : Fn} {i : Nat} {e : EC}
theorem vN (hd : d ≠ E) (h : qC i st = some (.str (sg c), st)) : tE (qQ .eq (qC i) (eC (.str [d]))) st = some (decide (c = d), st) := zl (z0 h x_c (qKZ hd))
theorem qYY (hd : d ≠ E) (h : qC i st = some (.str (sg c), st)) : tE (qQ .ne (qC i) (eC (.str [d]))) st = some (!decide (c = d), st) := zl (z0 h x_c (qU6 hd))
noncomputable def qW7 : TC := (zb (tOr (tE (qQ .eq (qC 3) (eC (.str [117])))) (tE (qQ .eq (qC 3) (eC (.str [85]))))) (ve (tE (qC 1))))
noncomputable def qW8 : TC := (zb (tOr (tE (qQ .eq (qC 3) (eC (.str [108])))) (tE (qQ .eq (qC 3) (eC (.str [76]))))) (ve (tE (qC 2))))
noncomputable def qOF : SC := (qD (qV 3 (qO qM (qC 0) qI))
 (qD (sIf qW7 (qD (qV 1 (eC (.bool true)))
 qK) (qD (sIf qW8 (qD (qV 2 (eC (.bool true)))
 qK) (qD qHG
 qK))
 qK))
 (qD (qq (qC 0) (eC (.int 1)))
 qK)))
theorem wy (hT : qk T) : ∀ (x : List Nat) (p k : Nat) (u l : Bool) (w : Option PV) (u' l' : Bool) (k' : Nat), onX T p = x → p ≤ T.length → jc u l k x = some (u', l', k') →
  ∃ m w', k' = k + m ∧ p + m ≤ T.length ∧ whileC (tE (eC (.bool true))) qOF (LX [some (.bool u), some (.bool l), w, none] [] T p tk rw) = some (.nxt, LX [some (.bool u'), some (.bool l'), w', none] [] T (p + m) tk rw)
 | [], p, k, u, l, w, u', l', k', hx, hp, h => by exact qH h
 | c :: x, p, k, u, l, w, u', l', k', hx, hp, h => by
  replace h := (wZ ..).symm.trans h
  have tt : tE (eC (.bool true)) (LX [some (.bool u), some (.bool l), w, none] [] T p tk rw) = some (true, LX [some (.bool u), some (.bool l), w, none] [] T p tk rw) := rfl
  have a1 : qV 3 (qO qM (qC 0) qI) (LX [some (.bool u), some (.bool l), w, none] [] T p tk rw) = some (.nxt, LX [some (.bool u), some (.bool l), some (.str (sg c)), none] [] T p tk rw) := zE jj (by rw [px1 hT hx]; rfl)
  have t1 : qW7 (LX [some (.bool u), some (.bool l), some (.str (sg c)), none] [] T p tk rw) = some ((decide (c = 117) || decide (c = 85)) && !u, LX [some (.bool u), some (.bool l), some (.str (sg c)), none] [] T p tk rw) := jn (wK (vN (by decide) rfl) (vN (by decide) rfl)) (qEB (zl rfl))
  have t2 : qW8 (LX [some (.bool u), some (.bool l), some (.str (sg c)), none] [] T p tk rw) = some ((decide (c = 108) || decide (c = 76)) && !l, LX [some (.bool u), some (.bool l), some (.str (sg c)), none] [] T p tk rw) := jn (wK (vN (by decide) rfl) (vN (by decide) rfl)) (qEB (zl rfl))
  by_cases h1 : (c = 117 ∨ c = 85) ∧ u = false
  ·rw [if_pos h1] at h
   have hE : c ≠ E := fun q => by subst q; exact absurd h1.1 (by decide)
   obtain ⟨q1, q2, q3⟩ := onN hT hx hE
   obtain ⟨m, w', g1, g2, g3⟩ := wy hT x (p + 1) (k + 1) true l (some (.str (sg c))) u' l' k' q3 q1 h
   refine ⟨m + 1, w', by lia, by lia, ?_⟩
   have : ((decide (c = 117) || decide (c = 85)) && !u) = true := by simp [h1.2]; exact h1.1
   rw [this] at t1
   rw [uc (b := qOF) (st2 := LX [some (.bool true), some (.bool l), some (.str (sg c)), none] [] T (p + 1) tk rw) tt ?_, g3, Nat.add_assoc, Nat.add_comm 1 m]
   unfold qOF
   exact (qJ a1).trans ((qJ (st1 := LX [some (.bool true), some (.bool l), some (.str (sg c)), none] [] T p tk rw) ((zM t1).trans rfl)).trans ((qJ yD).trans rfl))
  ·rw [if_neg h1] at h
   have : ((decide (c = 117) || decide (c = 85)) && !u) = false := by
    cases hq : ((decide (c = 117) || decide (c = 85)) && !u) with
    | false => rfl
    | true => exact absurd (by simpa using hq) h1
   rw [this] at t1
   by_cases h2 : (c = 108 ∨ c = 76) ∧ l = false
   ·rw [if_pos h2] at h
    have hE : c ≠ E := fun q => by subst q; exact absurd h2.1 (by decide)
    obtain ⟨q1, q2, q3⟩ := onN hT hx hE
    obtain ⟨m, w', g1, g2, g3⟩ := wy hT x (p + 1) (k + 1) u true (some (.str (sg c))) u' l' k' q3 q1 h
    refine ⟨m + 1, w', by lia, by lia, ?_⟩
    have : ((decide (c = 108) || decide (c = 76)) && !l) = true := by simp [h2.2]; exact h2.1
    rw [this] at t2
    rw [uc (b := qOF) (st2 := LX [some (.bool u), some (.bool true), some (.str (sg c)), none] [] T (p + 1) tk rw) tt ?_, g3, Nat.add_assoc, Nat.add_comm 1 m]
    unfold qOF
    exact (qJ a1).trans ((qJ (st1 := LX [some (.bool u), some (.bool true), some (.str (sg c)), none] [] T p tk rw) ((qr t1).trans ((qJ (st1 := LX [some (.bool u), some (.bool true), some (.str (sg c)), none] [] T p tk rw) ((zM t2).trans rfl)).trans rfl))).trans ((qJ yD).trans rfl))
   ·replace h := ifn h2 h
    cases h
    have : ((decide (c = 108) || decide (c = 76)) && !l) = false := by
     cases hq : ((decide (c = 108) || decide (c = 76)) && !l) with
     | false => rfl
     | true => exact absurd (by simpa using hq) h2
    rw [this] at t2
    refine ⟨0, some (.str (sg c)), rfl, hp, qT9 tt ?_⟩
    unfold qOF
    exact (qJ a1).trans ((qAY ((qr t1).trans (qAY ((qr t2).trans (qAY rfl))))).trans rfl)
theorem wn (hT : qk T) {u l : Bool} {k k0 : Nat} (hp : p ≤ T.length) (h : jc false false k0 (onX T p) = some (u, l, k)) :
  ∃ m, k = k0 + m ∧ p + m ≤ T.length ∧ yL [.lex] (LG T p tk rw) = some (.ok (.str (d0 u l)), LG T (p + m) tk rw) := by
 obtain ⟨m, w, g1, g2, g3⟩ := wy (tk := tk) (rw := rw) hT _ p k0 false false none u l k rfl hp h
 refine ⟨m, g1, g2, zj (v := .str (d0 u l)) (st := LX [some (.bool u), some (.bool l), w, some (.str (d0 u l))] [] T (p + m) tk rw) rfl ?_ rfl⟩
 show vQ (LX [none, none, none, none] [] T p tk rw) = _
 unfold vQ
 refine (qJ (st1 := LX [some (.bool false), none, none, none] [] T p tk rw) rfl).trans ((qJ (st1 := LX [some (.bool false), some (.bool false), none, none] [] T p tk rw) rfl).trans ?_)
 refine (qJ g3).trans ?_
 cases u <;> cases l <;> rfl
theorem qBU {e : EC} {n : Nat} {j : Int} (hj : j = (n : Int)) (h : e st = some (.str (sg c), st)) : tE (qQ .lt (qT zI (qB e qI)) (eC (.int j))) st = some (decide (zB c < n), st) := hj ▸ zl (z0 (zQ (ze h rfl) qJ3) x_c qU5)
theorem qDL (hT : qk T) {b : Bool} {a : Int} (hp : p ≤ T.length) (h : ye (onX T p) = some b) :
  zr [.lex, .int a] (LG T p tk rw) = some (if b then .exc [114, 101, 97, 108] a else .ok .none, LG T p tk rw) := by
 cases hx : onX T p with
 | nil => rw [hx] at h; exact qH h
 | cons c x =>
  rw [hx] at h
  unfold ye at h
  dsimp only at h
  have a1 : qV 2 (qO qM (qC 0) qI) (LX [some (.int a), none, none, none] [] T p tk rw) = some (.nxt, LX [some (.int a), some (.str (sg c)), none, none] [] T p tk rw) := zE jj (by rw [px1 hT hx]; rfl)
  have a2 : qV 3 (eIn zO (qC 2)) (LX [some (.int a), some (.str (sg c)), none, none] [] T p tk rw) = some (.nxt, LX [some (.int a), some (.str (sg c)), some (.bool (decide ([c] ∈ zO))), none] [] T p tk rw) := by
   exact zE (op1 (f := inF zO) (Eq.refl _) qTE) rfl
  have fin : ∀ w, jh (LX [some (.int a), none, none, none] [] T p tk rw) = qD (sIf (tE (qC 3)) (qD (uZ [114, 101, 97, 108] (qC 1)) qK) qK) qK (LX [some (.int a), some (.str (sg c)), some (.bool b), w] [] T p tk rw) → zr [.lex, .int a] (LG T p tk rw) = some (if b then .exc [114, 101, 97, 108] a else .ok .none, LG T p tk rw) := by
   intro w hw
   cases b with
   | true => exact qLP (st := LX [some (.int a), some (.str (sg c)), some (.bool true), w] [] T p tk rw) rfl (hw.trans rfl)
   | false => exact yE (st := LX [some (.int a), some (.str (sg c)), some (.bool false), w] [] T p tk rw) rfl (hw.trans rfl)
  have e46 : ∀ r w, tE (qQ .eq (qC 2) (eC (.str [46]))) (LX [some (.int a), some (.str (sg c)), some (.bool r), w] [] T p tk rw) = some (decide (c = 46), LX [some (.int a), some (.str (sg c)), some (.bool r), w] [] T p tk rw) := fun r w => vN (by decide) rfl
  have e101 : ∀ r w, tOr (tE (qQ .eq (qC 2) (eC (.str [101])))) (tE (qQ .eq (qC 2) (eC (.str [69])))) (LX [some (.int a), some (.str (sg c)), some (.bool r), w] [] T p tk rw) = some (decide (c = 101) || decide (c = 69), LX [some (.int a), some (.str (sg c)), some (.bool r), w] [] T p tk rw) := fun r w => wK (vN (by decide) rfl) (vN (by decide) rfl)
  by_cases h46 : c = 46
  ·replace h := ifp h46 h
   cases x with
   | nil => exact qH h
   | cons d z =>
    cases h
    refine fin none ?_
    unfold jh
    refine (qJ a1).trans ((qJ a2).trans ?_)
    have hr : decide ([c] ∈ zO) = false := by rw [h46]; decide
    rw [hr]
    have t1 := jn (e46 false none) (qBU (n := 10) (j := 10) rfl (c := d) (e := qO qe (qC 0) (qB (eC (.int 1)) qI)) (st := LX [some (.int a), some (.str (sg c)), some (.bool false), none] [] T p tk rw) (by rw [dr, px2 hT hx]))
    have t2 : ∀ r, tOr (tE (qQ .eq (qC 2) (eC (.str [101])))) (tE (qQ .eq (qC 2) (eC (.str [69])))) (LX [some (.int a), some (.str (sg c)), some (.bool r), none] [] T p tk rw) = some (false, _) := fun r => by rw [e101 r none, h46]; rfl
    rw [decide_eq_true h46, Bool.true_and] at t1
    cases hq : decide (zB d < 10) with
    | true => rw [hq] at t1; rw [qJ (st1 := LX [some (.int a), some (.str (sg c)), some (.bool true), none] [] T p tk rw) ((zM t1).trans rfl), qJ ((qr (t2 true)).trans rfl), h46]
    | false => rw [hq] at t1; rw [qJ ((qr t1).trans rfl), qJ ((qr (t2 false)).trans rfl), h46]
  ·rw [if_neg h46] at h
   have t1 : ∀ r w, zb (tE (qQ .eq (qC 2) (eC (.str [46])))) (tE (qQ .lt (qT zI (qB (qO qe (qC 0) (qB (eC (.int 1)) qI)) qI)) (eC (.int 10)))) (LX [some (.int a), some (.str (sg c)), some (.bool r), w] [] T p tk rw) = some (false, LX [some (.int a), some (.str (sg c)), some (.bool r), w] [] T p tk rw) := fun r w => by
    exact ue ((e46 r w).trans (by rw [decide_eq_false h46]))
   by_cases h101 : c = 101 ∨ c = 69
   ·replace h := ifp h101 h
    cases x with
    | nil => exact qH h
    | cons d z =>
     dsimp only at h
     have t2 : ∀ r, tOr (tE (qQ .eq (qC 2) (eC (.str [101])))) (tE (qQ .eq (qC 2) (eC (.str [69])))) (LX [some (.int a), some (.str (sg c)), some (.bool r), none] [] T p tk rw) = some (true, LX [some (.int a), some (.str (sg c)), some (.bool r), none] [] T p tk rw) := fun r => by refine (e101 r none).trans ?_; rcases h101 with rfl | rfl <;> rfl
     have b1 : ∀ r, qV 4 (qO qe (qC 0) (qB (eC (.int 1)) qI)) (LX [some (.int a), some (.str (sg c)), some (.bool r), none] [] T p tk rw) = some (.nxt, LX [some (.int a), some (.str (sg c)), some (.bool r), some (.str (sg d))] [] T p tk rw) := fun r => zE dr (by rw [px2 hT hx]; rfl)
     have e43 : ∀ r, tOr (tE (qQ .eq (qC 4) (eC (.str [43])))) (tE (qQ .eq (qC 4) (eC (.str [45])))) (LX [some (.int a), some (.str (sg c)), some (.bool r), some (.str (sg d))] [] T p tk rw) = some (decide (d = 43) || decide (d = 45), LX [some (.int a), some (.str (sg c)), some (.bool r), some (.str (sg d))] [] T p tk rw) := fun r => wK (vN (by decide) rfl) (vN (by decide) rfl)
     have b3 : ∀ r e, qV 3 (qQ .lt (qT zI (qB (qC 4) qI)) (eC (.int 10))) (LX [some (.int a), some (.str (sg c)), some (.bool r), some (.str (sg e))] [] T p tk rw) = some (.nxt, LX [some (.int a), some (.str (sg c)), some (.bool (decide (zB e < 10))), some (.str (sg e))] [] T p tk rw) := fun r e => by
      exact zE (z0 (zQ (ze (v := .str (sg e)) rfl rfl) qJ3) x_c (qU5 (b := 10))) rfl
     by_cases h43 : d = 43 ∨ d = 45
     ·replace h := ifp h43 h
      cases z with
      | nil => exact qH h
      | cons e y =>
       cases h
       refine fin (some (.str (sg e))) ?_
       unfold jh
       refine (qJ a1).trans ((qJ a2).trans ((qJ ((qr (t1 _ _)).trans rfl)).trans ?_))
       rw [qJ (st1 := LX [some (.int a), some (.str (sg c)), some (.bool (decide (zB e < 10))), some (.str (sg e))] [] T p tk rw)]
       refine (zM (t2 _)).trans ?_
       refine (qJ (b1 _)).trans ?_
       have : (decide (d = 43) || decide (d = 45)) = true := by rcases h43 with rfl | rfl <;> rfl
       have e43 := e43 (decide ([c] ∈ zO))
       rw [this] at e43
       rw [qJ (st1 := LX [some (.int a), some (.str (sg c)), some (.bool (decide ([c] ∈ zO))), some (.str (sg e))] [] T p tk rw) ((zM e43).trans ((qJ (zE qNP (by rw [px3 hT hx]; rfl))).trans rfl)), qJ (b3 _ _)]
       rfl
     ·replace h := ifn h43 h
      cases h
      refine fin (some (.str (sg d))) ?_
      unfold jh
      refine (qJ a1).trans ((qJ a2).trans ((qJ ((qr (t1 _ _)).trans rfl)).trans ?_))
      rw [qJ (st1 := LX [some (.int a), some (.str (sg c)), some (.bool (decide (zB d < 10))), some (.str (sg d))] [] T p tk rw)]
      refine (zM (t2 _)).trans ?_
      refine (qJ (b1 _)).trans ?_
      have : (decide (d = 43) || decide (d = 45)) = false := by
       cases hq : (decide (d = 43) || decide (d = 45)) with
       | false => rfl
       | true => exact absurd (by simpa using hq) h43
      have e43 := e43 (decide ([c] ∈ zO))
      rw [this] at e43
      refine (qJ ((qr e43).trans rfl)).trans ((qJ (b3 _ _)).trans ?_)
      rfl
   ·replace h := ifn h101 h
    cases h
    refine fin none ?_
    unfold jh
    have : (decide (c = 101) || decide (c = 69)) = false := by
     cases hq : (decide (c = 101) || decide (c = 69)) with
     | false => rfl
     | true => exact absurd (by simpa using hq) h101
    have e101 := e101 (decide ([c] ∈ zO)) none
    rw [this] at e101
    exact (qJ a1).trans ((qJ a2).trans ((qJ ((qr (t1 _ _)).trans rfl)).trans (qJ ((qr e101).trans rfl))))
end
section
variable {T : List Nat} {p q c d : Nat} {tk rw tk' rw' : List PV} {v : List (Option PV)} {ls : List (List PV)} {st st1 st2 : St} {u : PV} {f : Fn} {i : Nat} {e : EC}
noncomputable def qCV : SC := (qD (sIf (ve (tE (qC 4))) (qD (qc (qO qp (qC 0) (qB (eC (.int 1013)) (qB (qC 1) (qB (qZ qI) qI)))))
 (qD (qV 3 (eC (.int 0)))
 qK)) (qD (sIf (tE (qQ .gt (qC 3) (eC kT))) (qD (qc (qO qp (qC 0) (qB (eC (.int 1021)) (qB (qC 1) (qB (qZ qI) qI)))))
 (qD (qV 3 (eC (.int 0)))
 qK)) qK)
 qK))
 (qD (qc (qO zN (qC 0) (qB (eC gD) (qB (qZ (qB (qC 3) (qB (qC 5) qI))) (qB (qC 1) qI)))))
 qK))
theorem qTF {num k : Nat} {good : Bool} {w : List Nat} {b : PV} (hf : uE tk rw (gr num good w k)) :
  ∃ n', qCV (LX [some (.int p), some b, some (.int num), some (.bool good), some (.str w)] [] T (p + k) tk rw) = some (.nxt, ⟨[some .lex, some (.int p), some b, some (.int n'), some (.bool good), some (.str w)], [], aft T p tk rw (gr num good w k)⟩) := by
 have t1 : ve (tE (qC 4)) (LX [some (.int p), some b, some (.int num), some (.bool good), some (.str w)] [] T (p + k) tk rw) = some (!good, LX [some (.int p), some b, some (.int num), some (.bool good), some (.str w)] [] T (p + k) tk rw) := rfl
 have put : ∀ (n : Int) rw', tk.length < line → qD (qc (qO zN (qC 0) (qB (eC gD) (qB (qZ (qB (qC 3) (qB (qC 5) qI))) (qB (qC 1) qI))))) qK (LX [some (.int p), some b, some (.int n), some (.bool good), some (.str w)] [] T (p + k) tk rw') = some (.nxt, LX [some (.int p), some b, some (.int n), some (.bool good), some (.str w)] [] T (p + k) (tk ++ [.tup [.int 3, .tup [.int n, .str w], .int p]]) rw') := fun n rw' hk =>
  (qJ (qA7 (a := .int 3) (b := .tup [.int n, .str w]) (n := p) rfl (gR rfl rfl) rfl rfl rfl hk)).trans rfl
 unfold gr at hf ⊢
 cases good with
 | false =>
  rw [if_pos rfl] at hf ⊢
  refine ⟨0, ?_⟩
  unfold qCV
  refine (qJ ((zM t1).trans ((qJ (yb (n := 1013) (m := p) rfl rfl uD rfl hf.2)).trans ((qJ (st1 := LX [some (.int p), some b, some (.int 0), some (.bool false), some (.str w)] [] T (p + k) tk (rw ++ [.tup [.int 1013, .int p, .tup []]])) rfl).trans rfl)))).trans ((put 0 _ hf.1).trans ?_)
  rfl
 | true =>
  rw [if_neg (by decide)] at hf ⊢
  have t2 : tE (qQ .gt (qC 3) (eC kT)) (LX [some (.int p), some b, some (.int num), some (.bool true), some (.str w)] [] T (p + k) tk rw) = some (decide ((18446744073709551615 : Int) < (num : Int)), LX [some (.int p), some b, some (.int num), some (.bool true), some (.str w)] [] T (p + k) tk rw) := rfl
  by_cases hm : num > 18446744073709551615
  ·rw [if_pos hm] at hf ⊢
   rw [decide_eq_true (by lia)] at t2
   refine ⟨0, ?_⟩
   unfold qCV
   rw [qJ (st1 := LX [some (.int p), some b, some (.int 0), some (.bool true), some (.str w)] [] T (p + k) tk (rw ++ [.tup [.int 1021, .int p, .tup []]])), put 0 _ hf.1]
   ·rfl
   ·refine (qr t1).trans ?_
    refine (qJ ((zM t2).trans ((qJ (yb (n := 1021) (m := p) rfl rfl uD rfl hf.2)).trans ((qJ (st1 := LX [some (.int p), some b, some (.int 0), some (.bool true), some (.str w)] [] T (p + k) tk (rw ++ [.tup [.int 1021, .int p, .tup []]])) rfl).trans rfl)))).trans rfl
  ·rw [if_neg hm] at hf ⊢
   rw [decide_eq_false (by lia)] at t2
   refine ⟨num, ?_⟩
   unfold qCV
   rw [qJ (st1 := LX [some (.int p), some b, some (.int num), some (.bool true), some (.str w)] [] T (p + k) tk rw), put num _ hf.1]
   ·show some _ = some (Out.nxt, (⟨_, _, LG T (p + k) _ (rw ++ [])⟩ : St))
    rw [List.append_nil]
    rfl
   ·refine (qr t1).trans ?_
    exact (qJ ((qr t2).trans rfl)).trans rfl
noncomputable def qGM : SC := (qD (qV 5 (qT yL (qB (qC 0) qI))) qCV)
noncomputable def dh : SC := (qD (sIf (tE (qQ .lt (qT zI (qB (qO qM (qC 0) qI) qI)) (eC (.int 10)))) (qD (qV 4 (eC (.bool false)))
 (qD (qc (qT jV (qB (qC 0) (qB (eC (.int 10)) qI))))
 qK)) qK) qGM)
theorem qJB (hT : qk T) {num k : Nat} {good : Bool} {b : PV} {r : Res} (hp : p + k ≤ T.length) (h : va num good k (onX T (p + k)) = some r) (hf : uE tk rw r) :
  ∃ v, qGM (LX [some (.int p), some b, some (.int num), some (.bool good), none] [] T (p + k) tk rw) = some (.nxt, ⟨some .lex :: v, [], aft T p tk rw r⟩) ∧ p + r.k ≤ T.length := by
 unfold va at h
 cases hw : jc false false k (onX T (p + k)) with
 | none => rw [hw] at h; exact qH h
 | some z =>
  obtain ⟨u, l, k'⟩ := z
  rw [hw] at h
  cases h
  obtain ⟨m, g1, g2, g3⟩ := wn (tk := tk) (rw := rw) hT hp hw
  subst g1
  obtain ⟨n', g4⟩ := qTF (T := T) (p := p) (b := b) hf
  refine ⟨[some (.int p), some b, some (.int n'), some (.bool good), some (.str (d0 u l))], ?_, ?_⟩
  ·unfold qGM
   rw [qJ (zE (gf g3) (st2 := LX [some (.int p), some b, some (.int num), some (.bool good), some (.str (d0 u l))] [] T (p + k + m) tk rw) rfl), Nat.add_assoc, g4]
  ·have : (gr num good (d0 u l) (k + m)).k = k + m := by
    unfold gr
    cases good
    ·rfl
    ·by_cases hm : num > 18446744073709551615
     ·rw [if_neg (by decide), if_pos hm]
     ·rw [if_neg (by decide), if_neg hm]
   rw [this]; lia
theorem qHU {a : EC} {y : PV} (hy : y.clean = true) (ha : a (LX v ls T p tk rw) = some (y, LX v ls T p tk rw)) (h : f [.lex, y] (LG T p tk rw) = some (.ok u, LG T q tk' rw')) : qT f (qB (qC 0) (qB a qI)) (LX v ls T p tk rw) = some (u, LX v ls T q tk' rw') := zQ (ze qPC (ze ha rfl)) (zA (jo rfl (jo hy rfl)) h)
theorem qQQ (hT : qk T) {num k : Nat} {good : Bool} {b : PV} {r : Res} (hp : p + k ≤ T.length) (h : yB num good k (onX T (p + k)) = some r) (hf : uE tk rw r) :
  ∃ v, dh (LX [some (.int p), some b, some (.int num), some (.bool good), none] [] T (p + k) tk rw) = some (.nxt, ⟨some .lex :: v, [], aft T p tk rw r⟩) ∧ p + r.k ≤ T.length := by
 cases hx : onX T (p + k) with
 | nil => rw [hx] at h; exact qH h
 | cons c x =>
  replace h := hx ▸ h
  unfold yB at h
  dsimp only at h
  have t1 := qBU (n := 10) (j := 10) rfl (c := c) (e := qO qM (qC 0) qI) (st := LX [some (.int p), some b, some (.int num), some (.bool good), none] [] T (p + k) tk rw) (by rw [jj, px1 hT hx])
  by_cases h10 : zB c < 10
  ·replace h := ifp h10 h
   replace t1 := (decide_eq_true h10) ▸ t1
   cases hd : kP 10 0 false 0 (c :: x) with
   | none => rw [hd] at h; exact qH h
   | some z =>
    obtain ⟨n2, g2, j⟩ := z
    rw [hd] at h
    dsimp only at h
    rw [← hx] at hd
    obtain ⟨m, e1, e2, e3⟩ := dS (tk := tk) (rw := rw) hT (base := 10) (by decide) hp hd
    have e3 : jV [.lex, .int 10] (LG T (p + k) tk rw) = _ := e3
    rw [Nat.zero_add] at e1
    subst e1
    rw [← hx, vK e2, Nat.add_assoc] at h
    obtain ⟨v, g1, g2⟩ := qJB (b := b) hT (by lia) h hf
    refine ⟨v, ?_, g2⟩
    unfold dh
    rw [qJ ((zM t1).trans ((qJ (st1 := LX [some (.int p), some b, some (.int num), some (.bool false), none] [] T (p + k) tk rw) rfl).trans ((qJ (vW (qHU rfl x_c e3))).trans rfl))), Nat.add_assoc, g1]
  ·replace h := ifn h10 h
   rw [decide_eq_false h10] at t1
   rw [← hx] at h
   obtain ⟨v, g1, g2⟩ := qJB (b := b) hT hp h hf
   refine ⟨v, ?_, g2⟩
   unfold dh
   exact (qJ ((qr t1).trans rfl)).trans g1
noncomputable def qLD : SC := (sIf (zb (tE (qQ .eq (qO qM (qC 0) qI) (eC (.str [48])))) (tOr (tE (qQ .eq (qO qe (qC 0) (qB (eC (.int 1)) qI)) (eC (.str [120])))) (tE (qQ .eq (qO qe (qC 0) (qB (eC (.int 1)) qI)) (eC (.str [88])))))) (qD (qV 2 (eC (.int 16)))
 qK) (qD (sIf (zb (tE (qQ .eq (qO qM (qC 0) qI) (eC (.str [48])))) (tOr (tE (qQ .eq (qO qe (qC 0) (qB (eC (.int 1)) qI)) (eC (.str [98])))) (tE (qQ .eq (qO qe (qC 0) (qB (eC (.int 1)) qI)) (eC (.str [66])))))) (qD (qV 2 (eC (.int 2)))
 qK) qK)
 qK))
noncomputable def qTD : SC := sIf (tE (qQ .ne (qC 2) (eC (.int 10)))) (qD (qq (qC 0) (eC (.int 2)))
 qK) qK
theorem qNN (hd : d ≠ E) (h : jf T p = sg c) : tE (qQ .eq (qO qM (qC 0) qI) (eC (.str [d]))) (LX v ls T p tk rw) = some (decide (c = d), LX v ls T p tk rw) := zl (z0 jj x_c (by rw [h]; exact qKZ hd))
theorem qNO (hd : d ≠ E) (h : jf T p = sg c) : tE (qQ .ne (qO qM (qC 0) qI) (eC (.str [d]))) (LX v ls T p tk rw) = some (!decide (c = d), LX v ls T p tk rw) := zl (z0 jj x_c (by rw [h]; exact qU6 hd))
theorem qSI (hd : d ≠ E) (h : jf T (p + 1) = sg c) : tE (qQ .eq (qO qe (qC 0) (qB (eC (.int 1)) qI)) (eC (.str [d]))) (LX v ls T p tk rw) = some (decide (c = d), LX v ls T p tk rw) := zl (z0 dr x_c (by rw [h]; exact qKZ hd))
theorem qSM (hT : qk T) {base : Nat} (h : vt (onX T p) = some base) :
  qLD (LX [some (.int p), some (.int 10), none, none, none] [] T p tk rw) = some (.nxt, LX [some (.int p), some (.int base), none, none, none] [] T p tk rw) ∧
  (base = 10 ∨ ((base = 16 ∨ base = 2) ∧ p + 2 ≤ T.length)) := by
 cases hx : onX T p with
 | nil => rw [hx] at h; exact qH h
 | cons c x =>
  rw [hx] at h
  unfold vt at h
  dsimp only at h
  have t0 := qNN (d := 48) (v := [some (.int p), some (.int 10), none, none, none]) (ls := []) (tk := tk) (rw := rw) (by decide) (px1 hT hx)
  by_cases h48 : c = 48
  ·replace h := ifp h48 h
   rw [decide_eq_true h48] at t0
   cases x with
   | nil => exact qH h
   | cons d z =>
    dsimp only at h
    have hE : c ≠ E := fun q => by subst q; exact absurd h48 (by decide)
    obtain ⟨q1, q2, q3⟩ := onN hT hx hE
    have t1 : ∀ e1 e2, e1 ≠ E → e2 ≠ E → zb (tE (qQ .eq (qO qM (qC 0) qI) (eC (.str [48])))) (tOr (tE (qQ .eq (qO qe (qC 0) (qB (eC (.int 1)) qI)) (eC (.str [e1])))) (tE (qQ .eq (qO qe (qC 0) (qB (eC (.int 1)) qI)) (eC (.str [e2]))))) (LX [some (.int p), some (.int 10), none, none, none] [] T p tk rw) = some (decide (d = e1 ∨ d = e2), LX [some (.int p), some (.int 10), none, none, none] [] T p tk rw) := fun e1 e2 h1 h2 => by
     rw [jn t0 (wK (qSI h1 (px2 hT hx)) (qSI h2 (px2 hT hx))), Bool.true_and, Bool.decide_or]
    have tx := t1 120 88 (by decide) (by decide)
    have tb := t1 98 66 (by decide) (by decide)
    by_cases h1 : d = 120 ∨ d = 88
    ·replace h := ifp h1 h
     rw [decide_eq_true h1] at tx
     cases h
     have hE2 : d ≠ E := fun q => by subst q; exact absurd h1 (by decide)
     refine ⟨?_, .inr ⟨.inl rfl, (onN hT q3 hE2).1⟩⟩
     unfold qLD
     exact (zM tx).trans rfl
    ·replace h := ifn h1 h
     replace tx := (decide_eq_false h1) ▸ tx
     by_cases h2 : d = 98 ∨ d = 66
     ·replace h := ifp h2 h
      rw [decide_eq_true h2] at tb
      cases h
      have hE2 : d ≠ E := fun q => by subst q; exact absurd h2 (by decide)
      refine ⟨?_, .inr ⟨.inr rfl, (onN hT q3 hE2).1⟩⟩
      unfold qLD
      exact (qr tx).trans ((qJ (st1 := LX [some (.int p), some (.int 2), none, none, none] [] T p tk rw) ((zM tb).trans rfl)).trans rfl)
     ·replace h := ifn h2 h
      rw [decide_eq_false h2] at tb
      cases h
      refine ⟨?_, .inl rfl⟩
      unfold qLD
      exact (qr tx).trans ((qJ ((qr tb).trans rfl)).trans rfl)
  ·replace h := ifn h48 h
   rw [decide_eq_false h48] at t0
   cases h
   refine ⟨?_, .inl rfl⟩
   unfold qLD
   exact (qr (ue t0)).trans ((qJ ((qr (ue t0)).trans rfl)).trans rfl)
noncomputable def qH0 (T : List Nat) (p : Nat) (tk rw : List PV) (o : One) : Prop := match o with
 | .ok r => uE tk rw r → vk [.lex] (LG T p tk rw) = some (.ok .none, aft T p tk rw r) ∧ p + r.k ≤ T.length
 | .left code => ∃ q, vk [.lex] (LG T p tk rw) = some (.exc code p, LG T q tk rw)
noncomputable abbrev IX (p base num : Nat) (good : Bool) (T : List Nat) (q : Nat) (tk rw : List PV) : St := LX [some (.int p), some (.int base), some (.int num), some (.bool good), none] [] T q tk rw
noncomputable def qQO : SC := sIf (tE (qQ .eq (qC 2) (eC (.int 10)))) (qD (vU zr (qB (qC 0) (qB (qC 1) qI))) qK) qK
section
variable {base num q : Nat} {good : Bool} {r : Res}
theorem qTG (e5 : zr [.lex, .int p] (LG T q tk rw) = some (.ok .none, LG T q tk rw)) : vU zr (qB (qC 0) (qB (qC 1) qI)) (IX p base num good T q tk rw) = some (.nxt, IX p base num good T q tk rw) := qF9 (ze rfl (ze (v := .int p) rfl rfl)) (zA rfl e5)
theorem qQS {code : List Nat} (e5 : zr [.lex, .int p] (LG T q tk rw) = some (.exc code p, LG T q tk rw)) : vU zr (qB (qC 0) (qB (qC 1) qI)) (IX p base num good T q tk rw) = some (.exc code p, IX p base num good T q tk rw) := qGA (ze rfl (ze (v := .int p) rfl rfl)) (zA rfl e5)
theorem qUR (hT : qk T) {k : Nat} (e2 : p + k ≤ T.length) (s1 : wN (LX [none, none, none, none, none] [] T p tk rw) = qD qQO dh (IX p base num good T (p + k) tk rw)) (hi : qQO (IX p base num good T (p + k) tk rw) = some (.nxt, IX p base num good T (p + k) tk rw)) (ht : yB num good k (onX T (p + k)) = some r) : qH0 T p tk rw (.ok r) := fun hf => by
 obtain ⟨v, g1, g2⟩ := qQQ (b := .int base) hT e2 ht hf
 exact ⟨yE (st := ⟨some .lex :: v, [], aft T p tk rw r⟩) rfl (s1.trans ((qJ hi).trans g1)), g2⟩
theorem qQT (hT : qk T) {k0 m : Nat} (b1 : qLD (LX [some (.int p), some (.int 10), none, none, none] [] T p tk rw) = some (.nxt, LX [some (.int p), some (.int base), none, none, none] [] T p tk rw)) (hk0 : qTD (LX [some (.int p), some (.int base), none, none, none] [] T p tk rw) = some (.nxt, LX [some (.int p), some (.int base), none, none, none] [] T (p + k0) tk rw))
  (e3 : jV [.lex, .int base] (LG T (p + k0) tk rw) = some (.ok (.tup [.int num, .bool good]), LG T (p + k0 + m) tk rw)) : wN (LX [none, none, none, none, none] [] T p tk rw) = qD qQO dh (IX p base num good T (p + (k0 + m)) tk rw) := by
 show qD _ (qD _ (qD qLD (qD qTD (qD _ (qD _ dh))))) _ = _
 refine (qJ (st1 := LX [some (.int p), none, none, none, none] [] T p tk rw) rfl).trans ((qJ (st1 := LX [some (.int p), some (.int 10), none, none, none] [] T p tk rw) rfl).trans ((qJ b1).trans ((qJ hk0).trans (qJ ?_))))
 rw [← Nat.add_assoc]
 exact (qa (qHU (v := [some (.int p), some (.int base), none, none, none]) (ls := []) (a := qC 2) (y := .int base) rfl rfl e3)).trans rfl
end
theorem qLK (hT : qk T) {o : One} (hp : p ≤ T.length) (h : gu (onX T p) = some o) : qH0 T p tk rw o := by
 unfold gu at h
 cases hb : vt (onX T p) with
 | none => rw [hb] at h; exact qH h
 | some base =>
  replace h := hb ▸ h
  dsimp only at h
  have b := qSM (tk := tk) (rw := rw) hT hb
  have hb16 : base ≤ 16 := by have := b.2; lia
  have hk : p + (if base = 10 then 0 else 2) ≤ T.length := by
   by_cases q : base = 10
   ·rw [if_pos q]; exact hp
   ·rw [if_neg q]; exact (b.2.resolve_left q).2
  have hk0 : qTD (LX [some (.int p), some (.int base), none, none, none] [] T p tk rw) = some (.nxt, LX [some (.int p), some (.int base), none, none, none] [] T (p + (if base = 10 then 0 else 2)) tk rw) := by
   unfold qTD
   rcases b.2 with c | ⟨c | c, _⟩ <;> subst c <;> rfl
  generalize (if base = 10 then 0 else 2) = k0 at h hk hk0
  cases hd : kP base 0 false k0 ((onX T p).drop k0) with
  | none => rw [hd] at h; exact qH h
  | some z =>
   rw [hd] at h
   rw [vK hk] at hd
   obtain ⟨m, e1, e2, e3⟩ := dS (tk := tk) (rw := rw) hT hb16 hk (num := z.1) (good := z.2.1) (k := z.2.2) hd
   have s1 := qQT hT b.1 hk0 e3
   rw [Nat.add_assoc] at e2
   dsimp only at h
   rw [e1, vK e2] at h
   by_cases h10 : base = 10
   ·rw [if_pos h10] at h
    have ti : tE (qQ .eq (qC 2) (eC (.int 10))) (IX p base z.1 z.2.1 T (p + (k0 + m)) tk rw) = some (true, IX p base z.1 z.2.1 T (p + (k0 + m)) tk rw) := by rw [h10]; rfl
    cases hr : ye (onX T (p + (k0 + m))) with
    | none => rw [hr] at h; exact qH h
    | some b =>
     rw [hr] at h
     have e5 := qDL (tk := tk) (rw := rw) (a := p) hT e2 hr
     cases b with
     | true => exact Option.some.inj h ▸ ⟨p + (k0 + m), qLP (st := IX p base z.1 z.2.1 T (p + (k0 + m)) tk rw) rfl (s1.trans (qNA ((zM ti).trans (qNA (qQS e5)))))⟩
     | false =>
      dsimp only at h
      cases ht : yB z.1 z.2.1 (k0 + m) (onX T (p + (k0 + m))) with
      | none => rw [ht] at h; exact qH h
      | some r' => rw [ht] at h; exact Option.some.inj h ▸ qUR hT e2 s1 ((zM ti).trans ((qJ (qTG e5)).trans rfl)) ht
   ·rw [if_neg h10] at h
    have ti : tE (qQ .eq (qC 2) (eC (.int 10))) (IX p base z.1 z.2.1 T (p + (k0 + m)) tk rw) = some (false, IX p base z.1 z.2.1 T (p + (k0 + m)) tk rw) := zl (z0 (st1 := IX p base z.1 z.2.1 T (p + (k0 + m)) tk rw) rfl x_c (congrArg some (show ((base : Int) == 10) = false by rw [beq_eq_false_iff_ne]; lia)))
    dsimp only at h
    cases ht : yB z.1 z.2.1 (k0 + m) (onX T (p + (k0 + m))) with
    | none => rw [ht] at h; exact qH h
    | some r' => rw [ht] at h; exact Option.some.inj h ▸ qUR hT e2 s1 ((qr ti).trans rfl) ht
theorem qLJ (hT : qk T) {o : One} (hp : p ≤ T.length) (h : gu (onX T p) = some o) :
  (∀ r, o = .ok r → uE tk rw r → vk [.lex] (LG T p tk rw) = some (.ok .none, aft T p tk rw r) ∧ p + r.k ≤ T.length) ∧
  (∀ code, o = .left code → ∃ q, vk [.lex] (LG T p tk rw) = some (.exc code p, LG T q tk rw)) :=
 have q : qH0 T p tk rw o := qLK hT hp h
 ⟨fun r e => (e ▸ q : qH0 T p tk rw (.ok r)), fun code e => (e ▸ q : qH0 T p tk rw (.left code))⟩
end
theorem qNV (n : Nat) : Builtin.bitAnd (n : Int) 1023 = ((n % 1024 : Nat) : Int) := by
 unfold Builtin.bitAnd
 rw [decide_eq_true (Int.natCast_nonneg n), decide_eq_true (by decide : (0 : Int) ≤ 1023)]
 show (((n : Int).toNat &&& (1023 : Int).toNat : Nat) : Int) = _
 rw [Int.toNat_natCast]
 show ((n &&& 1023 : Nat) : Int) = _
 rw [show (1023 : Nat) = 2 ^ 10 - 1 from rfl, Nat.and_two_pow_sub_one_eq_mod]
theorem qV3 (n : Nat) : (n : Int).fdiv (2 ^ (10 : Int).toNat) = ((n / 1024 : Nat) : Int) := by
 show (n : Int).fdiv ((1024 : Nat) : Int) = _
 rw [Int.fdiv_eq_ediv_of_nonneg _ (by lia)]
 rfl
theorem qD8 {st st1 : St} {o a : EC} {u : PV} {L : List PV} (h1 : o st = some (.lst (.loc 0), st)) (h2 : a st = some (u, st1)) (hl : st1.ls = [L]) (hs : u.solid = true) (hn : L.length < line) : qc (qw o a) st = some (.nxt, { st1 with ls := [L ++ [u]] }) := by
 refine (vW (d5 (r := .loc 0) (l := L) h1 h2 (by show st1.ls[0]? = _; rw [hl]; rfl) hs hn)).trans ?_
 show some (Out.nxt, { st1 with ls := st1.ls.set 0 _ }) = _
 rw [hl]; rfl
noncomputable def qSC : SC := (qD (qV 3 (qCC (qC 2)))
 (qD (sIf (tE (qQ .gt (qC 3) (eC (.int 65535)))) (qD (j3 .sub 3 (eC (.int 65536)))
 (qD (qc (qw (qC 1) (qGG (qY .add (eC (.int 55296)) (qY .shr (qC 3) (eC (.int 10)))))))
 (qD (qc (qw (qC 1) (qGG (qY .add (eC (.int 56320)) (qY .band (qC 3) (eC (.int 1023)))))))
 qK))) (qD (qc (qw (qC 1) (qC 2)))
 qK))
 qK))
noncomputable abbrev UX (s : List Nat) (w2 w3 : Option PV) (L : List PV) (g : G) : St := ⟨[some (.str s), some (.lst (.loc 0)), w2, w3], [L], g⟩
noncomputable def uB (l : List Nat) : List PV := l.map fun u => .str [u]
theorem qK2 {n : Nat} (h : n ≤ 1114111) : qPS (.int n) = some (.str [n]) := if_pos ⟨Int.natCast_nonneg n, Int.ofNat_le.mpr h⟩
theorem qSO (n : Nat) : bop .shr (.int n) (.int 10) = some (.int (n / 1024 : Nat)) := by
 show (if (0 : Int) ≤ 10 ∧ (10 : Int) ≤ 64 then some (PV.int ((n : Int).fdiv (2 ^ (10 : Int).toNat))) else none) = _
 rw [if_pos (by decide), qV3]
theorem qT3 {s : List Nat} {w3 : Option PV} {L : List PV} {g : G} {c : Nat} (hc : c < E) (hL : L.length + 2 ≤ line) : ∃ w, qSC (UX s (some (.str [c])) w3 L g) = some (.nxt, UX s (some (.str [c])) w (L ++ uB (zC c)) g) := by
 have a1 : qV 3 (qCC (qC 2)) (UX s (some (.str [c])) w3 L g) = some (.nxt, UX s (some (.str [c])) (some (.int c)) L g) := rfl
 have t1 : tE (qQ .gt (qC 3) (eC (.int 65535))) (UX s (some (.str [c])) (some (.int c)) L g) = some (decide ((65535 : Int) < (c : Int)), UX s (some (.str [c])) (some (.int c)) L g) := rfl
 unfold zC
 by_cases h : c > 65535
 ·rw [if_pos h]
  rw [decide_eq_true (by lia)] at t1
  obtain ⟨n, hn⟩ : ∃ n, n = c - 65536 := ⟨_, rfl⟩
  have hcn : (c : Int) - 65536 = (n : Int) := by lia
  rw [← hn]
  have hE : c < 1114112 := hc
  have hlt : n / 1024 < 1024 := by lia
  refine ⟨some (.int n), ?_⟩
  unfold qSC
  rw [qJ a1]
  have a2 : j3 .sub 3 (eC (.int 65536)) (UX s (some (.str [c])) (some (.int c)) L g) = some (.nxt, UX s (some (.str [c])) (some (.int n)) L g) := by
   rw [← hcn]; rfl
  have e1 : qGG (qY .add (eC (.int 55296)) (qY .shr (qC 3) (eC (.int 10)))) (UX s (some (.str [c])) (some (.int n)) L g) = some (.str [55296 + n / 1024], UX s (some (.str [c])) (some (.int n)) L g) := by
   exact op1 (f := qPS) (op2 (f := bop .add) x_c (op2 (f := bop .shr) (Eq.refl _) x_c (qSO n)) (Eq.refl _)) (qK2 (by lia))
  have e2 : ∀ L, qGG (qY .add (eC (.int 56320)) (qY .band (qC 3) (eC (.int 1023)))) (UX s (some (.str [c])) (some (.int n)) L g) = some (.str [56320 + n % 1024], UX s (some (.str [c])) (some (.int n)) L g) := by
   intro L
   exact op1 (f := qPS) (op2 (f := bop .add) x_c (op2 (f := bop .band) (Eq.refl _) x_c (congrArg (fun i => some (PV.int i)) (qNV n))) (Eq.refl _)) (qK2 (by lia))
  rw [qJ (st1 := UX s (some (.str [c])) (some (.int n)) (L ++ [.str [55296 + n / 1024]] ++ [.str [56320 + n % 1024]]) g)]
  ·rw [List.append_assoc]; rfl
  ·rw [zM t1, qJ a2, qJ (st1 := UX s (some (.str [c])) (some (.int n)) (L ++ [.str [55296 + n / 1024]]) g) (qD8 (L := L) rfl e1 rfl rfl (by lia)), qJ (st1 := UX s (some (.str [c])) (some (.int n)) (L ++ [.str [55296 + n / 1024]] ++ [.str [56320 + n % 1024]]) g) (qD8 (L := L ++ [.str [55296 + n / 1024]]) rfl (e2 _) rfl rfl (by simp; lia))]
   rfl
 ·rw [if_neg h]
  rw [decide_eq_false (by lia)] at t1
  refine ⟨some (.int c), ?_⟩
  unfold qSC
  rw [qJ a1, qJ ((qr t1).trans ((qJ (qD8 (L := L) (u := .str [c]) rfl rfl rfl rfl (by lia))).trans rfl))]
  rfl
theorem qNK {s : List Nat} {g : G} : ∀ (r : List Nat) (w2 w3 : Option PV) (L : List PV), (∀ c ∈ r, c < E) → L.length + 2 * r.length ≤ line →
  ∃ w2' w3', forC (za 2) qSC (r.map fun c => .str [c]) (UX s w2 w3 L g) = some (.nxt, UX s w2' w3' (L ++ uB (r.flatMap zC)) g)
 | [], w2, w3, L, h, hL => ⟨w2, w3, congrArg (fun l => some (Out.nxt, UX s w2 w3 l g)) (List.append_nil L).symm⟩
 | c :: r, w2, w3, L, h, hL => by
  simp only [List.length_cons] at hL
  obtain ⟨w, h1⟩ := qT3 (s := s) (w3 := w3) (L := L) (g := g) (h c (.head _)) (by lia)
  have hlen : (uB (zC c)).length ≤ 2 := by
   unfold uB zC
   by_cases q : c > 65535
   ·rw [if_pos q]; simp
   ·rw [if_neg q]; simp
  obtain ⟨w2', w3', h2⟩ := qNK r (some (.str [c])) w (L ++ uB (zC c)) (fun d hd => h d (.tail _ hd)) (by rw [List.length_append]; lia)
  refine ⟨w2', w3', ?_⟩
  refine ((qCK rfl h1).trans h2).trans ?_
  simp [uB, List.append_assoc]
theorem qDX : ∀ l : List (List Nat), u8 (l.map .str) = some l
 | [] => rfl
 | a :: l => congrArg (Option.map (a :: ·)) (qDX l)
theorem qQF : ∀ l : List Nat, (l.map fun u => [u]).flatten = l
 | [] => rfl
 | a :: l => by simp [qQF l]
theorem qYS : ∀ l : List Nat, ((l.map fun u => [u]).map List.length).sum = l.length
 | [] => rfl
 | a :: l => by simp only [List.map_cons, List.sum_cons, qYS l, List.length_cons, List.length_nil]; lia
theorem qMG {st : St} {e : EC} {l : List (List Nat)} (h : e st = some (.lst (.loc 0), st)) (hl : st.ls = [l.map .str]) (hn : l.flatten.length ≤ line) : qIR e st = some (.str l.flatten, st) := by
 refine (qa h).trans (congrArg (fun o => okP o st) (?_ : qMZ (.lst (.loc 0)) st = some (.str l.flatten)))
 show (match (st.ls[0]?).bind u8 with | some l => if (l.map List.length).sum ≤ line then some (PV.str l.flatten) else none | none => none) = _
 rw [hl]
 show (match u8 (l.map .str) with | some l => if (l.map List.length).sum ≤ line then some (PV.str l.flatten) else none | none => none) = _
 rw [qDX]
 exact if_pos (by rw [List.length_flatten] at hn; exact hn)
theorem qI2 : ∀ l : List Nat, (l.flatMap zC).length ≤ 2 * l.length
 | [] => Nat.le_refl _
 | a :: l => by
  have := qI2 l
  have h2 : (zC a).length ≤ 2 := by
   unfold zC
   by_cases q : a > 65535
   ·rw [if_pos q]; simp
   ·rw [if_neg q]; simp
  rw [List.flatMap_cons, List.length_append, List.length_cons]; lia
theorem qA5 {s : List Nat} {g : G} (hs : ∀ c ∈ s, c < E) (hn : 2 * s.length ≤ line) : zq [.str s] g = some (.ok (.str (s.flatMap zC)), g) := by
 obtain ⟨w2, w3, h⟩ := qNK (s := s) (g := g) s none none [] hs (by simpa using hn)
 rw [List.nil_append] at h
 refine zj (v := .str (s.flatMap zC)) (st := UX s w2 w3 (uB (s.flatMap zC)) g) rfl ?_ rfl
 show qD _ (qD (qHH 2 (qC 0) qSC) _) ⟨[some (.str s), none, none, none], [], g⟩ = _
 rw [qJ (st1 := UX s none none [] g) rfl, qJ (st1 := UX s w2 w3 (uB (s.flatMap zC)) g)]
 ·refine qz (jI ?_)
  have := qMG (st := UX s w2 w3 (uB (s.flatMap zC)) g) (e := qC 1) (l := (s.flatMap zC).map fun u => [u]) rfl (by simp [uB]) (by rw [qQF]; have := qI2 s; lia)
  rw [qQF] at this
  exact this
 ·exact h
section
variable {T : List Nat} {p q c d : Nat} {tk rw tk' rw' : List PV} {v : List (Option PV)} {ls : List (List PV)} {st st1 st2 : St} {u : PV} {f : Fn} {i : Nat} {e : EC}
theorem seq_nil {a : SC} : qD a qK st = a st := by
 unfold qD bnd
 cases a st with
 | none => rfl
 | some z => obtain ⟨o, st'⟩ := z; cases o <;> rfl
noncomputable def qW5 : TC := (zb (tE (qQ .lt (qC 4) (qC 2))) (tE (qQ .lt (qT zI (qB (qO qM (qC 0) qI) qI)) (eC (.int 16)))))
noncomputable def qVJ : SC := (qD (qV 3 (qY .add (qY .mul (qC 3) (eC (.int 16))) (qT zI (qB (qO qM (qC 0) qI) qI))))
 (qD (j3 .add 4 (eC (.int 1)))
 (qD (qq (qC 0) (eC (.int 1)))
 qK)))
theorem qI8 (hT : qk T) {a : PV} {most : Nat} : ∀ (m : Nat) (p num n : Nat) (num' n' : Nat), p ≤ T.length → n + m = most → qGL m num n (onX T p) = some (num', n') →
  ∃ j, n' = n + j ∧ p + j ≤ T.length ∧ whileC qW5 qVJ (LX [some a, some (.int most), some (.int num), some (.int n)] [] T p tk rw) = some (.nxt, LX [some a, some (.int most), some (.int num'), some (.int n')] [] T (p + j) tk rw)
 | 0, p, num, n, num', n', hp, hm, h => by
  cases h
  refine ⟨0, rfl, hp, qD6 ?_⟩
  have t0 : tE (qQ .lt (qC 4) (qC 2)) (LX [some a, some (.int most), some (.int num), some (.int n)] [] T p tk rw) = some (decide ((n : Int) < (most : Int)), LX [some a, some (.int most), some (.int num), some (.int n)] [] T p tk rw) := rfl
  rw [decide_eq_false (by lia)] at t0
  exact ue t0
 | m + 1, p, num, n, num', n', hp, hm, h => by
  cases hx : onX T p with
  | nil => rw [hx] at h; cases h
  | cons c x =>
   rw [hx] at h
   replace h := (qLC ..).symm.trans h
   have t0 : tE (qQ .lt (qC 4) (qC 2)) (LX [some a, some (.int most), some (.int num), some (.int n)] [] T p tk rw) = some (decide ((n : Int) < (most : Int)), LX [some a, some (.int most), some (.int num), some (.int n)] [] T p tk rw) := rfl
   rw [decide_eq_true (by lia)] at t0
   have t1 := jn t0 (qBU (n := 16) (j := 16) rfl (c := c) (e := qO qM (qC 0) qI) (by rw [jj, px1 hT hx]))
   rw [Bool.true_and] at t1
   by_cases hd : zB c < 16
   ·rw [if_pos hd] at h
    rw [decide_eq_true hd] at t1
    have hE : c ≠ E := fun q => by
     subst q
     have : zB E = 99 := by decide
     lia
    obtain ⟨q1, q2, q3⟩ := onN hT hx hE
    obtain ⟨j, g1, g2, g3⟩ := qI8 hT (a := a) (most := most) m (p + 1) (num * 16 + zB c) (n + 1) num' n' q1 (by lia) (by rw [q3]; exact h)
    refine ⟨j + 1, by lia, by lia, ?_⟩
    rw [uc (t := qW5) (b := qVJ) (st2 := LX [some a, some (.int most), some (.int ((num * 16 + zB c : Nat) : Int)), some (.int ((n + 1 : Nat) : Int))] [] T (p + 1) tk rw) t1 ?_, g3, Nat.add_assoc, Nat.add_comm 1 j]
    unfold qVJ
    rw [qJ (st1 := LX [some a, some (.int most), some (.int ((num * 16 + zB c : Nat) : Int)), some (.int n)] [] T p tk rw)]
    ·rfl
    ·refine zE (u := .int ((num * 16 + zB c : Nat) : Int)) (st1 := LX [some a, some (.int most), some (.int num), some (.int n)] [] T p tk rw) ?_ rfl
     have hsm : small 16 = true := by decide
     exact op2 (f := bop .add) (op2 (f := bop .mul) (x := .int num) rfl x_c (if_pos (by rw [hsm, Bool.or_true]))) (zQ (ze (px1 hT hx ▸ jj) rfl) qJ3) rfl
   ·rw [if_neg hd] at h
    rw [decide_eq_false hd] at t1
    cases h
    exact ⟨0, rfl, hp, qD6 t1⟩
theorem qJ4 (hT : qk T) {least most num n : Nat} (hp : p ≤ T.length) (h : qGL most 0 0 (onX T p) = some (num, n)) :
  p + n ≤ T.length ∧ jG [.lex, .int least, .int most] (LG T p tk rw) = some (.ok (.int (if n < least then -1 else (num : Int))), LG T (p + n) tk rw) := by
 obtain ⟨j, g1, g2, g3⟩ := qI8 (tk := tk) (rw := rw) hT (a := .int least) (most := most) most p 0 0 num n hp (by lia) h
 rw [Nat.zero_add] at g1
 subst g1
 refine ⟨g2, ?_⟩
 have s1 : ∀ (z : Int) , qD (sIf (tE (qQ .lt (qC 4) (qC 1))) (qD (zL (eC (.int (-1)))) qK) qK) (qD (zL (qC 3)) qK) (LX [some (.int least), some (.int most), some (.int num), some (.int n)] [] T (p + n) tk rw) = some (.ret (.int z), LX [some (.int least), some (.int most), some (.int num), some (.int n)] [] T (p + n) tk rw) → jG [.lex, .int least, .int most] (LG T p tk rw) = some (.ok (.int z), LG T (p + n) tk rw) := by
  intro z hz
  refine zj (v := .int z) (st := LX [some (.int least), some (.int most), some (.int num), some (.int n)] [] T (p + n) tk rw) rfl ?_ rfl
  show uI (LX [some (.int least), some (.int most), none, none] [] T p tk rw) = _
  unfold uI
  rw [qJ (st1 := LX [some (.int least), some (.int most), some (.int 0), none] [] T p tk rw) rfl, qJ (st1 := LX [some (.int least), some (.int most), some (.int 0), some (.int 0)] [] T p tk rw) rfl]
  exact (qJ g3).trans hz
 have t0 : tE (qQ .lt (qC 4) (qC 1)) (LX [some (.int least), some (.int most), some (.int num), some (.int n)] [] T (p + n) tk rw) = some (decide ((n : Int) < (least : Int)), LX [some (.int least), some (.int most), some (.int num), some (.int n)] [] T (p + n) tk rw) := rfl
 by_cases hn : n < least
 ·rw [if_pos hn]
  rw [decide_eq_true (by lia)] at t0
  exact s1 (-1) (qz ((zM t0).trans rfl))
 ·rw [if_neg hn]
  rw [decide_eq_false (by lia)] at t0
  exact s1 num ((qJ ((qr t0).trans rfl)).trans rfl)
theorem qNF : ∀ {t : List (List Nat × List Nat)} {k v : List Nat}, yp t k = some v → (k, v) ∈ t
 | (a, b) :: r, k, v, h => by
  unfold yp at h
  by_cases q : a = k
  ·rw [if_pos q] at h; cases h; subst q; exact .head _
  ·rw [if_neg q] at h; exact .tail _ (qNF h)
theorem qNG : ∀ {t : List (List Nat × List Nat)} {k : List Nat}, yp t k = none → k ∉ t.map Prod.fst
 | [], k, h => by simp
 | (a, b) :: r, k, h => by
  unfold yp at h
  by_cases q : a = k
  ·rw [if_pos q] at h; cases h
  ·rw [if_neg q] at h
   have := qNG h
   simp only [List.map_cons, List.mem_cons, not_or]
   exact ⟨fun z => q z.symm, this⟩
theorem qIY : qv = t_LEX_ESCAPES.map Prod.fst := rfl
noncomputable def wW : SC := (qD (sIf (tOr (tE (qQ .lt (qC 3) (eC (.int 0)))) (tE (qQ .gt (qC 3) (eC (.int 1114111))))) (qD (qc (qO qp (qC 0) (qB (eC (.int 1009)) (qB (qC 1) (qB (qZ qI) qI)))))
 (qD (zL (eC (.str [])))
 qK)) qK)
 (qD (zL (qT zq (qB (qGG (qC 3)) qI)))
 qK))
theorem qK9 {n : Int} {w : PV} (h : n < 0 ∨ n > 1114111) (hr : rw.length < line) : wW (LX [some (.int p), some w, some (.int n)] [] T q tk rw) = some (.ret (.str []), LX [some (.int p), some w, some (.int n)] [] T q tk (rw ++ [qf (1009, p, [])])) := by
 have t0 : tOr (tE (qQ .lt (qC 3) (eC (.int 0)))) (tE (qQ .gt (qC 3) (eC (.int 1114111)))) (LX [some (.int p), some w, some (.int n)] [] T q tk rw) = some (decide (n < 0) || decide ((1114111 : Int) < n), LX [some (.int p), some w, some (.int n)] [] T q tk rw) := wK rfl rfl
 have : (decide (n < 0) || decide ((1114111 : Int) < n)) = true := by simpa using h
 rw [this] at t0
 unfold wW
 refine qz ((zM t0).trans ((qJ (yb (n := 1009) (m := p) rfl rfl uD rfl hr)).trans rfl))
theorem qHX (hc : c < E) (h : e st = some (.str [c], st)) : qT zq (qB e qI) st = some (.str (zC c), st) :=
 zQ (ze h rfl) ((zA rfl (qA5 (s := [c]) (fun d hd => List.mem_singleton.mp hd ▸ hc) (show 2 * 1 ≤ line by decide))).trans (congrArg (fun s => some (RV.ok (.str s), st)) (List.append_nil (zC c))))
theorem qN8 {n : Nat} {w : PV} (h : n < E) : wW (LX [some (.int p), some w, some (.int n)] [] T q tk rw) = some (.ret (.str (zC n)), LX [some (.int p), some w, some (.int n)] [] T q tk rw) := by
 have t0 : tOr (tE (qQ .lt (qC 3) (eC (.int 0)))) (tE (qQ .gt (qC 3) (eC (.int 1114111)))) (LX [some (.int p), some w, some (.int n)] [] T q tk rw) = some (decide ((n : Int) < 0) || decide ((1114111 : Int) < n), LX [some (.int p), some w, some (.int n)] [] T q tk rw) := wK rfl rfl
 have hE : n < 1114112 := h
 rw [decide_eq_false (by lia), decide_eq_false (by lia)] at t0
 unfold wW
 rw [qJ ((qr t0).trans rfl)]
 refine qz (jI ?_)
 exact qHX h (op1 (f := qPS) rfl (qK2 (Nat.le_of_lt_succ h)))
theorem qD3 (n : Nat) : (zC n).length ≤ 2 := by
 unfold zC
 by_cases q : n > 65535
 ·rw [if_pos q]; simp
 ·rw [if_neg q]; simp
theorem qUA {a b : EC} {y z : PV} (hy : y.clean = true) (hz : z.clean = true) (ha : a (LX v ls T p tk rw) = some (y, LX v ls T p tk rw)) (hb : b (LX v ls T p tk rw) = some (z, LX v ls T p tk rw)) (h : f [.lex, y, z] (LG T p tk rw) = some (.ok u, LG T q tk' rw')) : qT f (qB (qC 0) (qB a (qB b qI))) (LX v ls T p tk rw) = some (u, LX v ls T q tk' rw') := zQ (ze qPC (ze ha (ze hb rfl))) (zA (jo rfl (jo hy (jo hz rfl))) h)
noncomputable def qIW : SC := (sIf (tE (qQ .eq (qC 2) (eC (.str [117])))) (qD (qq (qC 0) (eC (.int 1)))
 (qD (qV 3 (qT jG (qB (qC 0) (qB (eC (.int 4)) (qB (eC (.int 4)) qI)))))
 qK)) (qD (sIf (tE (qQ .eq (qC 2) (eC (.str [120])))) (qD (qq (qC 0) (eC (.int 1)))
 (qD (qV 3 (qT jG (qB (qC 0) (qB (eC (.int 1)) (qB (eC (.int 4)) qI)))))
 qK)) (qD (sIf (tE (qQ .eq (qC 2) (eC (.str [85])))) (qD (qq (qC 0) (eC (.int 1)))
 (qD (qV 3 (qT jG (qB (qC 0) (qB (eC (.int 8)) (qB (eC (.int 8)) qI)))))
 qK)) (qD (sIf (zb (tE (qQ .ne (qC 2) (eC (.str [])))) (ve (tE (qT qn (qB (qC 2) qI))))) (qD (qq (qC 0) (eC (.int 1)))
 qK) qK)
 qK))
 qK))
 qK))
@[elab_as_elim] theorem escape_elim {c : Nat} {r : List Nat} {P : List Nat × Bool × Nat → Prop} {z : List Nat × Bool × Nat} (h : j0 (92 :: c :: r) = some z) (h1 : ∀ w, yp t_LEX_ESCAPES (sg c) = some w → P (w, false, 2)) (h2 : sg c ∉ qv → c = 117 → vy 4 4 2 r = some z → P z) (h3 : sg c ∉ qv → c ≠ 117 → c = 120 → vy 1 4 2 r = some z → P z)
  (h4 : sg c ∉ qv → c ≠ 117 → c ≠ 120 → c = 85 → vy 8 8 2 r = some z → P z) (h5 : sg c ∉ qv → c ≠ 117 → c ≠ 120 → c ≠ 85 → P ([], true, if c = E ∨ qh c = true then 1 else 2)) : P z := by
 unfold j0 at h
 dsimp only at h
 cases ht : yp t_LEX_ESCAPES (sg c) with
 | some w => rw [ht] at h; exact Option.some.inj h ▸ h1 w ht
 | none =>
  have hk : sg c ∉ qv := qIY ▸ qNG ht
  rw [ht] at h
  by_cases c1 : c = 117
  ·exact h2 hk c1 (ifp c1 h)
  replace h := ifn c1 h
  by_cases c2 : c = 120
  ·exact h3 hk c1 c2 (ifp c2 h)
  replace h := ifn c2 h
  by_cases c3 : c = 85
  ·exact h4 hk c1 c2 c3 (ifp c3 h)
  replace h := ifn c3 h
  have h5 := h5 hk c1 c2 c3
  by_cases c4 : c = E ∨ qh c = true
  ·rw [if_pos c4] at h5; exact Option.some.inj (ifp c4 h) ▸ h5
  ·rw [if_neg c4] at h5; exact Option.some.inj (ifn c4 h) ▸ h5
noncomputable def qHZ (p : Nat) (T : List Nat) (tk rw : List PV) (z : List Nat × Bool × Nat) : Prop := 1 ≤ z.2.2 ∧ p + z.2.2 ≤ T.length ∧ z.1.length ≤ 2 ∧ jD [.lex] (LG T p tk rw) = some (.ok (.str z.1), LG T (p + z.2.2) tk (rw ++ (zg z.2.1 p).map qf))
noncomputable abbrev ES (p c : Nat) (n : Option PV) (T : List Nat) (q : Nat) (tk rw : List PV) : St := LX [some (.int p), some (.str (sg c)), n] [] T q tk rw
section
variable {x r : List Nat} {n : Option PV} {z : List Nat × Bool × Nat} {j : Nat}
theorem qIX (hT : qk T) (q3 : onX T (p + 1) = c :: r) : gm (LX [none, none, none] [] T p tk rw) = qD (sIf (tE (eIn qv (qC 2))) (qD (qq (qC 0) (eC (.int 1))) (qD (zL (qVB t_LEX_ESCAPES (qC 2))) qK)) qK) (qD (qV 3 (eC (.int (-1)))) (qD qIW wW)) (ES p c none T (p + 1) tk rw) :=
 (qJ (st1 := LX [some (.int p), none, none] [] T p tk rw) rfl).trans ((qJ yD).trans (qJ (st1 := ES p c none T (p + 1) tk rw) (zE jj (by rw [px1 hT q3]; rfl))))
theorem es_in : tE (eIn qv (qC 2)) (ES p c n T q tk rw) = some (decide (sg c ∈ qv), ES p c n T q tk rw) := rfl
theorem qP7 (hT : qk T) (q3 : onX T (p + 1) = c :: r) (hk : sg c ∉ qv) {n : Int} (h1 : qIW (ES p c (some (.int (-1))) T (p + 1) tk rw) = some (.nxt, ES p c (some (.int n)) T (p + j) tk rw)) : gm (LX [none, none, none] [] T p tk rw) = wW (ES p c (some (.int n)) T (p + j) tk rw) :=
 (qIX hT q3).trans ((qJ ((qr (es_in.trans (by rw [decide_eq_false hk]))).trans rfl)).trans ((qJ (st1 := ES p c (some (.int (-1))) T (p + 1) tk rw) rfl).trans (qJ h1)))
theorem qK8 (hT : qk T) (q3 : onX T (p + 1) = c :: r) (hk : sg c ∉ qv) {n : Int} (h1 : qIW (ES p c (some (.int (-1))) T (p + 1) tk rw) = some (.nxt, ES p c (some (.int n)) T (p + j) tk rw)) (hn : n < 0 ∨ n > 1114111) (hj : 1 ≤ j) (hp : p + j ≤ T.length) (hr : rw.length + (zg true p).length ≤ line) : qHZ p T tk rw ([], true, j) :=
 ⟨hj, hp, Nat.zero_le _, zj (v := .str []) (st := LX [some (.int p), some (.str (sg c)), some (.int n)] [] T (p + j) tk (rw ++ [qf (1009, p, [])])) rfl ((qP7 hT q3 hk h1).trans (qK9 hn hr)) rfl⟩
theorem qS4 (hT : qk T) (q3 : onX T (p + 1) = c :: r) (hk : sg c ∉ qv) {m : Nat} (h1 : qIW (ES p c (some (.int (-1))) T (p + 1) tk rw) = some (.nxt, ES p c (some (.int m)) T (p + j) tk rw)) (hm : m < E) (hj : 1 ≤ j) (hp : p + j ≤ T.length) : qHZ p T tk rw (zC m, false, j) :=
 ⟨hj, hp, qD3 m, (zj (v := .str (zC m)) (st := ES p c (some (.int m)) T (p + j) tk rw) rfl ((qP7 hT q3 hk h1).trans (qN8 hm)) rfl).trans (by rw [show (zg false p).map qf = [] from rfl, List.append_nil]; rfl)⟩
theorem qLA (hT : qk T) (q3 : onX T (p + 1) = c :: r) (hk : sg c ∉ qv) (hE : c ≠ E) {least most : Nat} (he : vy least most 2 r = some z) (hs : qIW (ES p c (some (.int (-1))) T (p + 1) tk rw) = qD (qq (qC 0) (eC (.int 1))) (qD (qV 3 (qT jG (qB (qC 0) (qB (eC (.int least)) (qB (eC (.int most)) qI))))) qK) (ES p c (some (.int (-1))) T (p + 1) tk rw))
  (hr : rw.length + (zg z.2.1 p).length ≤ line) : qHZ p T tk rw z := by
 have p3 := onN hT q3 hE
 unfold vy at he
 cases hh : qGL most 0 0 r with
 | none => rw [hh] at he; exact qH he
 | some y =>
  rw [hh] at he
  rw [← p3.2.2] at hh
  have g := qJ4 (tk := tk) (rw := rw) (least := least) hT p3.1 (num := y.1) (n := y.2) hh
  have ej : p + 1 + 1 + y.2 = p + (2 + y.2) := by lia
  rw [ej] at g
  have h1 : qIW (ES p c (some (.int (-1))) T (p + 1) tk rw) = some (.nxt, ES p c (some (.int (if y.2 < least then -1 else (y.1 : Int)))) T (p + (2 + y.2)) tk rw) :=
   hs.trans ((qJ yD).trans ((qJ (st1 := ES p c (some (.int (if y.2 < least then -1 else (y.1 : Int)))) T (p + (2 + y.2)) tk rw) (zE (qUA rfl rfl x_c x_c g.2) rfl)).trans rfl))
  replace he := Option.some.inj he
  have hj : 1 ≤ 2 + y.2 := Nat.le_trans (by decide) (Nat.le_add_right 2 _)
  by_cases q : y.2 < least ∨ y.1 > 1114111
  ·replace he := ifp q he
   subst he
   refine qK8 hT q3 hk h1 ?_ hj g.1 hr
   by_cases q2 : y.2 < least
   ·rw [if_pos q2]; exact .inl (by decide)
   ·rw [if_neg q2]; exact .inr (by have := q.resolve_left q2; lia)
  ·replace he := ifn q he
   subst he
   rw [if_neg fun z => q (.inl z)] at h1
   exact qS4 hT q3 hk h1 (Nat.lt_succ_of_le (Nat.le_of_not_lt fun z => q (.inr z))) hj g.1
theorem qVE (h : c = 117) : qIW (ES p c n T q tk rw) = qD (qq (qC 0) (eC (.int 1))) (qD (qV 3 (qT jG (qB (qC 0) (qB (eC (.int 4)) (qB (eC (.int 4)) qI))))) qK) (ES p c n T q tk rw) := zM ((vN (by decide) rfl).trans (by rw [decide_eq_true h]))
theorem qE4 {a b : SC} {w : Nat} (hw : w ≠ E) (h : c ≠ w) : sIf (tE (qQ .eq (qC 2) (eC (.str [w])))) a b (ES p c n T q tk rw) = b (ES p c n T q tk rw) := qr ((vN hw rfl).trans (by rw [decide_eq_false h]))
theorem qP8 {a b : SC} {w : Nat} (hw : w ≠ E) (h : c = w) : sIf (tE (qQ .eq (qC 2) (eC (.str [w])))) a b (ES p c n T q tk rw) = a (ES p c n T q tk rw) := zM ((vN hw rfl).trans (by rw [decide_eq_true h]))
theorem qWX (h1 : c ≠ 117) (h2 : c ≠ 120) (h3 : c ≠ 85) : qIW (ES p c n T q tk rw) = some (.nxt, ES p c n T (if c = E ∨ qh c = true then q else q + 1) tk rw) := by
 have tl : zb (tE (qQ .ne (qC 2) (eC (.str [])))) (ve (tE (qT qn (qB (qC 2) qI)))) (ES p c n T q tk rw) = some (!decide (c = E) && !qh c, ES p c n T q tk rw) :=
  jn (zl (z0 (st1 := ES p c n T q tk rw) rfl x_c qMO)) (qEB (zl (zQ (ze (v := .str (sg c)) rfl rfl) qDI)))
 refine (qE4 (by decide) h1).trans (seq_nil.trans ((qE4 (by decide) h2).trans (seq_nil.trans ((qE4 (by decide) h3).trans (seq_nil.trans ?_)))))
 by_cases hl : c = E ∨ qh c = true
 ·rw [if_pos hl]
  exact (qr (tl.trans (by rw [show (!decide (c = E) && !qh c) = false from by rcases hl with z | z <;> simp [z]]))).trans rfl
 ·rw [if_neg hl]
  exact (zM (tl.trans (by rw [show (!decide (c = E) && !qh c) = true from by simpa using hl]))).trans ((qJ yD).trans rfl)
end
theorem qS6 : ∀ z ∈ t_LEX_ESCAPES, z.2.length ≤ 2 := by decide
theorem qS5 : sg E ∉ qv := by decide
theorem qDJ (hT : qk T) {c : Nat} {r : List Nat} {z : List Nat × Bool × Nat} (q1 : p + 1 ≤ T.length) (q3 : onX T (p + 1) = c :: r) (h : j0 (92 :: c :: r) = some z) : rw.length + (zg z.2.1 p).length ≤ line → qHZ p T tk rw z :=
 escape_elim (P := fun z => rw.length + (zg z.2.1 p).length ≤ line → qHZ p T tk rw z) h (fun w ht _ => by
   have hm := qNF ht
   have hk : sg c ∈ qv := qIY ▸ List.mem_map_of_mem (f := Prod.fst) hm
   refine ⟨Nat.le_succ 1, (onN hT q3 fun q => qS5 (q ▸ hk)).1, qS6 _ hm, zj (v := .str w) (st := ES p c none T (p + 2) tk (rw ++ [])) rfl ((qIX hT q3).trans ?_) rfl⟩
   rw [List.append_nil]
   exact qz ((zM (es_in.trans (by rw [decide_eq_true hk]))).trans ((qJ yD).trans (qz (jI (op1 (f := qXN t_LEX_ESCAPES) (x := .str (sg c)) rfl (congrArg (Option.map PV.str) ht))))))
  ) (fun hk h1 he => qLA hT q3 hk (h1 ▸ by decide) he (qVE h1)) (fun hk h0 h1 he => qLA hT q3 hk (h1 ▸ by decide) he ((qE4 (by decide) h0).trans (seq_nil.trans (qP8 (by decide) h1))))
  (fun hk h0 h2 h1 he => qLA hT q3 hk (h1 ▸ by decide) he ((qE4 (by decide) h0).trans (seq_nil.trans ((qE4 (by decide) h2).trans (seq_nil.trans (qP8 (by decide) h1))))))
  fun hk h0 h2 h1 hr => by
   have t := qWX (p := p) (n := some (.int (-1))) (T := T) (q := p + 1) (tk := tk) (rw := rw) h0 h2 h1
   by_cases hl : c = E ∨ qh c = true
   ·rw [if_pos hl] at t ⊢
    exact qK8 hT q3 hk t (.inl (by decide)) (Nat.le_refl _) q1 hr
   ·rw [if_neg hl] at t ⊢
    exact qK8 (j := 2) hT q3 hk t (.inl (by decide)) (by decide) (onN hT q3 fun q => hl (.inl q)).1 hr
theorem gJ (hT : qk T) {x v : List Nat} {bad : Bool} {j : Nat} (hx : onX T p = 92 :: x) (h : j0 (92 :: x) = some (v, bad, j)) (hr : rw.length + (zg bad p).length ≤ line) :
  1 ≤ j ∧ p + j ≤ T.length ∧ v.length ≤ 2 ∧ jD [.lex] (LG T p tk rw) = some (.ok (.str v), LG T (p + j) tk (rw ++ (zg bad p).map qf)) := by
 have q := onN hT hx (by decide)
 cases x with
 | nil => exact qH h
 | cons c r => exact qDJ (z := (v, bad, j)) hT q.1 q.2.2 h hr
end
@[elab_as_elim] theorem textLen_elim {n k : Nat} {x acc : List Nat} {rows : List Row} {P : List Nat × List Row × Nat → Prop} {z : List Nat × List Row × Nat} (h : zK (n + 1) k x acc rows = some z) (h1 : ∀ r, x = 34 :: r → P (acc, rows, k + 1)) (h2 : ∀ c r, x = c :: r → c ≠ 34 → c = E ∨ qh c = true → P (acc, rows ++ [(1010, 0, [])], k))
  (h3 : ∀ r v b j, x = 92 :: r → j0 x = some (v, b, j) → zK n (k + j) (x.drop j) (acc ++ v) (rows ++ zg b k) = some z → P z) (h4 : ∀ c r, x = c :: r → c ≠ 34 → ¬ (c = E ∨ qh c = true) → c ≠ 92 → zK n (k + 1) r (acc ++ zC c) rows = some z → P z) : P z := by
 cases x with
 | nil => exact qH h
 | cons c r =>
  replace h := (kH ..).symm.trans h
  by_cases c1 : c = 34
  ·exact Option.some.inj (ifp c1 h) ▸ h1 r (by rw [c1])
  replace h := ifn c1 h
  by_cases c2 : c = E ∨ qh c = true
  ·exact Option.some.inj (ifp c2 h) ▸ h2 c r rfl c1 c2
  replace h := ifn c2 h
  by_cases c3 : c = 92
  ·replace h := ifp c3 h
   cases he : j0 (c :: r) with
   | none => rw [he] at h; exact qH h
   | some y => rw [he] at h; exact h3 r y.1 y.2.1 y.2.2 (by rw [c3]) he h
  ·exact h4 c r rfl c1 c2 c3 (ifn c3 h)
theorem vf : ∀ (n k : Nat) (x acc : List Nat) (rows : List Row) {z : List Nat × List Row × Nat}, zK n k x acc rows = some z → rows.length ≤ z.2.1.length
 | 0, k, x, acc, rows, z, h => qH h
 | n + 1, k, x, acc, rows, z, h => textLen_elim h (fun r _ => Nat.le_refl _) (fun c r _ _ _ => by rw [List.length_append]; exact Nat.le_add_right _ _) (fun r v b j _ _ h => Nat.le_trans (by rw [List.length_append]; exact Nat.le_add_right _ _) (vf n _ _ _ _ h)) fun c r _ _ _ _ h => vf n _ _ _ _ h
noncomputable def qSB : TC := (tE (qQ .ne (qO qM (qC 0) qI) (eC (.str [34]))))
noncomputable def qME : SC := (qD (qV 3 (qO qM (qC 0) qI))
 (qD (sIf (tOr (tE (qQ .eq (qC 3) (eC (.str [])))) (tE (qT qn (qB (qC 3) qI)))) (qD (qc (qO qp (qC 0) (qB (eC (.int 1010)) (qB (qC 1) (qB (qZ qI) qI)))))
 (qD qHG
 qK)) qK)
 (qD (sIf (tE (qQ .eq (qC 3) (eC (.str [92])))) (qD (qc (qw (qC 2) (qT jD (qB (qC 0) qI))))
 qK) (qD (qc (qw (qC 2) (qT zq (qB (qC 3) qI))))
 (qD (qq (qC 0) (eC (.int 1)))
 qK)))
 qK)))
noncomputable def qV8 : SC := (sIf (tE (qQ .eq (qO qM (qC 0) qI) (eC (.str [34])))) (qD (qq (qC 0) (eC (.int 1)))
 qK) qK)
section
variable {T : List Nat} {p q c d : Nat} {tk rw rw0 tk' rw' : List PV} {v : List (Option PV)} {ls : List (List PV)} {st st1 st2 : St} {u : PV} {f : Fn} {i : Nat} {e : EC}
noncomputable abbrev TX (p : Nat) (w : Option PV) (parts : List (List Nat)) (T : List Nat) (q : Nat) (tk rw : List PV) : St := LX [some (.int p), some (.lst (.loc 0)), w] [parts.map .str] T q tk rw
noncomputable def j5 (p : Nat) (rows : List Row) : List PV := rows.map fun q => qf (shR p q)
theorem qDN {a b : List Row} : j5 p (a ++ b) = j5 p a ++ j5 p b := List.map_append
noncomputable def TxOk (p : Nat) (T : List Nat) (tk rw0 : List PV) (z : List Nat × List Row × Nat) (S : St) : Prop := ∃ k2 parts w, parts.flatten = z.1 ∧ z.1.length ≤ 2 * z.2.2 ∧ p + z.2.2 ≤ T.length ∧ whileC qSB qME S = some (.nxt, TX p w parts T (p + k2) tk (rw0 ++ j5 p z.2.1)) ∧ qV8 (TX p w parts T (p + k2) tk (rw0 ++ j5 p z.2.1)) = some (.nxt, TX p w parts T (p + z.2.2) tk (rw0 ++ j5 p z.2.1))
theorem TxOk.step {z : List Nat × List Row × Nat} {S S' : St} (h : TxOk p T tk rw0 z S') (ht : qSB S = some (true, S)) (hb : qME S = some (.nxt, S')) : TxOk p T tk rw0 z S :=
 h.elim fun k2 h => h.elim fun parts h => h.elim fun w h => ⟨k2, parts, w, h.1, h.2.1, h.2.2.1, (uc ht hb).trans h.2.2.2.1, h.2.2.2.2⟩
section
variable {w : Option PV} {parts : List (List Nat)} {R : List PV} {x : List Nat}
theorem qNJ (hT : qk T) (hx : onX T q = c :: x) : qSB (TX p w parts T q tk R) = some (!decide (c = 34), TX p w parts T q tk R) := qNO (by decide) (px1 hT hx)
theorem qR9 (hT : qk T) (hx : onX T q = c :: x) (h : c ≠ 34) : qSB (TX p w parts T q tk R) = some (true, TX p w parts T q tk R) := (qNJ hT hx).trans (by rw [decide_eq_false h]; rfl)
theorem qXR (hT : qk T) (hx : onX T q = c :: x) : qV 3 (qO qM (qC 0) qI) (TX p w parts T q tk R) = some (.nxt, TX p (some (.str (sg c))) parts T q tk R) := zE jj (by rw [px1 hT hx]; rfl)
theorem tx_t1 : tOr (tE (qQ .eq (qC 3) (eC (.str [])))) (tE (qT qn (qB (qC 3) qI))) (TX p (some (.str (sg c))) parts T q tk R) = some (decide (c = E) || qh c, TX p (some (.str (sg c))) parts T q tk R) :=
 wK (zl (z0 (st1 := TX p (some (.str (sg c))) parts T q tk R) rfl x_c qWU)) (zl (zQ (ze (v := .str (sg c)) rfl rfl) qDI))
theorem qVN (hl : ¬ (c = E ∨ qh c = true)) : (decide (c = E) || qh c) = false := by simpa using hl
theorem qV7 (hT : qk T) (hx : onX T q = c :: x) (hl : c = E ∨ qh c = true) (hr : R.length < line) : qME (TX p w parts T q tk R) = some (.brk, TX p (some (.str (sg c))) parts T q tk (R ++ [.tup [.int 1010, .int p, .tup []]])) :=
 (qJ (qXR hT hx)).trans (qAY ((zM (tx_t1.trans (by rw [show (decide (c = E) || qh c) = true from by simpa using hl]))).trans ((qJ (yb (n := 1010) (m := p) rfl rfl uD rfl hr)).trans (qAY rfl))))
theorem qSA (hT : qk T) (hx : onX T q = c :: x) (hl : ¬ (c = E ∨ qh c = true)) : qME (TX p w parts T q tk R) = sIf (tE (qQ .eq (qC 3) (eC (.str [92])))) (qD (qc (qw (qC 2) (qT jD (qB (qC 0) qI)))) qK) (qD (qc (qw (qC 2) (qT zq (qB (qC 3) qI)))) (qD (qq (qC 0) (eC (.int 1))) qK)) (TX p (some (.str (sg c))) parts T q tk R) :=
 (qJ (qXR hT hx)).trans ((qJ ((qr (tx_t1.trans (by rw [qVN hl]))).trans rfl)).trans seq_nil)
theorem qD2 {e : EC} {v : List Nat} {q' : Nat} {R' : List PV} (he : e (TX p w parts T q tk R) = some (.str v, TX p w parts T q' tk R')) (hn : parts.length < line) : qc (qw (qC 2) e) (TX p w parts T q tk R) = some (.nxt, TX p w (parts ++ [v]) T q' tk R') :=
 (qD8 (L := parts.map .str) (st1 := TX p w parts T q' tk R') rfl he rfl rfl (by rw [List.length_map]; exact hn)).trans (by simp only [TX, LX, List.map_append]; rfl)
theorem qV9 (hT : qk T) {v : List Nat} {b : Bool} {j : Nat} (hx : onX T q = 92 :: x) (he : j0 (92 :: x) = some (v, b, j)) (hn : parts.length < line) (hr : R.length + (zg b q).length ≤ line) :
  qME (TX p w parts T q tk R) = some (.nxt, TX p (some (.str (sg 92))) (parts ++ [v]) T (q + j) tk (R ++ (zg b q).map qf)) :=
 (qSA hT hx (by decide)).trans ((zM (vN (c := 92) (d := 92) (by decide) rfl)).trans ((seq_nil).trans (qD2 (gf (gJ (tk := tk) (rw := R) hT hx he hr).2.2.2) hn)))
theorem qXS (hT : qk T) (hx : onX T q = c :: x) (hl : ¬ (c = E ∨ qh c = true)) (h92 : c ≠ 92) (hn : parts.length < line) : qME (TX p w parts T q tk R) = some (.nxt, TX p (some (.str (sg c))) (parts ++ [zC c]) T (q + 1) tk R) :=
 have hE : c ≠ E := fun q => hl (.inl q)
 have e2 : qT zq (qB (qC 3) qI) (TX p (some (.str (sg c))) parts T q tk R) = some (.str (zC c), TX p (some (.str (sg c))) parts T q tk R) :=
  qHX (hT.1 c (List.mem_of_getElem? (onN hT hx hE).2.1)) (vL hE ▸ rfl)
 (qSA hT hx hl).trans ((qr ((vN (by decide) rfl).trans (by rw [decide_eq_false h92]))).trans ((qJ (qD2 e2 hn)).trans ((qJ yD).trans rfl)))
theorem qR8 (hT : qk T) (hx : onX T q = c :: x) : qV8 (TX p w parts T q tk R) = some (.nxt, TX p w parts T (if c = 34 then q + 1 else q) tk R) := by
 have te := qNN (d := 34) (v := [some (.int p), some (.lst (.loc 0)), w]) (ls := [parts.map .str]) (tk := tk) (rw := R) (by decide) (px1 hT hx)
 by_cases h : c = 34
 ·rw [if_pos h]
  exact (zM (te.trans (by rw [decide_eq_true h]))).trans ((qJ yD).trans rfl)
 ·rw [if_neg h]
  exact (qr (te.trans (by rw [decide_eq_false h]))).trans rfl
end
theorem qNU {b : Bool} {k : Nat} : (zg b (p + k)).map qf = j5 p (zg b k) := by cases b <;> rfl
theorem qKU {b : Bool} {k k' : Nat} : (zg b k).length = (zg b k').length := by cases b <;> rfl
theorem qNT {b : Bool} {k : Nat} : ([] : List PV).length + (zg b k).length ≤ 1 := by cases b <;> exact Nat.le_of_ble_eq_true rfl
theorem ww (hT : qk T) {z : List Nat × List Row × Nat} (hr : rw0.length + z.2.1.length ≤ line) : ∀ (n k : Nat) (acc : List Nat) (rows : List Row) (parts : List (List Nat)) (w : Option PV), p + k ≤ T.length → parts.flatten = acc → parts.length ≤ k → acc.length ≤ 2 * k → zK n k (onX T (p + k)) acc rows = some z → TxOk p T tk rw0 z (TX p w parts T (p + k) tk (rw0 ++ j5 p rows))
 | 0, k, acc, rows, parts, w, hk, h1, h2, h3, h => qH h
 | n + 1, k, acc, rows, parts, w, hk, h1, h2, h3, h => by
  have hl : parts.length < line := Nat.lt_of_le_of_lt (Nat.le_trans h2 (Nat.le_trans (Nat.le_add_left k p) hk)) (by have := hT.2; lia)
  have hs : (j5 p rows).length = rows.length := List.length_map _
  have hrow := vf _ _ _ _ _ h
  revert hr hrow
  refine textLen_elim h (fun r hx hr hrow => ?_) (fun c r hx h34 he hr hrow => ?_) (fun r v b j hx he h hr hrow => ?_) fun c r hx h34 he h92 h hr hrow => ?_
  ·exact ⟨k, parts, w, h1, Nat.le_trans h3 (Nat.mul_le_mul_left 2 (Nat.le_succ k)), (onN hT hx (by decide)).1, qD6 ((qNJ hT hx).trans rfl), qR8 hT hx⟩
  ·have e : rw0 ++ j5 p (rows ++ [(1010, 0, [])]) = rw0 ++ j5 p rows ++ [.tup [.int 1010, .int p, .tup []]] := by rw [qDN, ← List.append_assoc]; rfl
   refine ⟨k, parts, some (.str (sg c)), h1, h3, hk, (qT9 (qR9 hT hx h34) (qV7 hT hx he ?_)).trans (by rw [e]), (qR8 hT hx).trans (by rw [if_neg h34])⟩
   rw [List.length_append, hs]
   rw [List.length_append] at hr
   exact hr
  ·have g := gJ (tk := tk) (rw := []) hT hx (hx ▸ he) (Nat.le_trans qNT (by decide))
   have g1 := g.1
   have g2 := g.2.1
   have g3 := g.2.2.1
   clear g
   have hrow2 := vf _ _ _ _ _ h
   rw [List.length_append] at hrow2
   refine TxOk.step ?_ (qR9 hT hx (by decide)) (qV9 hT hx (hx ▸ he) hl (by rw [List.length_append, hs, qKU (k' := k)]; lia))
   rw [qNU, List.append_assoc, ← qDN, Nat.add_assoc]
   rw [vK g2] at h
   exact ww hT hr n (k + j) (acc ++ v) (rows ++ zg b k) (parts ++ [v]) _ (by lia) (by rw [List.flatten_append, h1]; simp) (by simp; lia) (by simp; lia) (by rw [← Nat.add_assoc]; exact h)
  ·refine TxOk.step ?_ (qR9 hT hx h34) (qXS hT hx he h92 hl)
   have q := onN hT hx fun z => he (.inl z)
   exact ww hT hr n (k + 1) (acc ++ zC c) rows (parts ++ [zC c]) _ q.1 (by rw [List.flatten_append, h1]; simp) (by simp; exact h2) (by have := qD3 c; simp; lia) (by rw [← Nat.add_assoc, q.2.2]; exact h)
theorem qHF (hT : qk T) {x : List Nat} {n : Nat} {r : Res} (hx : onX T p = 34 :: x) (h : ya 0 (zK n 1 x [] []) = some (.ok r)) (hf : uE tk rw r) :
  dE [.lex] (LG T p tk rw) = some (.ok .none, aft T p tk rw r) ∧ p + r.k ≤ T.length := by
 have q := onN hT hx (by decide)
 cases hh : zK n 1 x [] [] with
 | none => rw [hh] at h; exact qH h
 | some z =>
  rw [hh] at h
  cases h
  rw [← q.2.2] at hh
  obtain ⟨k2, parts, w, f1, f2, f3, f4, f5⟩ := ww (tk := tk) (p := p) hT hf.2 n 1 [] [] [] none q.1 rfl (Nat.zero_le _) (Nat.zero_le _) hh
  rw [show j5 p [] = [] from rfl, List.append_nil] at f4
  have hj := qMG (st := TX p w parts T (p + z.2.2) tk (rw ++ j5 p z.2.1)) (e := qC 2) (l := parts) rfl rfl (by have := hT.2; rw [f1]; lia)
  rw [f1] at hj
  refine ⟨yE (st := TX p w parts T (p + z.2.2) (tk ++ [PV.tup [PV.int 4, PV.str z.1, PV.int p]]) (rw ++ j5 p z.2.1)) rfl ?_, f3⟩
  show qD _ (qD _ (qD _ (qD (whileC qSB qME) (qD qV8 _)))) (LX [none, none, none] [] T p tk rw) = _
  exact (qJ (st1 := LX [some (.int p), none, none] [] T p tk rw) rfl).trans ((qJ yD).trans ((qJ (st1 := TX p none [] T (p + 1) tk rw) rfl).trans ((qJ f4).trans ((qJ f5).trans (seq_nil.trans (qA7 (a := .int 4) (b := .str z.1) (n := p) rfl hj rfl rfl rfl hf.1))))))
end
end Mine
end
noncomputable section
open PySem PySem.W PySem.Calls PyProof.Rows
open Builtin.Str
set_option genInjectivity false
namespace Mine
theorem qDH {T : List Nat} (hT : qk T) : ∀ (x : List Nat) (q k : Nat) (acc : List Nat), onX T q = x → q ≤ T.length →
  (∃ i, zx T [34] q = some i ∧ q ≤ i ∧ i < T.length ∧ T[i]? = some 34 ∧ jB k x acc = jB (k + (i - q)) (onX T i) (acc ++ ((T.take i).drop q).flatMap zC)) ∨
  (zx T [34] q = none ∧ jB k x acc = some (acc ++ (T.drop q).flatMap zC, [(1039, 0, [])], k + (T.length - q)))
 | [], q, k, acc, hx, hq => by
  unfold onX at hx
  simp at hx
 | c :: y, q, k, acc, hx, hq => by
  rw [yC]
  by_cases hE : c = E
  ·rw [if_pos hE]
   subst hE
   right
   have hlen := onE hT hx hq
   subst hlen
   rw [jy (Nat.le_refl _), if_neg (fun z => by have := z.1; simp at this; lia), qAN]
   simp
  ·rw [if_neg hE]
   obtain ⟨q1, q2, q3⟩ := onN hT hx hE
   have hs : subAt ⟨T.toArray⟩ ⟨[34].toArray⟩ q = (T[q]? == some 34) := qO7 q1
   by_cases h34 : c = 34
   ·rw [if_pos h34]
    left
    subst h34
    refine ⟨q, ?_, Nat.le_refl _, q1, q2, ?_⟩
    ·rw [jy hq, if_pos ⟨q1, by rw [hs, q2]; rfl⟩]
    ·rw [hx, Nat.sub_self, Nat.add_zero]
     have : List.drop q (List.take q T) = [] := by
      rw [List.drop_eq_nil_iff, List.length_take]; exact Nat.min_le_left _ _
     rw [this]
     simp only [List.flatMap_nil, List.append_nil]
     rw [yC, if_neg hE, if_pos rfl]
   ·rw [if_neg h34]
    have h1 : zx T [34] q = zx T [34] (q + 1) := by
     rw [jy hq, if_neg ?_]
     rintro ⟨_, z⟩
     rw [hs, q2] at z
     exact h34 (by simpa using z)
    rw [h1]
    have hTq : T[q] = c := by
     rw [List.getElem?_eq_getElem q1] at q2
     exact Option.some.inj q2
    rcases qDH hT y (q + 1) (k + 1) (acc ++ zC c) q3 q1 with ⟨i, a1, a2, a3, a4, a5⟩ | ⟨a1, a2⟩
    ·left
     refine ⟨i, a1, by lia, a3, a4, ?_⟩
     rw [a5, show k + 1 + (i - (q + 1)) = k + (i - q) by lia]
     have : List.drop q (List.take i T) = c :: List.drop (q + 1) (List.take i T) := by
      rw [List.drop_eq_getElem_cons (by rw [List.length_take]; lia), List.getElem_take, hTq]
     rw [this, List.flatMap_cons, List.append_assoc]
    ·right
     refine ⟨a1, ?_⟩
     rw [a2, List.drop_eq_getElem_cons q1, hTq, List.flatMap_cons, List.append_assoc, show k + 1 + (T.length - (q + 1)) = k + (T.length - q) by lia]
noncomputable def qT6 : SC := (qD (qV 3 (qE1 (qg (qC 0) .text) (eC (.str [34])) (qg (qC 0) .at)))
 (qD (sIf (tE (qQ .lt (qC 3) (eC (.int 0)))) (qD (qc (qw (qC 2) (jk (qg (qC 0) .text) (qg (qC 0) .at))))
 (qD (qc (qO qp (qC 0) (qB (eC (.int 1039)) (qB (qC 1) (qB (qZ qI) qI)))))
 (qD (u0 (qC 0) (zn (qg (qC 0) .text)))
 (qD qHG
 qK)))) qK)
 (qD (qc (qw (qC 2) (yt (qg (qC 0) .text) (qg (qC 0) .at) (qC 3))))
 (qD (u0 (qC 0) (qY .add (qC 3) (eC (.int 1))))
 (qD (sIf (tE (qQ .ne (qO qM (qC 0) qI) (eC (.str [34])))) (qD qHG
 qK) qK)
 (qD (qc (qw (qC 2) (eC (.str [34]))))
 (qD (qq (qC 0) (eC (.int 1)))
 qK)))))))
section
variable {T : List Nat} {p q c d : Nat} {tk rw rw0 tk' rw' : List PV} {v : List (Option PV)} {ls : List (List PV)} {st st1 st2 : St} {u : PV} {f : Fn} {i : Nat} {e : EC}
structure VbI (k : Nat) (acc : List Nat) (parts : List (List Nat)) : Prop where
 acc : parts.flatten.flatMap zC = acc
 flat : parts.flatten.length ≤ k
 ok : ∀ c ∈ parts.flatten, c < E
theorem VbI.add {k m : Nat} {acc ch : List Nat} {parts : List (List Nat)} (h : VbI k acc parts) (hc : ∀ c ∈ ch, c < E) (hm : ch.length ≤ m) : VbI (k + m) (acc ++ ch.flatMap zC) (parts ++ [ch]) :=
 have e : (parts ++ [ch]).flatten = parts.flatten ++ ch := by simp
 ⟨by rw [e, List.flatMap_append, h.acc], by rw [e, List.length_append]; exact Nat.add_le_add h.flat hm, fun c hx => (List.mem_append.mp (e ▸ hx)).elim (h.ok c) (hc c)⟩
noncomputable def VOk (p : Nat) (T : List Nat) (tk rw : List PV) (z : List Nat × List Row × Nat) (S : St) : Prop := ∃ parts w, VbI z.2.2 z.1 parts ∧ p + z.2.2 ≤ T.length ∧ whileC (tE (eC (.bool true))) qT6 S = some (.nxt, TX p w parts T (p + z.2.2) tk (rw ++ j5 p z.2.1))
section
variable {w : Option PV} {parts : List (List Nat)} {x : List Nat}
theorem qNM {o : Option Nat} (hk : q ≤ T.length) (ho : zx T [34] q = o) : qV 3 (qE1 (qg (qC 0) .text) (eC (.str [34])) (qg (qC 0) .at)) (TX p w parts T q tk rw) = some (.nxt, TX p (some (.int (qDE o))) parts T q tk rw) := zE (op3 (f := qQE) qEC x_c qHT (congrArg (fun i => some (PV.int i)) (ho ▸ qI1 (y := [34]) hk))) rfl
theorem qT7 (hk : q ≤ T.length) (hl : parts.length < line) (hr : rw.length < line) (b1 : zx T [34] q = none) : qT6 (TX p w parts T q tk rw) = some (.brk, TX p (some (.int (-1))) (parts ++ [T.drop q]) T T.length tk (rw ++ j5 p [(1039, 0, [])])) :=
 have e1 : jk (qg (qC 0) .text) (qg (qC 0) .at) (TX p (some (.int (-1))) parts T q tk rw) = some (.str (T.drop q), TX p (some (.int (-1))) parts T q tk rw) :=
  op2 (f := wG) qEC qHT (congrArg (fun n => some (PV.str (T.drop n))) (wR hk))
 (qJ (qNM hk b1)).trans (qAY ((zM (st1 := TX p (some (.int (-1))) parts T q tk rw) rfl).trans ((qJ (qD2 e1 hl)).trans ((qJ (yb (n := 1039) (m := p) rfl rfl uD rfl hr)).trans rfl))))
theorem qWF (hT : qk T) {ch : List Nat} (hk : q ≤ T.length) (hl : parts.length + 1 < line) (b1 : zx T [34] q = some i) (b3 : i < T.length) (hch : (T.take i).drop q = ch) {d : Nat} {x : List Nat} (hx : onX T (i + 1) = d :: x) :
  qT6 (TX p w parts T q tk rw) = if d = 34 then some (.nxt, TX p (some (.int i)) (parts ++ [ch] ++ [[34]]) T (i + 2) tk rw) else some (.brk, TX p (some (.int i)) (parts ++ [ch]) T (i + 1) tk rw) := by
 have e1 : yt (qg (qC 0) .text) (qg (qC 0) .at) (qC 3) (TX p (some (.int i)) parts T q tk rw) = some (.str ch, TX p (some (.int i)) parts T q tk rw) := by
  exact op3 (f := qBS) (z := .int i) qEC qHT rfl (by
   show some (PV.str ((T.take (zD T.length i)).drop (zD T.length q))) = _
   rw [wR hk, wR (Nat.le_of_lt b3), hch])
 have t1 : tE (qQ .lt (qC 3) (eC (.int 0))) (TX p (some (.int i)) parts T q tk rw) = some (decide ((i : Int) < 0), TX p (some (.int i)) parts T q tk rw) := rfl
 have t2 : tE (qQ .ne (qO qM (qC 0) qI) (eC (.str [34]))) (TX p (some (.int i)) (parts ++ [ch]) T (i + 1) tk rw) = some (!decide (d = 34), TX p (some (.int i)) (parts ++ [ch]) T (i + 1) tk rw) := qNO (by decide) (px1 hT hx)
 refine (qJ (qNM hk b1)).trans ((qJ ((qr (t1.trans (by rw [decide_eq_false (by lia)]))).trans rfl)).trans ((qJ (qD2 e1 (Nat.lt_of_succ_lt hl))).trans ((qJ (st1 := TX p (some (.int i)) (parts ++ [ch]) T (i + 1) tk rw) rfl).trans ?_)))
 by_cases h : d = 34
 ·rw [if_pos h]
  exact (qJ ((qr (t2.trans (by rw [decide_eq_true h]; rfl))).trans rfl)).trans ((qJ (qD2 x_c (by rw [List.length_append]; exact hl))).trans ((qJ yD).trans rfl))
 ·rw [if_neg h]
  exact qAY ((zM (t2.trans (by rw [decide_eq_false h]; rfl))).trans (qAY rfl))
end
theorem qFZ (hT : qk T) {z : List Nat × List Row × Nat} (hr : rw.length + z.2.1.length ≤ line) : ∀ (n k : Nat) (acc : List Nat) (parts : List (List Nat)) (w : Option PV), T.length - (p + k) < n → p + k ≤ T.length → VbI k acc parts → parts.length ≤ k → jB k (onX T (p + k)) acc = some z → VOk p T tk rw z (TX p w parts T (p + k) tk rw)
 | 0, k, acc, parts, w, hm, hk, h1, hp, h => absurd hm (Nat.not_lt_zero _)
 | n + 1, k, acc, parts, w, hm, hk, h1, hp, h => by
  have hl : parts.length + 1 < line := Nat.lt_of_le_of_lt (Nat.succ_le_succ (Nat.le_trans hp (Nat.le_trans (Nat.le_add_left k p) hk))) (by have := hT.2; have h4 : 4 ≤ line := Nat.le_of_ble_eq_true rfl; lia)
  rcases qDH hT _ (p + k) k acc rfl hk with b | b
  ·obtain ⟨i, b1, b2, b3, b4, b5⟩ := b
   have hik : p + (k + (i - (p + k))) = i := by rw [← Nat.add_assoc]; exact Nat.add_sub_cancel' b2
   have hchl : ((T.take i).drop (p + k)).length ≤ i - (p + k) := by rw [List.length_drop, List.length_take]; exact Nat.sub_le_sub_right (Nat.min_le_left _ _) _
   have hche : ∀ c ∈ (T.take i).drop (p + k), c < E := fun c hc => hT.1 c (List.mem_of_mem_take (List.mem_of_mem_drop hc))
   have h2 := h1.add (m := i - (p + k) + 1) hche (Nat.le_succ_of_le hchl)
   rw [b5] at h
   generalize hK : i - (p + k) = K at *
   cases hx : onX T i with
   | nil => rw [hx] at h; exact qH h
   | cons c y =>
    have hc : c = 34 := by
     have q := dj hT (T := T) (p := i) (n := 0) (c := c) (by rw [hx]; rfl)
     unfold jf at q
     rw [Nat.add_zero, b4] at q
     exact (qL5 (by decide)).mp q.symm
    have q3 := onN hT hx (hc ▸ by decide)
    rw [hx, yC] at h
    replace h := ifp hc (ifn (by rw [hc]; decide) h)
    cases y with
    | nil => exact qH h
    | cons d y =>
     have hb := qWF (p := p) (w := w) (parts := parts) (tk := tk) (rw := rw) hT hk hl b1 b3 rfl q3.2.2
     by_cases d34 : d = 34
     ·rw [if_pos d34] at hb
      have e : p + (k + (K + 1) + 1) = i + 2 := by rw [← hik]; rfl
      have p3 := onN hT q3.2.2 (d34 ▸ by decide)
      have := qFZ hT hr n (k + (K + 1) + 1) _ _ (some (.int i)) (by rw [e]; lia) (by rw [e]; exact p3.1) (h2.add (m := 1) (ch := [34]) (fun c hc => List.mem_singleton.mp hc ▸ by decide) (Nat.le_refl 1)) (by rw [List.length_append, List.length_append]; exact Nat.succ_le_succ (Nat.add_le_add hp (Nat.le_add_left 1 _))) (by rw [e, p3.2.2]; exact ifp d34 h)
      rw [e] at this
      exact this.elim fun parts h => h.elim fun w h => ⟨parts, w, h.1, h.2.1, (uc rfl hb).trans h.2.2⟩
     ·rw [if_neg d34] at hb
      have := Option.some.inj (ifn d34 h)
      subst this
      have e : p + (k + (K + 1)) = i + 1 := by rw [← hik]; rfl
      exact ⟨_, some (.int i), h2, e.symm ▸ q3.1, (qT9 rfl hb).trans (by rw [show p + (k + K + 1) = i + 1 from e, show j5 p [] = [] from rfl, List.append_nil])⟩
  ·have := Option.some.inj (b.2.symm.trans h)
   subst this
   have e : p + (k + (T.length - (p + k))) = T.length := by rw [← Nat.add_assoc]; exact Nat.add_sub_cancel' hk
   exact ⟨_, some (.int (-1)), h1.add (fun c hc => hT.1 c (List.mem_of_mem_drop hc)) (Nat.le_of_eq List.length_drop), Nat.le_of_eq e, (qT9 rfl (qT7 hk (Nat.lt_of_succ_lt hl) hr b.1)).trans (by rw [e])⟩
theorem wo (hT : qk T) {x : List Nat} {r : Res} (hx : onX T p = 64 :: 34 :: x) (h : ya 0 (jB 2 x []) = some (.ok r)) (hf : uE tk rw r) :
  vR [.lex] (LG T p tk rw) = some (.ok .none, aft T p tk rw r) ∧ p + r.k ≤ T.length := by
 have p3 := onN hT (onN hT hx (by decide)).2.2 (by decide)
 have hTl := hT.2
 cases hh : jB 2 x [] with
 | none => rw [hh] at h; exact qH h
 | some z =>
  rw [hh] at h
  cases h
  rw [← p3.2.2] at hh
  obtain ⟨parts, w, f1, f3, f5⟩ := qFZ (tk := tk) (rw := rw) (p := p) hT hf.2 _ 2 [] [] none (Nat.lt_succ_self _) p3.1 ⟨rfl, Nat.zero_le _, fun c h => absurd h List.not_mem_nil⟩ (Nat.zero_le _) hh
  have hfl := f1.flat
  have hj := qMG (st := TX p w parts T (p + z.2.2) tk (rw ++ j5 p z.2.1)) (e := qC 2) (l := parts) rfl rfl (by lia)
  have hu := qA5 (s := parts.flatten) (g := LG T (p + z.2.2) tk (rw ++ j5 p z.2.1)) f1.ok (by lia)
  rw [f1.acc] at hu
  refine ⟨yE (st := TX p w parts T (p + z.2.2) (tk ++ [PV.tup [PV.int 4, PV.str z.1, PV.int p]]) (rw ++ j5 p z.2.1)) rfl ?_, f3⟩
  show qD _ (qD _ (qD _ (qD (whileC (tE (eC (.bool true))) qT6) _))) (LX [none, none, none] [] T p tk rw) = _
  refine (qJ (st1 := LX [some (.int p), none, none] [] T p tk rw) rfl).trans ((qJ qXX).trans ((qJ (st1 := TX p none [] T (p + 2) tk rw) rfl).trans ((qJ f5).trans (seq_nil.trans (qA7 (a := .int 4) (b := .str z.1) (n := p) rfl ?_ rfl rfl rfl hf.1)))))
  exact zQ (ze hj rfl) (zA rfl hu)
end
end Mine
end
noncomputable section
open PySem PySem.W PySem.Calls PyProof.Rows
set_option genInjectivity false
namespace Mine
noncomputable def qO1 : TC := (zb (tE (qQ .ne (qO qM (qC 0) qI) (eC (.str [39])))) (zb (tE (qQ .ne (qO qM (qC 0) qI) (eC (.str [])))) (ve (tE (qT qn (qB (qO qM (qC 0) qI) qI))))))
noncomputable def qRV : SC := (sIf (zb (tE (qQ .eq (qO qM (qC 0) qI) (eC (.str [92])))) (zb (tE (qQ .ne (qO qe (qC 0) (qB (eC (.int 1)) qI)) (eC (.str [])))) (ve (tE (qT qn (qB (qO qe (qC 0) (qB (eC (.int 1)) qI)) qI)))))) (qD (qq (qC 0) (eC (.int 1)))
 qK) qK)
noncomputable def qRU : SC := (qD qRV
 (qD (qq (qC 0) (eC (.int 1)))
 (qD (j3 .add 1 (eC (.int 1)))
 qK)))
section
variable {T : List Nat} {p q c d : Nat} {tk rw rw0 tk' rw' : List PV} {v : List (Option PV)} {ls : List (List PV)} {st st1 st2 : St} {u : PV} {f : Fn} {i : Nat} {e : EC}
theorem qWI {e : EC} (h : e st = some (.str (sg c), st)) : zb (tE (qQ .ne e (eC (.str [])))) (ve (tE (qT qn (qB e qI)))) st = some (!decide (c = E ∨ qh c = true), st) := (jn (zl (z0 h x_c qMO)) (qEB (zl (zQ (ze h rfl) qDI)))).trans (by
 by_cases h1 : c = E <;> cases qh c <;> simp [h1])
theorem qFY (hT : qk T) : ∀ (n cnt k q : Nat) (cnt' k' : Nat), q ≤ T.length → jS n cnt k (onX T q) = some (cnt', k') →
  ∃ m, k' = k + m ∧ q + m ≤ T.length ∧ whileC qO1 qRU (LX [some (.int cnt)] [] T q tk rw) = some (.nxt, LX [some (.int cnt')] [] T (q + m) tk rw)
 | 0, cnt, k, q, cnt', k', hq, h => by cases h
 | n + 1, cnt, k, q, cnt', k', hq, h => by
  cases hx : onX T q with
  | nil => rw [hx] at h; cases h
  | cons c x =>
   rw [hx] at h
   replace h := (gM ..).symm.trans h
   have tt : qO1 (LX [some (.int cnt)] [] T q tk rw) = some (!decide (c = 39 ∨ c = E ∨ qh c = true), LX [some (.int cnt)] [] T q tk rw) := by
    unfold qO1
    rw [jn (qNO (by decide) (px1 hT hx)) (qWI (by rw [jj, px1 hT hx]))]
    by_cases h1 : c = 39 <;> by_cases h2 : c = E <;> cases qh c <;> simp [h1, h2]
   by_cases hs : c = 39 ∨ c = E ∨ qh c = true
   ·rw [if_pos hs] at h
    rw [decide_eq_true hs] at tt
    cases h
    exact ⟨0, rfl, hq, qD6 tt⟩
   ·rw [if_neg hs] at h
    rw [decide_eq_false hs] at tt
    have hE : c ≠ E := fun z => hs (.inr (.inl z))
    obtain ⟨q1, q2, q3⟩ := onN hT hx hE
    have go : ∀ j, qRV (LX [some (.int cnt)] [] T q tk rw) = some (.nxt, LX [some (.int cnt)] [] T (q + j) tk rw) → q + (j + 1) ≤ T.length → jS n (cnt + 1) (k + (j + 1)) (onX T (q + (j + 1))) = some (cnt', k') → ∃ m, k' = k + m ∧ q + m ≤ T.length ∧ whileC qO1 qRU (LX [some (.int cnt)] [] T q tk rw) = some (.nxt, LX [some (.int cnt')] [] T (q + m) tk rw) := by
     intro j g1 g2 g3
     obtain ⟨m, f1, f2, f3⟩ := qFY hT n (cnt + 1) (k + (j + 1)) (q + (j + 1)) cnt' k' g2 g3
     refine ⟨j + 1 + m, by lia, by lia, ?_⟩
     rw [uc (t := qO1) (b := qRU) (st2 := LX [some (.int ((cnt + 1 : Nat) : Int))] [] T (q + (j + 1)) tk rw) tt ?_, f3, Nat.add_assoc]
     unfold qRU
     rw [qJ g1, qJ yD]; rfl
    have ti := qNN (d := 92) (v := [some (.int cnt)]) (ls := []) (tk := tk) (rw := rw) (by decide) (px1 hT hx)
    by_cases h92 : c = 92
    ·rw [if_pos h92] at h
     rw [decide_eq_true h92] at ti
     cases x with
     | nil => cases h
     | cons d z =>
      dsimp only at h
      have t2 := jn ti (qWI (c := d) (e := qO qe (qC 0) (qB (eC (.int 1)) qI)) (by rw [dr, px2 hT hx]))
      rw [Bool.true_and] at t2
      by_cases hd : d = E ∨ qh d = true
      ·rw [if_pos hd] at h
       rw [decide_eq_true hd] at t2
       refine go 0 ?_ q1 (by rw [show q + (0 + 1) = q + 1 from rfl, q3]; exact h)
       unfold qRV
       rw [qr t2]; rfl
      ·rw [if_neg hd] at h
       rw [decide_eq_false hd] at t2
       obtain ⟨p1, p2, p3⟩ := onN hT q3 (fun z => hd (.inl z))
       refine go 1 ?_ p1 (by rw [show q + (1 + 1) = q + 1 + 1 from rfl, p3]; exact h)
       unfold qRV
       rw [zM t2, qJ yD]; rfl
    ·rw [if_neg h92] at h
     rw [decide_eq_false h92] at ti
     refine go 0 ?_ q1 (by rw [show q + (0 + 1) = q + 1 from rfl, q3]; exact h)
     unfold qRV
     rw [qr (ue ti)]; rfl
theorem qHL (hT : qk T) {n cnt m : Nat} (hq : q ≤ T.length) (h : jS n 0 0 (onX T q) = some (cnt, m)) :
  q + m ≤ T.length ∧ gV [.lex] (LG T q tk rw) = some (.ok (.int cnt), LG T (q + m) tk rw) := by
 obtain ⟨m', g1, g2, g3⟩ := qFY (tk := tk) (rw := rw) hT n 0 0 q cnt m hq h
 rw [Nat.zero_add] at g1
 subst g1
 refine ⟨g2, zj (v := .int cnt) (st := LX [some (.int cnt)] [] T (q + m) tk rw) rfl ?_ rfl⟩
 show qD _ (qD (whileC qO1 qRU) _) (LX [none] [] T q tk rw) = _
 rw [qJ (st1 := LX [some (.int 0)] [] T q tk rw) rfl]
 exact (qJ g3).trans rfl
noncomputable def qNX : SC := (sIf (tE (qQ .eq (qC 2) (eC (.str [39])))) (qD (qc (qO qp (qC 0) (qB (eC (.int 1011)) (qB (qC 1) (qB (qZ qI) qI)))))
 (qD (qV 4 (eC (.int 0)))
 qK)) (qD (sIf (tE (qQ .eq (qC 2) (eC (.str [92])))) (qD (qV 3 (qT jD (qB (qC 0) qI)))
 qK) (qD (sIf (zb (tE (qQ .ne (qC 2) (eC (.str [])))) (ve (tE (qT qn (qB (qC 2) qI))))) (qD (qV 3 (qT zq (qB (qC 2) qI)))
 (qD (qq (qC 0) (eC (.int 1)))
 qK)) qK)
 qK))
 qK))
noncomputable def qSP : SC := (sIf (zb (tE (qQ .eq (qC 4) (eC (.int 1)))) (tE (qQ .ne (qO qM (qC 0) qI) (eC (.str [39]))))) (qD (j3 .add 4 (qT gV (qB (qC 0) qI)))
 qK) qK)
noncomputable def qPP : SC := (sIf (tE (qQ .eq (qO qM (qC 0) qI) (eC (.str [39])))) (qD (qq (qC 0) (eC (.int 1)))
 (qD (sIf (tOr (tE (qQ .gt (qC 4) (eC (.int 1)))) (tE (qQ .gt (zn (qC 3)) (eC (.int 1))))) (qD (qc (qO qp (qC 0) (qB (eC (.int 1012)) (qB (qC 1) (qB (qZ qI) qI)))))
 (qD (qV 4 (eC (.int 2)))
 qK)) qK)
 qK)) (qD (qc (qO qp (qC 0) (qB (eC (.int 1010)) (qB (qC 1) (qB (qZ qI) qI)))))
 (qD (qV 4 (eC (.int 0)))
 qK)))
noncomputable def qSQ : SC := (qD (qV 5 (eC (.int 0)))
 (qD (sIf (zb (tE (qQ .eq (qC 4) (eC (.int 1)))) (tE (qQ .ne (qC 3) (eC (.str []))))) (qD (qV 5 (qCC (qC 3)))
 qK) qK)
 (qD (qc (qO zN (qC 0) (qB (eC kB) (qB (qC 5) (qB (qC 1) qI)))))
 qK)))
noncomputable abbrev CHX (p : Nat) (c letter : List Nat) (count : Nat) (T : List Nat) (q : Nat) (tk rw : List PV) : St := LX [some (.int p), some (.str c), some (.str letter), some (.int count), none] [] T q tk rw
theorem qPR (hT : qk T) {x letter : List Nat} {count k : Nat} {rows : List Row} (hx : onX T (p + 1) = c :: x) (hp : p + 1 ≤ T.length) (h : yr (c :: x) = some (letter, count, rows, k)) (hr : rw.length + rows.length ≤ line) :
  p + k ≤ T.length ∧ count ≤ 1 ∧ qNX (CHX p (sg c) (sg c) 1 T (p + 1) tk rw) = some (.nxt, CHX p (sg c) letter count T (p + k) tk (rw ++ rows.map fun q => qf (shR p q))) := by
 unfold yr at h
 dsimp only at h
 have t1 : tE (qQ .eq (qC 2) (eC (.str [39]))) (CHX p (sg c) (sg c) 1 T (p + 1) tk rw) = some (decide (c = 39), CHX p (sg c) (sg c) 1 T (p + 1) tk rw) := vN (by decide) rfl
 have t2 : tE (qQ .eq (qC 2) (eC (.str [92]))) (CHX p (sg c) (sg c) 1 T (p + 1) tk rw) = some (decide (c = 92), CHX p (sg c) (sg c) 1 T (p + 1) tk rw) := vN (by decide) rfl
 by_cases h39 : c = 39
 ·rw [if_pos h39] at h
  rw [decide_eq_true h39] at t1
  cases h
  refine ⟨hp, by lia, ?_⟩
  unfold qNX
  rw [zM t1, qJ (yb (n := 1011) (m := p) rfl rfl uD rfl hr)]
  subst h39
  rfl
 ·rw [if_neg h39] at h
  rw [decide_eq_false h39] at t1
  by_cases h92 : c = 92
  ·rw [if_pos h92] at h
   rw [decide_eq_true h92] at t2
   cases he : j0 (c :: x) with
   | none => rw [he] at h; cases h
   | some z =>
    obtain ⟨v, b, j⟩ := z
    rw [he] at h
    cases h
    subst h92
    have hbl : (zg b (p + 1)).length = (zg b 1).length := by cases b <;> rfl
    have hbr : (zg b (p + 1)).map qf = (zg b 1).map fun q => qf (shR p q) := by cases b <;> rfl
    obtain ⟨g1, g2, g3, g4⟩ := gJ (tk := tk) (rw := rw) hT hx he (by rw [hbl]; exact hr)
    refine ⟨by lia, Nat.le_refl _, ?_⟩
    unfold qNX
    rw [qr t1, seq_nil, zM t2, seq_nil, zE (gf g4) (st2 := CHX p (sg 92) letter 1 T (p + 1 + j) tk (rw ++ (zg b (p + 1)).map qf)) rfl, hbr, Nat.add_assoc]
  ·rw [if_neg h92] at h
   rw [decide_eq_false h92] at t2
   have t3 := qWI (c := c) (e := qC 2) (st := CHX p (sg c) (sg c) 1 T (p + 1) tk rw) rfl
   by_cases hl : c = E ∨ qh c = true
   ·rw [if_pos hl] at h
    rw [decide_eq_true hl] at t3
    cases h
    refine ⟨hp, Nat.le_refl _, ?_⟩
    unfold qNX
    rw [qr t1, seq_nil, qr t2, seq_nil, qr t3, List.map_nil, List.append_nil]; rfl
   ·rw [if_neg hl] at h
    rw [decide_eq_false hl] at t3
    cases h
    have hE : c ≠ E := fun z => hl (.inl z)
    obtain ⟨q1, q2, q3⟩ := onN hT hx hE
    have hce : c < E := hT.1 c (List.mem_of_getElem? q2)
    have e2 : qT zq (qB (qC 2) qI) (CHX p (sg c) (sg c) 1 T (p + 1) tk rw) = some (.str (zC c), CHX p (sg c) (sg c) 1 T (p + 1) tk rw) := by
     exact qHX hce (vL hE ▸ rfl)
    refine ⟨q1, Nat.le_refl _, ?_⟩
    unfold qNX
    rw [qr t1, seq_nil, qr t2, seq_nil, zM t3, qJ (zE e2 (st2 := CHX p (sg c) (zC c) 1 T (p + 1) tk rw) rfl), seq_nil, List.map_nil, List.append_nil]
    exact yD
theorem qNY (hT : qk T) {letter cs : List Nat} {count k fuel count' k' : Nat} (hp : p + k ≤ T.length) (h : yH fuel (onX T (p + k)) count k = some (count', k')) :
  p + k' ≤ T.length ∧ qSP (CHX p cs letter count T (p + k) tk rw) = some (.nxt, CHX p cs letter count' T (p + k') tk rw) := by
 cases hx : onX T (p + k) with
 | nil => rw [hx] at h; cases h
 | cons c x =>
  rw [hx] at h
  unfold yH at h
  dsimp only at h
  have t0 : tE (qQ .eq (qC 4) (eC (.int 1))) (CHX p cs letter count T (p + k) tk rw) = some ((count : Int) == 1, CHX p cs letter count T (p + k) tk rw) := rfl
  have t1 := jn t0 (qNO (d := 39) (by decide) (px1 hT hx))
  have hb : (((count : Int) == 1) && !decide (c = 39)) = decide (count = 1 ∧ c ≠ 39) := by
   by_cases h1 : count = 1
   ·subst h1; by_cases h2 : c = 39 <;> simp [h2]
   ·have : ((count : Int) == 1) = false := by rw [beq_eq_false_iff_ne]; lia
    simp [this, h1]
  rw [hb] at t1
  by_cases hc : count = 1 ∧ c ≠ 39
  ·rw [if_pos hc] at h
   rw [decide_eq_true hc] at t1
   cases hs : jS fuel 0 0 (c :: x) with
   | none => rw [hs] at h; cases h
   | some z =>
    obtain ⟨n, j⟩ := z
    rw [hs] at h
    cases h
    rw [← hx] at hs
    obtain ⟨g1, g2⟩ := qHL (tk := tk) (rw := rw) hT hp hs
    refine ⟨by lia, ?_⟩
    unfold qSP
    rw [zM t1, seq_nil]
    exact (qU3 (n := count) rfl (gf g2) rfl rfl).trans (by rw [Nat.add_assoc]; rfl)
  ·rw [if_neg hc] at h
   rw [decide_eq_false hc] at t1
   cases h
   refine ⟨hp, ?_⟩
   unfold qSP
   rw [qr t1]; rfl
theorem qK0 {letter cs : List Nat} {count : Nat} (hl : count = 1 → letter.length ≤ 1) (hk : tk.length < line) :
  ∃ v, qSQ (CHX p cs letter count T q tk rw) = some (.nxt, LX v [] T q (tk ++ [.tup [.int 5, .int (d7 count letter), .int p]]) rw) := by
 refine ⟨[some (.int p), some (.str cs), some (.str letter), some (.int count), some (.int (d7 count letter))], ?_⟩
 have t0 : zb (tE (qQ .eq (qC 4) (eC (.int 1)))) (tE (qQ .ne (qC 3) (eC (.str [])))) (LX [some (.int p), some (.str cs), some (.str letter), some (.int count), some (.int 0)] [] T q tk rw) = some (((count : Int) == 1) && (letter != []), LX [some (.int p), some (.str cs), some (.str letter), some (.int count), some (.int 0)] [] T q tk rw) := jn rfl rfl
 have fin : sIf (zb (tE (qQ .eq (qC 4) (eC (.int 1)))) (tE (qQ .ne (qC 3) (eC (.str []))))) (qD (qV 5 (qCC (qC 3))) qK) qK (LX [some (.int p), some (.str cs), some (.str letter), some (.int count), some (.int 0)] [] T q tk rw) = some (.nxt, LX [some (.int p), some (.str cs), some (.str letter), some (.int count), some (.int (d7 count letter))] [] T q tk rw) := by
  by_cases h1 : count = 1
  ·subst h1
   match letter, hl rfl with
   | [], _ => rw [qr t0]; rfl
   | [a], _ => rw [zM t0]; rfl
  ·have : ((count : Int) == 1) = false := by rw [beq_eq_false_iff_ne]; lia
   rw [this, Bool.false_and] at t0
   rw [qr t0]
   unfold d7
   rw [if_neg h1]; rfl
 unfold qSQ
 rw [qJ (st1 := LX [some (.int p), some (.str cs), some (.str letter), some (.int count), some (.int 0)] [] T q tk rw) rfl, qJ fin, seq_nil]
 exact qA7 (a := .int 5) (b := .int (d7 count letter)) (n := p) rfl rfl rfl rfl rfl hk
theorem qPQ (hT : qk T) {letter cs x : List Nat} {count k h : Nat} {rows : List Row} (hx : onX T (p + k) = h :: x) (hp : p + k ≤ T.length) (hf : uE tk rw (yX letter count rows k h)) :
  p + (yX letter count rows k h).k ≤ T.length ∧ ∃ v, qD qPP qSQ (CHX p cs letter count T (p + k) tk (rw ++ rows.map fun q => qf (shR p q))) = some (.nxt, ⟨some .lex :: v, [], aft T p tk rw (yX letter count rows k h)⟩) := by
 obtain ⟨R, hR⟩ : ∃ R, R = rw ++ rows.map (fun q => qf (shR p q)) := ⟨_, rfl⟩
 have hRl : R.length = rw.length + rows.length := by rw [hR]; simp
 have t0 := qNN (d := 39) (v := [some (.int p), some (.str cs), some (.str letter), some (.int count), none]) (ls := []) (tk := tk) (rw := R) (by decide) (px1 hT hx)
 rw [← hR]
 unfold yX at hf ⊢
 have hRR : ∀ n : Int, rw ++ (rows ++ [(n, 0, ([] : List PV))]).map (fun q => qf (shR p q)) = R ++ [.tup [.int n, .int p, .tup []]] := by
  intro n
  rw [hR, List.map_append, ← List.append_assoc]; rfl
 by_cases h39 : h = 39
 ·rw [if_pos h39] at hf ⊢
  rw [decide_eq_true h39] at t0
  have hE : h ≠ E := fun q => by subst q; exact absurd h39 (by decide)
  obtain ⟨q1, q2, q3⟩ := onN hT hx hE
  have t1 : tOr (tE (qQ .gt (qC 4) (eC (.int 1)))) (tE (qQ .gt (zn (qC 3)) (eC (.int 1)))) (CHX p cs letter count T (p + k + 1) tk R) = some (decide ((1 : Int) < (count : Int)) || decide ((1 : Int) < (letter.length : Int)), CHX p cs letter count T (p + k + 1) tk R) := wK rfl rfl
  have hb : (decide ((1 : Int) < (count : Int)) || decide ((1 : Int) < (letter.length : Int))) = decide (count > 1 ∨ letter.length > 1) := by
   have e1 : ((1 : Int) < (count : Int)) ↔ count > 1 := by lia
   have e2 : ((1 : Int) < (letter.length : Int)) ↔ letter.length > 1 := by lia
   rw [decide_eq_decide.mpr e1, decide_eq_decide.mpr e2, Bool.decide_or]
  rw [hb] at t1
  by_cases hc : count > 1 ∨ letter.length > 1
  ·rw [if_pos hc] at hf ⊢
   rw [decide_eq_true hc] at t1
   refine ⟨q1, ?_⟩
   have hrl : rw.length + (rows ++ [((1012 : Int), 0, ([] : List PV))]).length ≤ line := hf.2
   rw [List.length_append] at hrl
   obtain ⟨v, hv⟩ := qK0 (T := T) (p := p) (q := p + k + 1) (rw := R ++ [.tup [.int 1012, .int p, .tup []]]) (letter := letter) (cs := cs) (count := 2) (fun z => by lia) hf.1
   refine ⟨v, ?_⟩
   show _ = some (Out.nxt, (⟨_, _, LG T (p + (k + 1)) _ (rw ++ (rows ++ [((1012 : Int), 0, ([] : List PV))]).map (fun q => qf (shR p q)))⟩ : St))
   rw [hRR 1012]
   rw [qJ (st1 := CHX p cs letter 2 T (p + k + 1) tk (R ++ [.tup [.int 1012, .int p, .tup []]])), hv]
   ·rfl
   ·unfold qPP
    rw [zM t0, qJ yD, seq_nil, zM t1, qJ (yb (n := 1012) (m := p) rfl rfl uD rfl (by simp at hrl; lia))]
    rfl
  ·rw [if_neg hc] at hf ⊢
   rw [decide_eq_false hc] at t1
   refine ⟨q1, ?_⟩
   obtain ⟨v, hv⟩ := qK0 (T := T) (p := p) (q := p + k + 1) (rw := R) (letter := letter) (cs := cs) (count := count) (fun z => by lia) hf.1
   refine ⟨v, ?_⟩
   rw [qJ (st1 := CHX p cs letter count T (p + k + 1) tk R), hv]
   ·rw [hR]; rfl
   ·unfold qPP
    rw [zM t0, qJ yD, seq_nil, qr t1]
    rfl
 ·rw [if_neg h39] at hf ⊢
  rw [decide_eq_false h39] at t0
  refine ⟨hp, ?_⟩
  have hrl : rw.length + (rows ++ [((1010 : Int), 0, ([] : List PV))]).length ≤ line := hf.2
  rw [List.length_append] at hrl
  obtain ⟨v, hv⟩ := qK0 (T := T) (p := p) (q := p + k) (rw := R ++ [.tup [.int 1010, .int p, .tup []]]) (letter := letter) (cs := cs) (count := 0) (fun z => by lia) hf.1
  refine ⟨v, ?_⟩
  show _ = some (Out.nxt, (⟨_, _, LG T (p + k) _ (rw ++ (rows ++ [((1010 : Int), 0, ([] : List PV))]).map (fun q => qf (shR p q)))⟩ : St))
  rw [hRR 1010]
  rw [qJ (st1 := CHX p cs letter 0 T (p + k) tk (R ++ [.tup [.int 1010, .int p, .tup []]])), hv]
  ·rfl
  ·unfold qPP
   rw [qr t0, qJ (yb (n := 1010) (m := p) rfl rfl uD rfl (by simp at hrl; lia))]
   rfl
theorem qGB {letter : List Nat} {count k h : Nat} {rows : List Row} : rows.length ≤ (yX letter count rows k h).rows.length := by
 unfold yX
 by_cases h1 : h = 39
 ·rw [if_pos h1]
  by_cases h2 : count > 1 ∨ letter.length > 1
  ·rw [if_pos h2]; simp
  ·rw [if_neg h2]; exact Nat.le_refl _
 ·rw [if_neg h1]; simp
theorem qHD (hT : qk T) {x : List Nat} {n : Nat} {r : Res} (hx : onX T p = 39 :: x) (h : d8 n (39 :: x) = some r) (hf : uE tk rw r) :
  dD [.lex] (LG T p tk rw) = some (.ok .none, aft T p tk rw r) ∧ p + r.k ≤ T.length := by
 obtain ⟨q1, q2, q3⟩ := onN hT hx (by decide)
 unfold d8 at h
 rw [show List.drop 1 (39 :: x) = x from rfl] at h
 cases hl : yr x with
 | none => rw [hl] at h; cases h
 | some z =>
  obtain ⟨letter, count, rows, k⟩ := z
  rw [hl] at h
  dsimp only at h
  cases hs : yH n (List.drop k (39 :: x)) count k with
  | none => rw [hs] at h; cases h
  | some z =>
   obtain ⟨count', k'⟩ := z
   rw [hs] at h
   dsimp only at h
   cases hd : List.drop k' (39 :: x) with
   | nil => rw [hd] at h; cases h
   | cons hh y =>
    rw [hd] at h
    cases h
    cases x with
    | nil => cases hl
    | cons c x =>
     have hrl : rw.length + rows.length ≤ line := Nat.le_trans (Nat.add_le_add_left qGB _) hf.2
     obtain ⟨g1, g2, g3⟩ := qPR (tk := tk) (rw := rw) hT q3 q1 hl hrl
     rw [← hx, vK g1] at hs
     obtain ⟨f1, f2⟩ := qNY (p := p) (tk := tk) (rw := rw ++ rows.map fun q => qf (shR p q)) (letter := letter) (cs := sg c) hT g1 hs
     rw [← hx, vK f1] at hd
     obtain ⟨e1, v, e2⟩ := qPQ (cs := sg c) hT hd f1 hf
     refine ⟨?_, e1⟩
     refine yE (st := ⟨some .lex :: v, [], aft T p tk rw (yX letter count' rows k' hh)⟩) rfl ?_
     show qD _ (qD _ (qD _ (qD _ (qD _ (qD qNX (qD qSP (qD qPP qSQ))))))) (LX [none, none, none, none, none] [] T p tk rw) = _
     rw [qJ (st1 := LX [some (.int p), none, none, none, none] [] T p tk rw) rfl, qJ yD, qJ (st1 := LX [some (.int p), some (.str (sg c)), none, none, none] [] T (p + 1) tk rw) (zE jj (by rw [px1 hT q3]; rfl)), qJ (st1 := LX [some (.int p), some (.str (sg c)), some (.str (sg c)), none, none] [] T (p + 1) tk rw) rfl, qJ (st1 := CHX p (sg c) (sg c) 1 T (p + 1) tk rw) rfl, qJ g3, qJ f2]
     exact e2
end
noncomputable def qHP : TC := (tE (qQ .gt (qC 1) (eC (.int 0))))
noncomputable def qV5 : TC := (zb (tE (eIn zt (qC 2))) (ve (zb (tE (qQ .eq (qC 2) (eC (.str [62, 61])))) (tE (qQ .eq (qO qe (qC 0) (qB (eC (.int 2)) qI)) (eC (.str [61])))))))
noncomputable def qHO : SC := (qD (qV 2 (yt (qg (qC 0) .text) (qg (qC 0) .at) (qY .add (qg (qC 0) .at) (qC 1))))
 (qD (sIf qV5 (qD (qc (qO zN (qC 0) (qB (eC vm) (qB (qC 2) (qB (qg (qC 0) .at) qI)))))
 (qD (qq (qC 0) (zn (qC 2)))
 (qD qFV
 qK))) qK)
 (qD (j3 .sub 1 (eC (.int 1)))
 qK)))
noncomputable def qV4 : SC := (qD (qc (qO qp (qC 0) (qB (eC (.int 1056)) (qB (qg (qC 0) .at) (qB (qZ (qB (qO qM (qC 0) qI) qI)) qI)))))
 (qD (qq (qC 0) (eC (.int 1)))
 qK))
noncomputable def jQ (e : Nat) (w : List Nat) : Bool := decide (w ∈ zt) && !(decide (w = [62, 61]) && decide (e = 61))
section
variable {T : List Nat} {p q c d : Nat} {tk rw rw0 tk' rw' : List PV} {v : List (Option PV)} {ls : List (List PV)} {st st1 st2 : St} {u : PV} {f : Fn} {i : Nat} {e : EC}
theorem qDO {n : Nat} {w : Option PV} (hp : p ≤ T.length) : qV 2 (yt (qg (qC 0) .text) (qg (qC 0) .at) (qY .add (qg (qC 0) .at) (qC 1))) (LX [some (.int n), w] [] T p tk rw) = some (.nxt, LX [some (.int n), some (.str ((T.drop p).take n))] [] T p tk rw) := by
 have h1 : zD T.length (((p + n : Nat) : Int)) = min (p + n) T.length := by
  unfold zD
  rw [if_neg (by lia)]; rfl
 have h2 : List.drop p (List.take (min (p + n) T.length) T) = (T.drop p).take n := by
  rw [← List.take_eq_take_min, List.drop_take, Nat.add_sub_cancel_left]
 exact zE (op3 (f := qBS) (z := .int (p + n : Nat)) qEC qHT (op2 (f := bop .add) (y := .int n) qHT rfl rfl) (by
  show some (PV.str ((T.take (zD T.length (p + n : Nat))).drop (zD T.length p))) = _
  rw [h1, wR hp, h2])) rfl
theorem qFW {n : Nat} {w : List Nat} {ee : Nat} (h2 : jf T (p + 2) = sg ee) : qV5 (LX [some (.int n), some (.str w)] [] T p tk rw) = some (jQ ee w, LX [some (.int n), some (.str w)] [] T p tk rw) := by
 unfold qV5 jQ
 refine jn rfl (qEB (jn ?_ (zl (z0 qNP x_c (by rw [h2]; exact qKZ (by decide))))))
 rw [← beq_dec]; rfl
theorem qUZ {n : Nat} {w : Option PV} : qHP (LX [some (.int ((n + 1 : Nat) : Int)), w] [] T p tk rw) = some (true, LX [some (.int ((n + 1 : Nat) : Int)), w] [] T p tk rw) := by
 have t0 : qHP (LX [some (.int ((n + 1 : Nat) : Int)), w] [] T p tk rw) = some (decide ((0 : Int) < ((n + 1 : Nat) : Int)), LX [some (.int ((n + 1 : Nat) : Int)), w] [] T p tk rw) := rfl
 rw [decide_eq_true (by lia)] at t0
 exact t0
theorem qDP {n : Nat} {w : Option PV} {ee : Nat} (hp : p ≤ T.length) (h2 : jf T (p + 2) = sg ee) (hg : jQ ee ((T.drop p).take (n + 1)) = true) (hk : tk.length < line) :
  whileC qHP qHO (LX [some (.int ((n + 1 : Nat) : Int)), w] [] T p tk rw) = some (.ret .none, LX [some (.int ((n + 1 : Nat) : Int)), some (.str ((T.drop p).take (n + 1)))] [] T (p + ((T.drop p).take (n + 1)).length) (tk ++ [.tup [.int 6, .str ((T.drop p).take (n + 1)), .int p]]) rw) := by
 refine qXV qUZ ?_
 unfold qHO
 rw [qJ (qDO hp)]
 refine qz ?_
 have := qFW (T := T) (p := p) (tk := tk) (rw := rw) (n := n + 1) (w := (T.drop p).take (n + 1)) h2
 rw [hg] at this
 rw [zM this, qJ (qA7 (a := .int 6) (b := .str ((T.drop p).take (n + 1))) (n := p) rfl rfl qHT rfl rfl hk)]
 rfl
theorem qHK {n : Nat} {w : Option PV} {ee : Nat} (hp : p ≤ T.length) (h2 : jf T (p + 2) = sg ee) (hg : jQ ee ((T.drop p).take (n + 1)) = false) :
  whileC qHP qHO (LX [some (.int ((n + 1 : Nat) : Int)), w] [] T p tk rw) = whileC qHP qHO (LX [some (.int n), some (.str ((T.drop p).take (n + 1)))] [] T p tk rw) := by
 refine uc qUZ ?_
 unfold qHO
 rw [qJ (qDO hp)]
 have := qFW (T := T) (p := p) (tk := tk) (rw := rw) (n := n + 1) (w := (T.drop p).take (n + 1)) h2
 rw [hg] at this
 rw [qJ ((qr this).trans rfl)]
 have : (((n + 1 : Nat) : Int) - 1) = (n : Int) := by lia
 exact (qJ (qU3 (o := .sub) (y := .int 1) (n := (n + 1 : Nat)) rfl x_c (congrArg (fun i => some (PV.int i)) this) rfl)).trans rfl
theorem qTY : ∀ w ∈ zt, E ∉ w := by decide
theorem qTX : ∀ w ∈ zt, w.length = 3 → w = [60, 60, 61] := by decide
theorem qR1 (a c e : Nat) : [a, c, e] ∈ zt ↔ a = 60 ∧ c = 60 ∧ e = 61 :=
 ⟨fun h => have q := List.cons.inj (qTX _ h rfl); have r := List.cons.inj q.2; ⟨q.1, r.1, (List.cons.inj r.2).1⟩, fun h => by rw [h.1, h.2.1, h.2.2]; decide⟩
theorem qXH {x : List Nat} (hT : qk T) (hp : p ≤ T.length) (h : onX T p = E :: x) : x = [E, E, E] := by
 have := onE hT h hp
 subst this
 unfold onX at h
 rw [List.drop_length] at h
 exact (List.cons.inj h).2.symm
theorem qOO {a : Nat} {x : List Nat} (hT : qk T) (hx : onX T p = a :: x) (ha : a ≠ E) : ∃ c e z, x = c :: e :: z ∧ (c = E → e = E) ∧ (T.drop p).take 1 = [a] ∧ (T.drop p).take 2 = a :: sg c ∧ (T.drop p).take 3 = a :: (sg c ++ sg e) := by
 obtain ⟨q1, q2, q3⟩ := onN hT hx ha
 have hTp : T.drop p = a :: T.drop (p + 1) := by
  rw [List.drop_eq_getElem_cons q1]
  rw [List.getElem?_eq_getElem q1] at q2
  rw [Option.some.inj q2]
 have t1 : ∀ n, (T.drop p).take (n + 1) = a :: (T.drop (p + 1)).take n := fun n => by rw [hTp]; rfl
 cases x with
 | nil =>
  have : (onX T (p + 1)).length = 0 := by rw [q3]; rfl
  unfold onX at this; simp at this
 | cons c y =>
  by_cases hc : c = E
  ·subst hc
   have hy := qXH hT q1 q3
   subst hy
   have hl := onE hT q3 q1
   refine ⟨E, E, [E, E], rfl, fun _ => rfl, ?_, ?_, ?_⟩
   ·rw [t1 0]; rfl
   ·rw [t1 1, hl, List.drop_length]; rfl
   ·rw [t1 2, hl, List.drop_length]; rfl
  ·obtain ⟨p1, p2, p3⟩ := onN hT q3 hc
   have hTp1 : T.drop (p + 1) = c :: T.drop (p + 1 + 1) := by
    rw [List.drop_eq_getElem_cons p1]
    rw [List.getElem?_eq_getElem p1] at p2
    rw [Option.some.inj p2]
   cases y with
   | nil =>
    have : (onX T (p + 1 + 1)).length = 0 := by rw [p3]; rfl
    unfold onX at this; simp at this
   | cons e z =>
    refine ⟨c, e, z, rfl, fun h => absurd h hc, ?_, ?_, ?_⟩
    ·rw [t1 0]; rfl
    ·rw [t1 1, hTp1, vL hc]; rfl
    ·rw [t1 2, hTp1, vL hc]
     show a :: c :: (T.drop (p + 1 + 1)).take 1 = _
     by_cases he : e = E
     ·subst he
      have hl := onE hT p3 p1
      rw [hl, List.drop_length]; rfl
     ·obtain ⟨r1, r2, r3⟩ := onN hT p3 he
      rw [vL he, List.drop_eq_getElem_cons r1]
      rw [List.getElem?_eq_getElem r1] at r2
      rw [Option.some.inj r2]; rfl
noncomputable def dy (a c e : Nat) : Option Res := if jQ e (a :: (sg c ++ sg e)) then zu (a :: (sg c ++ sg e)) else if jQ e (a :: sg c) then zu (a :: sg c) else if jQ e [a] then zu [a] else some { rows := [(1056, 0, [.str [a]])], k := 1 }
@[elab_as_elim] theorem signTok_elim {a c e : Nat} {z : List Nat} {P : Option Res → Prop} (h1 : a = 60 → c = 60 → e = 61 → P (zu [60, 60, 61])) (h2 : a = 60 → c = 60 → e ≠ 61 → P (zu [60, 60])) (h3 : a = 62 → c = 61 → e = 61 → P (zu [62])) (h4 : a = 62 → c = 61 → e ≠ 61 → P (zu [62, 61]))
  (h5 : ¬ (a = 60 ∧ c = 60) → ¬ (a = 62 ∧ c = 61) → [a, c] ∈ zt → P (zu [a, c])) (h6 : ¬ (a = 60 ∧ c = 60) → [a, c] ∉ zt → [a] ∈ zt → P (zu [a])) (h7 : ¬ (a = 60 ∧ c = 60) → [a, c] ∉ zt → [a] ∉ zt → P (some { rows := [(1056, 0, [.str [a]])], k := 1 })) : P (jm (a :: c :: e :: z)) := by
 unfold jm
 dsimp only
 split
 ·rename_i q
  split
  ·rename_i r; exact h1 q.1 q.2 r
  ·rename_i r; exact h2 q.1 q.2 r
 ·rename_i n1
  split
  ·rename_i q
   split
   ·rename_i r; exact h3 q.1 q.2 r
   ·rename_i r; exact h4 q.1 q.2 r
  ·rename_i n2
   split
   ·rename_i q; exact h5 n1 n2 q
   ·rename_i n3
    split
    ·rename_i q; exact h6 n1 n3 q
    ·rename_i q; exact h7 n1 n3 q
theorem gX {w : List Nat} {e : Nat} (h : w ∉ zt) : jQ e w = false := by unfold jQ; rw [decide_eq_false h]; rfl
theorem uy {w : List Nat} {e : Nat} (h : w ∈ zt) (h2 : ¬ (w = [62, 61] ∧ e = 61)) : jQ e w = true := by
 unfold jQ
 rw [decide_eq_true h, Bool.true_and, ← Bool.decide_and, decide_eq_false h2]; rfl
section
variable {a c e : Nat}
theorem qUU (h : jQ e (a :: (sg c ++ sg e)) = true) : dy a c e = zu (a :: (sg c ++ sg e)) := if_pos h
theorem qXJ (h3 : jQ e (a :: (sg c ++ sg e)) = false) (h : jQ e (a :: sg c) = true) : dy a c e = zu (a :: sg c) := (if_neg (by rw [h3]; exact Bool.false_ne_true)).trans (if_pos h)
theorem qXK (h3 : jQ e (a :: (sg c ++ sg e)) = false) (h2 : jQ e (a :: sg c) = false) (h : jQ e [a] = true) : dy a c e = zu [a] := (if_neg (by rw [h3]; exact Bool.false_ne_true)).trans ((if_neg (by rw [h2]; exact Bool.false_ne_true)).trans (if_pos h))
theorem qUT (h3 : jQ e (a :: (sg c ++ sg e)) = false) (h2 : jQ e (a :: sg c) = false) (h : jQ e [a] = false) : dy a c e = some { rows := [(1056, 0, [.str [a]])], k := 1 } :=
 (if_neg (by rw [h3]; exact Bool.false_ne_true)).trans ((if_neg (by rw [h2]; exact Bool.false_ne_true)).trans (if_neg (by rw [h]; exact Bool.false_ne_true)))
theorem qJ1 (hc : c ≠ E) (hn : ¬ (a = 60 ∧ c = 60)) (h : jQ e (a :: sg c) = false) : jQ e (a :: (sg c ++ sg e)) = false := by
 by_cases he : e = E
 ·rw [he, sg_E, List.append_nil, ← he]; exact h
 ·rw [vL hc, vL he]; exact gX fun z => hn ⟨((qR1 a c e).mp z).1, ((qR1 a c e).mp z).2.1⟩
theorem wm (hc : c ≠ E) (hn : ¬ (a = 60 ∧ c = 60 ∧ e = 61)) (h : jQ e (a :: sg c) = true) : dy a c e = zu (a :: sg c) := by
 by_cases he : e = E
 ·have q : a :: (sg c ++ sg e) = a :: sg c := by rw [he, sg_E, List.append_nil]
  exact (qUU (by rw [q]; exact h)).trans (by rw [q])
 ·exact qXJ (by rw [vL hc, vL he]; exact gX fun z => hn ((qR1 a c e).mp z)) h
theorem qM5 (h : [a] ∈ zt) : jQ e [a] = true := uy h fun z => by cases z.1
end
theorem qXQ {a : Nat} : [a, E] ∉ zt := fun h => qTY _ h (.tail _ (.head _))
theorem qHJ {a c e : Nat} {z : List Nat} (ha : a ≠ E) (hce : c = E → e = E) : jm (a :: c :: e :: z) = dy a c e := by
 by_cases hc : c = E
 ·rw [hc, hce hc]
  exact signTok_elim (P := fun r => r = dy a E E) (fun _ h _ => absurd h (by decide)) (fun _ h _ => absurd h (by decide)) (fun _ h _ => absurd h (by decide)) (fun _ h _ => absurd h (by decide)) (fun _ _ h => absurd h qXQ) (fun _ _ h => (show dy a E E = zu [a] from qUU (c := E) (e := E) (qM5 (e := E) h)).symm) fun _ _ h => (qUT (c := E) (e := E) (gX (e := E) h) (gX (e := E) h) (gX h)).symm
 ·have s1 := vL hc
  refine signTok_elim (P := fun r => r = dy a c e) (fun h1 h2 h3 => ?_) (fun h1 h2 h3 => ?_) (fun h1 h2 h3 => ?_) (fun h1 h2 h3 => ?_) (fun n1 n2 h => ?_) (fun n1 n2 h => ?_) fun n1 n2 h => ?_
  ·rw [h1, h2, h3]; rfl
  ·refine ((wm hc (fun z => h3 z.2.2) ?_).trans ?_).symm
   ·rw [h1, h2]; exact uy (by decide) fun z => absurd z.1 (by decide)
   ·rw [h1, h2]; rfl
  ·rw [h1, h2, h3]; rfl
  ·refine ((wm hc (fun z => h3 z.2.2) ?_).trans ?_).symm
   ·rw [h1, h2]; exact uy (by decide) fun z => h3 z.2
   ·rw [h1, h2]; rfl
  ·refine ((wm hc (fun z => n1 ⟨z.1, z.2.1⟩) ?_).trans (by rw [s1])).symm
   rw [s1]; exact uy h fun z => n2 ⟨(List.cons.inj z.1).1, (List.cons.inj (List.cons.inj z.1).2).1⟩
  ·have g2 : jQ e (a :: sg c) = false := by rw [s1]; exact gX n2
   exact (qXK (qJ1 hc n1 g2) g2 (qM5 h)).symm
  ·have g2 : jQ e (a :: sg c) = false := by rw [s1]; exact gX n2
   exact (qUT (qJ1 hc n1 g2) g2 (gX h)).symm
theorem qHE (hT : qk T) {a : Nat} {x : List Nat} {r : Res} (hx : onX T p = a :: x) (ha : a ≠ E) (h : jm (a :: x) = some r) (hf : uE tk rw r) :
  vC [.lex] (LG T p tk rw) = some (.ok .none, aft T p tk rw r) ∧ p + r.k ≤ T.length := by
 obtain ⟨q1, q2, q3⟩ := onN hT hx ha
 obtain ⟨c, e, z, rfl, hce, t1, t2, t3⟩ := qOO hT hx ha
 rw [qHJ ha hce] at h
 unfold dy at h
 have h2 := px3 hT hx
 have hp := Nat.le_of_lt q1
 have lenT : ∀ n, p + ((T.drop p).take n).length ≤ T.length := fun n => by rw [List.length_take, List.length_drop]; lia
 have s0 : ∀ res, whileC qHP qHO (LX [some (.int ((2 + 1 : Nat) : Int)), none] [] T p tk rw) = some res → qAG (LX [none, none] [] T p tk rw) = qD (fun _ => some res) qV4 (LX [some (.int ((2 + 1 : Nat) : Int)), none] [] T p tk rw) := by
  intro res hres
  show qD _ (qD (whileC qHP qHO) qV4) _ = _
  rw [qJ (st1 := LX [some (.int ((2 + 1 : Nat) : Int)), none] [] T p tk rw) rfl]
  unfold qD bnd
  rw [hres]
 have done : ∀ (n : Nat) (w : List Nat) (v : List (Option PV)), (T.drop p).take n = w → zu w = some r → (tk.length < line → whileC qHP qHO (LX [some (.int ((2 + 1 : Nat) : Int)), none] [] T p tk rw) = some (.ret .none, LX v [] T (p + w.length) (tk ++ [.tup [.int 6, .str w, .int p]]) rw)) → vC [.lex] (LG T p tk rw) = some (.ok .none, aft T p tk rw r) ∧ p + r.k ≤ T.length := by
  intro n w v hw hr hwh
  cases hr
  refine ⟨?_, by rw [← hw]; exact lenT n⟩
  show _ = some (_, LG T (p + w.length) _ (rw ++ []))
  rw [List.append_nil]
  refine zj (v := .none) (st := LX v [] T (p + w.length) (tk ++ [.tup [.int 6, .str w, .int p]]) rw) rfl ?_ rfl
  exact (s0 _ (hwh hf.1)).trans rfl
 cases g3 : jQ e (a :: (sg c ++ sg e)) with
 | true =>
  rw [g3] at h
  exact done 3 _ _ t3 h fun hk => by
   have := qDP (n := 2) (w := none) (tk := tk) (rw := rw) hp h2 (by rw [t3]; exact g3) hk
   rw [t3] at this
   exact this
 | false =>
  rw [g3] at h
  have w3 := qHK (n := 2) (w := none) (tk := tk) (rw := rw) hp h2 (by rw [t3]; exact g3)
  cases g2 : jQ e (a :: sg c) with
  | true =>
   rw [g2] at h
   exact done 2 _ _ t2 h fun hk => by
    have := qDP (n := 1) (w := some (.str ((T.drop p).take 3))) (tk := tk) (rw := rw) hp h2 (by rw [t2]; exact g2) hk
    rw [t2] at this
    exact w3.trans this
  | false =>
   replace h := g2 ▸ h
   have w2 := qHK (n := 1) (w := some (.str ((T.drop p).take 3))) (tk := tk) (rw := rw) hp h2 (by rw [t2]; exact g2)
   cases g1 : jQ e [a] with
   | true =>
    replace h := g1 ▸ h
    exact done 1 _ _ t1 h fun hk => by
     have := qDP (n := 0) (w := some (.str ((T.drop p).take 2))) (tk := tk) (rw := rw) hp h2 (by rw [t1]; exact g1) hk
     rw [t1] at this
     exact w3.trans (w2.trans this)
   | false =>
    replace h := g1 ▸ h
    cases h
    have w1 := qHK (n := 0) (w := some (.str ((T.drop p).take 2))) (tk := tk) (rw := rw) hp h2 (by rw [t1]; exact g1)
    have w0 : whileC qHP qHO (LX [some (.int (0 : Nat)), some (.str ((T.drop p).take 1))] [] T p tk rw) = some (.nxt, LX [some (.int (0 : Nat)), some (.str ((T.drop p).take 1))] [] T p tk rw) := qD6 rfl
    refine ⟨?_, q1⟩
    show _ = some (_, LG T (p + 1) (tk ++ []) (rw ++ [.tup [.int 1056, .int p, .tup [.str [a]]]]))
    rw [List.append_nil]
    refine yE (st := LX [some (.int (0 : Nat)), some (.str ((T.drop p).take 1))] [] T (p + 1) tk (rw ++ [.tup [.int 1056, .int p, .tup [.str [a]]]])) rfl ?_
    refine (s0 _ (w3.trans (w2.trans (w1.trans w0)))).trans ?_
    refine (qJ (st1 := LX [some (.int (0 : Nat)), some (.str ((T.drop p).take 1))] [] T p tk rw) rfl).trans ?_
    unfold qV4
    rw [qJ (yb (n := 1056) (m := p) (l := [.str [a]]) rfl qHT ?_ rfl hf.2)]
    ·rfl
    ·simp only [qZ, qB, qI, bnd, jj, px1 hT hx, vL ha]
     rw [if_pos (show [PV.str [a]].length ≤ line from (by decide : 1 ≤ line))]; rfl
theorem qOH (hT : qk T) {x : List Nat} {r : Res} (hx : onX T p = 64 :: x) (h : kb (64 :: x) = some (.ok r)) (hf : uE tk rw r) :
  qCJ [.lex] (LG T p tk rw) = some (.ok .none, aft T p tk rw r) ∧ p + r.k ≤ T.length := by
 obtain ⟨q1, q2, q3⟩ := onN hT hx (by decide)
 cases x with
 | nil => exact qH h
 | cons d x =>
  unfold kb at h
  dsimp only at h
  have t1 := qSI (d := 34) (v := [some (.int p), none]) (ls := []) (tk := tk) (rw := rw) (by decide) (px2 hT hx)
  by_cases h34 : d = 34
  ·replace h := ifp h34 h
   rw [decide_eq_true h34] at t1
   subst h34
   obtain ⟨g1, g2⟩ := wo hT hx h hf
   refine ⟨zj (v := .none) (st := ⟨[some .lex, some (.int p), none], [], aft T p tk rw r⟩) rfl ?_ rfl, g2⟩
   show qD _ (qD _ _) (LX [none, none] [] T p tk rw) = _
   refine (qJ (st1 := LX [some (.int p), none] [] T p tk rw) rfl).trans ?_
   refine qz ((zM t1).trans ?_)
   exact (qJ (vW (gf g1))).trans rfl
  ·replace h := ifn h34 h
   rw [decide_eq_false h34] at t1
   have s1 : ∀ w q, jP [.lex] (LG T (p + 1) tk rw) = some (.ok (.str w), LG T q tk rw) → qH7 (LX [none, none] [] T p tk rw) = sIf (tE (qQ .eq (qC 2) (eC (.str [])))) (qD (qc (qO qp (qC 0) (qB (eC (.int 1646)) (qB (qC 1) (qB (qZ qI) qI))))) qK) (qD (qc (qO zN (qC 0) (qB (eC vl) (qB (qC 2) (qB (qC 1) qI))))) qK) (LX [some (.int p), some (.str w)] [] T q tk rw) := by
    intro w q hw
    show qD _ (qD _ (qD _ (qD _ (qD _ qK)))) (LX [none, none] [] T p tk rw) = _
    exact (qJ (st1 := LX [some (.int p), none] [] T p tk rw) rfl).trans ((qJ ((qr t1).trans rfl)).trans ((qJ yD).trans ((qJ (zE (gf hw) (st2 := LX [some (.int p), some (.str w)] [] T q tk rw) rfl)).trans seq_nil)))
   cases hs : zJ d with
   | true =>
    replace h := hs ▸ h
    simp only [if_true] at h
    cases hn : zo (d :: x) with
    | none => rw [hn] at h; exact qH h
    | some n =>
     replace h := hn ▸ h
     cases h
     obtain ⟨g1, g2⟩ := qA3 (tk := tk) (rw := rw) hT q3 q1 hs hn
     have hpn : p + 1 + n = p + (n + 1) := by lia
     refine ⟨?_, by show p + (n + 1) ≤ _; lia⟩
     show _ = some (_, LG T (p + (n + 1)) _ (rw ++ []))
     rw [List.append_nil]
     refine yE (st := LX [some (.int p), some (.str ((d :: x).take n))] [] T (p + (n + 1)) (tk ++ [qd (1, .str ((d :: x).take n), p)]) rw) rfl ((s1 _ _ g1).trans ?_)
     have hne : (d :: x).take n ≠ [] := by
      have hn0 : n ≠ 0 := by
       intro z
       subst z
       have hpt : zT d = true := by unfold zT; rw [hs]; rfl
       exact (we hpt hn).elim fun m e => absurd e.2 (Nat.succ_ne_zero m)
      obtain ⟨m, rfl⟩ : ∃ m, n = m + 1 := ⟨n - 1, by lia⟩
      simp
     have t2 : tE (qQ .eq (qC 2) (eC (.str []))) (LX [some (.int p), some (.str ((d :: x).take n))] [] T (p + 1 + n) tk rw) = some (false, LX [some (.int p), some (.str ((d :: x).take n))] [] T (p + 1 + n) tk rw) := by
      refine zl (z0 (st1 := LX [some (.int p), some (.str ((d :: x).take n))] [] T (p + 1 + n) tk rw) rfl x_c ?_)
      show some (_ == _) = _
      rw [beq_dec, decide_eq_false hne]
     rw [qr t2, seq_nil, qA7 (a := .int 1) (b := .str ((d :: x).take n)) (n := p) rfl rfl rfl rfl rfl hf.1, hpn]
     rfl
   | false =>
    replace h := hs ▸ h
    cases h
    have g1 := qKE (tk := tk) (rw := rw) hT q3 q1 hs
    refine ⟨?_, q1⟩
    show _ = some (_, LG T (p + 1) (tk ++ []) _)
    rw [List.append_nil]
    refine yE (st := LX [some (.int p), some (.str [])] [] T (p + 1) tk (rw ++ [qf (1646, p, [])])) rfl ((s1 _ _ g1).trans ?_)
    refine (zM (st1 := LX [some (.int p), some (.str [])] [] T (p + 1) tk rw) rfl).trans (seq_nil.trans ((yb (n := 1646) (m := p) rfl rfl uD rfl hf.2).trans ?_))
    rfl
end
section
variable {T : List Nat} {p q c d : Nat} {tk rw rw0 tk' rw' : List PV} {v : List (Option PV)} {ls : List (List PV)} {st st1 st2 : St} {u : PV} {f : Fn} {i : Nat} {e : EC}
theorem qUB (h : f [.lex] (LG T p tk rw) = some (.ok .none, LG T q tk' rw')) : vU f (qB (qC 0) qI) (LX v ls T p tk rw) = some (.nxt, LX v ls T q tk' rw') := qF9 (ze qPC rfl) (zA rfl h)
theorem qSG {code : List Nat} {a : Int} (h : f [.lex] (LG T p tk rw) = some (.exc code a, LG T q tk' rw')) : vU f (qB (qC 0) qI) (LX v ls T p tk rw) = some (.exc code a, LX v ls T q tk' rw') := qGA (ze qPC rfl) (zA rfl h)
theorem qXW (hc : c ≠ E) (h : qC i st = some (.str (sg c), st)) : tE (vA .le .le (eC (.str [48])) (qC i) (eC (.str [57]))) st = some (qIO c, st) := zl (qGD (y := .str [c]) x_c (vL hc ▸ h) x_c (congrArg some (wA 48 c)) (congrArg some (wA c 57)))
theorem gv {t : TC} {a b : SC} {x : Bool} (h : t st = some (x, st)) : qD (sIf t a b) qK st = if x = true then a st else b st := by
 rw [seq_nil, sIf, qa h]
theorem qUO {α β : Type} {x : Bool} {a b : α} {c d : β} (P : α → β → Prop) (h1 : x = true → P a c) (h2 : x = false → P b d) : P (if x = true then a else b) (if x = true then c else d) := by
 cases x with
 | true => exact h1 rfl
 | false => exact h2 rfl
theorem qFB {α β : Type} {q : Prop} [Decidable q] {a b : α} {c d : β} (P : α → β → Prop) (h1 : q → P a c) (h2 : ¬ q → P b d) : P (if decide q = true then a else b) (if q then c else d) := by
 by_cases h : q
 ·rw [if_pos (decide_eq_true h), if_pos h]; exact h1 h
 ·rw [if_neg (by simpa using h), if_neg h]; exact h2 h
noncomputable def qWL (T : List Nat) (p : Nat) (tk rw : List PV) (v : List (Option PV)) (res : Option (Out × St)) (o : One) : Prop :=
 (∀ r, o = .ok r → uE tk rw r → res = some (.nxt, ⟨some .lex :: v, [], aft T p tk rw r⟩) ∧ p + r.k ≤ T.length) ∧ (∀ code, o = .left code → ∃ q, res = some (.exc code p, ⟨some .lex :: v, [], LG T q tk rw⟩))
noncomputable abbrev qA9 (T : List Nat) (p : Nat) (tk rw : List PV) (v : List (Option PV)) (o : One) (res : Option (Out × St)) (lo : Option One) : Prop := lo = some o → qWL T p tk rw v res o
theorem qG9 {f : Fn} {lo : Option One} {o : One} (h : ∀ r, lo = some (.ok r) → uE tk rw r → f [.lex] (LG T p tk rw) = some (.ok .none, aft T p tk rw r) ∧ p + r.k ≤ T.length) (hn : ∀ code, lo ≠ some (.left code)) : qA9 T p tk rw v o (qD (qc (qT f (qB (qC 0) qI))) qK (LX v [] T p tk rw)) lo := by
 intro hlo
 refine ⟨fun r ho hf => ?_, fun code ho => ?_⟩
 ·obtain ⟨g1, g2⟩ := h r (hlo.trans (congrArg some ho)) hf
  exact ⟨seq_nil.trans (vW (gf g1)), g2⟩
 ·exact absurd (hlo.trans (congrArg some ho)) (hn code)
theorem qDD {code : List Nat} {o : One} : qA9 T p tk rw v o (qD (uZ code (qg (qC 0) .at)) qK (LX v [] T p tk rw)) (some (.left code)) := by
 intro hlo
 cases hlo
 exact ⟨fun r ho => (by cases ho), fun c hc => by cases hc; exact ⟨p, rfl⟩⟩
theorem wI {w : Nat} {x : Option (List Nat × List Row × Nat)} (code : List Nat) : ya w x ≠ some (.left code) := by
 cases x <;> (intro h; cases h)
theorem qC8 {x : Option Res} (code : List Nat) : qAV x ≠ some (.left code) := by
 cases x <;> (intro h; cases h)
theorem qJV {x : Option Res} {r : Res} (h : qAV x = some (.ok r)) : x = some r := by
 cases x with
 | none => cases h
 | some y => cases h; rfl
theorem qKP {x : List Nat} (code : List Nat) : kb x ≠ some (.left code) := by
 unfold kb
 split
 ·split
  ·exact wI code
  ·split
   ·split <;> (intro h; cases h)
   ·intro h; cases h
 ·intro h; cases h
theorem qGV {x : List Nat} (code : List Nat) : vb x ≠ some (.left code) := by
 unfold vb
 cases zo x <;> (intro h; cases h)
theorem qGR (hT : qk T) {x : List Nat} {o : One} {n : Nat} (hx : onX T p = c :: x) (hc : c ≠ E) : qA9 T p tk rw [some (.str (sg c))] o (wO (LX [none] [] T p tk rw)) (zS n (c :: x)) := by
 have hp := Nat.le_of_lt (onN hT hx hc).1
 have tq : ∀ d, d ≠ E → tE (qQ .eq (qC 1) (eC (.str [d]))) (LX [some (.str (sg c))] [] T p tk rw) = some (decide (c = d), LX [some (.str (sg c))] [] T p tk rw) := fun d hd => vN hd rfl
 have sgn : qA9 T p tk rw [some (.str (sg c))] o (qD (qc (qT vC (qB (qC 0) qI))) qK (LX [some (.str (sg c))] [] T p tk rw)) (qAV (jm (c :: x))) :=
  qG9 (fun r hr hf => qHE hT hx hc (qJV hr) hf) qC8
 have a1 : qV 1 (qO qM (qC 0) qI) (LX [none] [] T p tk rw) = some (.nxt, LX [some (.str (sg c))] [] T p tk rw) := zE jj (by rw [px1 hT hx]; rfl)
 have tN : tE (qT zZ (qB (qC 1) qI)) (LX [some (.str (sg c))] [] T p tk rw) = some (zJ c, LX [some (.str (sg c))] [] T p tk rw) := by
  exact zl (zQ (ze (v := .str (sg c)) rfl rfl) qHB)
 have tD : tE (vA .le .le (eC (.str [48])) (qC 1) (eC (.str [57]))) (LX [some (.str (sg c))] [] T p tk rw) = some (qIO c, LX [some (.str (sg c))] [] T p tk rw) := qXW hc rfl
 unfold wO zS
 rw [qJ a1, gv tN]
 dsimp only
 refine qUO (qA9 T p tk rw [some (.str (sg c))] o) (fun hN hlo => ?_) fun _ => ?_
 ·refine ⟨fun r ho hf => ?_, fun code ho => absurd (hlo.trans (congrArg some ho)) (qGV code)⟩
  obtain ⟨g1, g2⟩ := qJG hT hx hp hN (hlo.trans (congrArg some ho)) hf
  exact ⟨seq_nil.trans (vW (qHU rfl qHT g1)), g2⟩
 rw [gv tD]
 refine qUO (qA9 T p tk rw [some (.str (sg c))] o) (fun _ hlo => ?_) fun _ => ?_
 ·rw [← hx] at hlo
  obtain ⟨g1, g2⟩ := qLJ (tk := tk) (rw := rw) hT hp hlo
  refine ⟨fun r ho hf => ⟨seq_nil.trans (qUB (g1 r ho hf).1), (g1 r ho hf).2⟩, fun code ho => ?_⟩
  obtain ⟨q, f1⟩ := g2 code ho
  exact ⟨q, seq_nil.trans (qSG f1)⟩
 rw [gv (tq 34 (by decide))]
 refine qFB (qA9 T p tk rw [some (.str (sg c))] o) (fun h => ?_) fun _ => ?_
 ·subst h; exact qG9 (fun r hr hf => qHF hT hx hr hf) wI
 rw [gv (tq 39 (by decide))]
 refine qFB (qA9 T p tk rw [some (.str (sg c))] o) (fun h => ?_) fun _ => ?_
 ·subst h; exact qG9 (fun r hr hf => qHD hT hx (qJV hr) hf) qC8
 rw [gv (tq 64 (by decide))]
 refine qFB (qA9 T p tk rw [some (.str (sg c))] o) (fun h => ?_) fun _ => ?_
 ·subst h; exact qG9 (fun r hr hf => qOH hT hx hr hf) qKP
 by_cases h46 : c = 46
 ·subst h46
  rw [if_pos rfl]
  cases x with
  | nil => intro hlo; cases hlo
  | cons d y =>
   dsimp only
   have t10 := jn (tq 46 (by decide)) (qBU (n := 10) (j := 10) rfl (c := d) (e := qO qe (qC 0) (qB (eC (.int 1)) qI)) (by rw [dr, px2 hT hx]))
   rw [decide_eq_true rfl, Bool.true_and] at t10
   rw [gv t10]
   refine qFB (qA9 T p tk rw [some (.str (sg 46))] o) (fun _ => qDD) fun _ => ?_
   rw [gv (tq 35 (by decide)), if_neg (by decide), gv (tq 36 (by decide)), if_neg (by decide)]
   exact sgn
 ·rw [if_neg h46, seq_nil, qr (ue (by rw [tq 46 (by decide), decide_eq_false h46])), gv (tq 35 (by decide))]
  refine qFB (qA9 T p tk rw [some (.str (sg c))] o) (fun _ => qDD) fun _ => ?_
  rw [gv (tq 36 (by decide))]
  exact qFB (qA9 T p tk rw [some (.str (sg c))] o) (fun _ => qDD) fun _ => sgn
theorem qCZ (hT : qk T) {x : List Nat} {o : One} {n : Nat} (hx : onX T p = c :: x) (hc : c ≠ E) (h : zS n (c :: x) = some o) :
  (∀ r, o = .ok r → uE tk rw r → yk [.lex] (LG T p tk rw) = some (.ok .none, aft T p tk rw r) ∧ p + r.k ≤ T.length) ∧
  (∀ code, o = .left code → ∃ q, yk [.lex] (LG T p tk rw) = some (.exc code p, LG T q tk rw)) := by
 obtain ⟨g1, g2⟩ := qGR (tk := tk) (rw := rw) hT hx hc h
 refine ⟨fun r ho hf => ⟨?_, (g1 r ho hf).2⟩, fun code ho => ?_⟩
 ·refine yE (st := ⟨[some .lex, some (.str (sg c))], [], aft T p tk rw r⟩) rfl ?_
  exact (g1 r ho hf).1
 ·obtain ⟨q, hq⟩ := g2 code ho
  refine ⟨q, ?_⟩
  refine qLP (st := LX [some (.str (sg c))] [] T q tk rw) rfl ?_
  exact hq
end
noncomputable abbrev LZ (T : List Nat) (p : Nat) (tk rw : List PV) : St := ⟨[some (.str T), some .dg, some .lex], [], LG T p tk rw⟩
noncomputable def qJJ : EC := qT yK (qB (qC 2) qI)
noncomputable def qXA : TC := tE (qQ .lt (qg (qC 2) .at) (zn (qC 0)))
noncomputable def qVQ : SC := vU yk (qB (qC 2) qI)
noncomputable def qOI : SC := whileC qXA (qD qVQ (qD (qc qJJ) qK))
noncomputable abbrev LO := Option (List Nat × Nat) × List Tok × List Row × Nat
@[elab_as_elim] theorem lexS_elim {n p : Nat} {x : List Nat} {tk : List Tok} {rw : List Row} {P : LO → Prop} {z : LO} (h : ji (n + 1) p x tk rw = some z) (h1 : ∀ br k r, qo 0 p 0 x = some (br, k, E :: r) → P (none, tk, rw ++ br, k)) (h2 : ∀ br k c r code, qo 0 p 0 x = some (br, k, c :: r) → c ≠ E → zS 200 (c :: r) = some (.left code) → P (some (code, k), tk, rw ++ br, k))
  (h3 : ∀ br k c r q, qo 0 p 0 x = some (br, k, c :: r) → c ≠ E → zS 200 (c :: r) = some (.ok q) → ji n (k + q.k) ((c :: r).drop q.k) (tk ++ q.toks.map (shT k)) (rw ++ br ++ q.rows.map (shR k)) = some z → P z) : P z := by
 rw [dK] at h
 cases hb : qo 0 p 0 x with
 | none => rw [hb] at h; exact qH h
 | some y =>
  obtain ⟨br, k, y⟩ := y
  rw [hb] at h
  cases y with
  | nil => exact qH h
  | cons c r =>
   dsimp only at h
   by_cases hc : c = E
   ·exact Option.some.inj (ifp hc h) ▸ h1 br k r (hc ▸ hb)
   ·replace h := ifn hc h
    cases ho : zS 200 (c :: r) with
    | none => rw [ho] at h; exact qH h
    | some o =>
     rw [ho] at h
     cases o with
     | left code => exact Option.some.inj h ▸ h2 br k c r code hb hc ho
     | ok q => exact h3 br k c r q hb hc ho h
noncomputable def Mono (tk : List Tok) (rw : List Row) (z : LO) : Prop := tk.length ≤ z.2.1.length ∧ rw.length ≤ z.2.2.1.length
theorem Mono.app {tk tk' : List Tok} {rw rw' : List Row} {z : LO} (h : Mono (tk ++ tk') (rw ++ rw') z) : Mono tk rw z := ⟨Nat.le_trans (by rw [List.length_append]; exact Nat.le_add_right _ _) h.1, Nat.le_trans (by rw [List.length_append]; exact Nat.le_add_right _ _) h.2⟩
theorem qFE : ∀ (n p : Nat) (x : List Nat) (tk : List Tok) (rw : List Row) {z : LO}, ji n p x tk rw = some z → Mono tk rw z
 | 0, p, x, tk, rw, z, h => qH h
 | n + 1, p, x, tk, rw, z, h => lexS_elim (P := Mono tk rw) h (fun br k r _ => ⟨Nat.le_refl _, by rw [List.length_append]; exact Nat.le_add_right _ _⟩) (fun br k c r code _ _ _ => ⟨Nat.le_refl _, by rw [List.length_append]; exact Nat.le_add_right _ _⟩) fun br k c r q _ _ _ h => (List.append_assoc rw br _ ▸ qFE n _ _ _ _ h).app
theorem qWG {t : TC} {a : SC} {e : EC} {st st1 : St} (h1 : t st = some (true, st)) (h2 : a st = some (.nxt, st1)) : whileC t (qD a (qD (qc e) qK)) st = qD (qc e) (whileC t (qD a (qD (qc e) qK))) st1 := by
 have h3 : qD a (qD (qc e) qK) st = qc e st1 := by exact (qJ h2).trans seq_nil
 cases he : e st1 with
 | none =>
  have h4 : qc e st1 = none := by show bnd e _ st1 = none; unfold bnd; rw [he]
  rw [kI, h1]
  dsimp only
  rw [h3, h4]
  unfold qD bnd
  rw [h4]
 | some z =>
  obtain ⟨v, st2⟩ := z
  have h4 := vW he
  rw [uc h1 (h3.trans h4), qJ h4]
noncomputable def qUW (T : List Nat) : Option (List Nat × Nat) → List Tok → List Row → Nat → Option (Out × St) → Prop
 | none, tk, rw, k, r => k = T.length ∧ r = some (.nxt, LZ T k (tk.map qd) (rw.map qf))
 | some (code, q), tk, rw, k, r => ∃ st, r = some (.exc code q, st) ∧ ∃ a t, st.g = ⟨T, a, t, rw.map qf, true, true⟩
section
variable {T : List Nat} {p q c d : Nat} {tk rw rw0 tk' rw' : List PV} {v : List (Option PV)} {ls : List (List PV)} {st st1 st2 : St} {u : PV} {f : Fn} {i : Nat} {e : EC}
theorem qLM (hT : qk T) {br : List Row} {k : Nat} {y : List Nat} {tk : List PV} {rw : List Row} (hp : p ≤ T.length) (hb : qo 0 p 0 (onX T p) = some (br, k, y)) (hn : rw.length + br.length ≤ line) : qc qJJ (LZ T p tk (rw.map qf)) = some (.nxt, LZ T k tk ((rw ++ br).map qf)) ∧ k ≤ T.length ∧ onX T k = y := by
 obtain ⟨g1, g2, g3⟩ := qDQ (tk := tk) (rw := rw.map qf) hT hp hb (by rw [List.length_map]; exact hn)
 rw [← List.map_append] at g1
 refine ⟨?_, g2, g3.symm⟩
 exact vW (zQ (ze (v := .lex) rfl rfl) (zA rfl g1))
theorem qGT {b : Bool} (h : decide ((p : Int) < (T.length : Int)) = b) : qXA (LZ T p tk rw) = some (b, LZ T p tk rw) := h ▸ rfl
theorem qW9 (h : yk [.lex] (LG T p tk rw) = some (.ok .none, LG T q tk' rw')) : qVQ (LZ T p tk rw) = some (.nxt, LZ T q tk' rw') := qF9 (ze (v := .lex) rfl rfl) (zA rfl h)
theorem qTK {code : List Nat} {j : Int} (h : yk [.lex] (LG T p tk rw) = some (.exc code j, LG T q tk' rw')) : qVQ (LZ T p tk rw) = some (.exc code j, LZ T q tk' rw') := qGA (ze (v := .lex) rfl rfl) (zA rfl h)
noncomputable def qUD (T : List Nat) (z : LO) (S : St) : Prop := z.2.1.length ≤ line → z.2.2.1.length ≤ line → qUW T z.1 z.2.1 z.2.2.1 z.2.2.2 (qD (qc qJJ) qOI S)
theorem qFF (hT : qk T) : ∀ (n p : Nat) (tk : List Tok) (rw : List Row) {z : LO}, p ≤ T.length → ji n p (onX T p) tk rw = some z → qUD T z (LZ T p (tk.map qd) (rw.map qf))
 | 0, p, tk, rw, z, hp, h => qH h
 | n + 1, p, tk, rw, z, hp, h => lexS_elim (P := fun z => qUD T z (LZ T p (tk.map qd) (rw.map qf))) h (fun br k r hb h1 h2 => by
   have g := qLM (tk := tk.map qd) hT hp hb (by rw [← List.length_append]; exact h2)
   have hk := onE hT g.2.2 g.2.1
   exact ⟨hk, (qJ g.1).trans (qD6 (qGT (decide_eq_false (by rw [hk]; exact Int.lt_irrefl _))))⟩)
  (fun br k c r code hb hc ho h1 h2 => by
   have g := qLM (tk := tk.map qd) hT hp hb (by rw [← List.length_append]; exact h2)
   obtain ⟨q, f3⟩ := (qCZ (tk := tk.map qd) (rw := (rw ++ br).map qf) hT g.2.2 hc ho).2 code rfl
   exact ⟨LZ T q (tk.map qd) ((rw ++ br).map qf), (qJ g.1).trans (qYU (qGT (decide_eq_true (Int.ofNat_lt.mpr (onN hT g.2.2 hc).1))) (qNA (qTK f3))), _, _, rfl⟩)
  fun br k c r q hb hc ho h h1 h2 => by
   have hm := qFE n _ _ _ _ h
   have hr : (rw ++ br).length + q.rows.length ≤ line := Nat.le_trans (Nat.le_of_eq (by rw [List.length_append (as := rw ++ br), List.length_map])) (Nat.le_trans hm.2 h2)
   have ht : tk.length + q.toks.length ≤ line := Nat.le_trans (Nat.le_of_eq (by rw [List.length_append, List.length_map])) (Nat.le_trans hm.1 h1)
   have g := qLM (tk := tk.map qd) hT hp hb (Nat.le_trans (Nat.le_of_eq List.length_append.symm) (Nat.le_trans (Nat.le_add_right _ _) hr))
   have f := (qCZ (tk := tk.map qd) (rw := (rw ++ br).map qf) hT g.2.2 hc ho).1 q rfl ⟨by rw [List.length_map]; exact ht, by rw [List.length_map]; exact hr⟩
   rw [← g.2.2, vK f.2] at h
   have ih := qFF hT n (k + q.k) (tk ++ q.toks.map (shT k)) (rw ++ br ++ q.rows.map (shR k)) f.2 h h1 h2
   have e : LZ T (k + q.k) ((tk ++ q.toks.map (shT k)).map qd) ((rw ++ br ++ q.rows.map (shR k)).map qf) = ⟨[some (.str T), some .dg, some .lex], [], aft T k (tk.map qd) ((rw ++ br).map qf) q⟩ := by
    simp only [List.map_append, List.map_map]
    rfl
   rw [e] at ih
   rw [show qD (qc qJJ) qOI (LZ T p (tk.map qd) (rw.map qf)) = _ from (qJ g.1).trans (qWG (qGT (decide_eq_true (Int.ofNat_lt.mpr (onN hT g.2.2 hc).1))) (qW9 f.1))]
   exact ih
theorem qQZ (hT : qk T) (n p : Nat) (tk : List Tok) (rw : List Row) {o : Option (List Nat × Nat)} {tk' : List Tok} {rw' : List Row} {k : Nat} (hp : p ≤ T.length) (h : ji n p (onX T p) tk rw = some (o, tk', rw', k)) (h1 : tk'.length ≤ line) (h2 : rw'.length ≤ line) :
  qUW T o tk' rw' k (qD (qc qJJ) qOI (LZ T p (tk.map qd) (rw.map qf))) := qFF hT n p tk rw hp h h1 h2
theorem qQY (hT : qk T) {n : Nat} {g : G} {o : Option (List Nat × Nat)} {tk' : List Tok} {rw' : List Row} {k : Nat} (hl : g.hl = false) (hd : g.hd = true) (hr : g.rows = []) (h : ji n 0 (onX T 0) [] [] = some (o, tk', rw', k)) (h1 : tk'.length < line) (h2 : rw'.length ≤ line) :
  (o = none → ∃ g', gA [.str T, .dg] g = some (.ok (.fl (tk'.map qd ++ [.tup [.int 0, .str [], .int T.length]])), g') ∧ g'.hl = false ∧ g'.hd = true ∧ g'.rows = rw'.map qf) ∧
  (∀ code q, o = some (code, q) → ∃ g', gA [.str T, .dg] g = some (.exc code q, g') ∧ g'.hl = false ∧ g'.hd = true ∧ g'.rows = rw'.map qf) := by
 have hloop := qQZ hT n 0 [] [] (Nat.zero_le _) h (Nat.le_of_lt h1) h2
 have s0 : qL4 2 (qC 0) (qC 1) ⟨[some (.str T), some .dg, none], [], g⟩ = some (.nxt, LZ T 0 [] []) := by
  obtain ⟨a, b, c, d, e, f⟩ := g
  simp only at hl hd hr
  subst hl hd hr
  rfl
 have s1 : qML ⟨[some (.str T), some .dg, none], [], g⟩ = qD (qc qJJ) (qD qOI (qD (qc (qO zN (qC 2) (qB (eC gC) (qB (eC (.str [])) (qB (zn (qC 0)) qI))))) (qD (zL (qg (qC 2) .tokens)) qK))) (LZ T 0 [] []) := by
  show qD _ _ _ = _
  exact (qJ s0).trans rfl
 have hassoc : ∀ (a b d : SC) (st : St), qD a (qD b d) st = qD (qD a b) d st := by
  intro a b d st
  unfold qD bnd
  cases a st with
  | none => rfl
  | some z => obtain ⟨x, st'⟩ := z; cases x <;> rfl
 rw [hassoc] at s1
 refine ⟨fun ho => ?_, fun code q ho => ?_⟩
 ·subst ho
  obtain ⟨hk, hw⟩ := hloop
  subst hk
  have hw : qD (qc qJJ) qOI (LZ T 0 [] []) = _ := hw
  rw [qJ hw] at s1
  have hput : qc (qO zN (qC 2) (qB (eC gC) (qB (eC (.str [])) (qB (zn (qC 0)) qI)))) (LZ T T.length (tk'.map qd) (rw'.map qf)) = some (.nxt, LZ T T.length (tk'.map qd ++ [.tup [.int 0, .str [], .int T.length]]) (rw'.map qf)) := by
   have hp := qRO (g := LG T T.length (tk'.map qd) (rw'.map qf)) (a := .int 0) (b := .str []) (c := .int T.length) rfl rfl rfl rfl (by rw [List.length_map]; exact h1)
   exact vW (gY rfl (ze x_c (ze x_c (ze (v := .int T.length) rfl rfl))) rfl (zA rfl hp))
  rw [qJ hput] at s1
  refine ⟨⟨T, T.length, tk'.map qd ++ [.tup [.int 0, .str [], .int T.length]], rw'.map qf, false, true⟩, ?_, rfl, rfl, rfl⟩
  unfold gA qAT
  refine (if_pos ⟨rfl, hl⟩).trans ?_
  show (match qML ⟨[some (.str T), some .dg, none], [], g⟩ with | some (.ret (.lst .toks), st) => _ | some (.exc c a, st) => _ | _ => _) = _
  rw [s1]
  rfl
 ·subst ho
  obtain ⟨st, hw, a, t, hst⟩ := hloop
  have hw : qD (qc qJJ) qOI (LZ T 0 [] []) = _ := hw
  rw [qNA hw] at s1
  refine ⟨{ st.g with hl := false }, ?_, rfl, by rw [hst], by rw [hst]⟩
  unfold gA qAT
  refine (if_pos ⟨rfl, hl⟩).trans ?_
  show (match qML ⟨[some (.str T), some .dg, none], [], g⟩ with | some (.ret (.lst .toks), st) => _ | some (.exc c a, st) => _ | _ => _) = _
  rw [s1]
end
theorem qP0 {x R : List Nat} {k : Nat} (h : x.drop k ≠ []) : (x ++ R).drop k = x.drop k ++ R := by
 have : k ≤ x.length := by
  rcases Nat.lt_or_ge k x.length with q | q
  ·lia
  ·exact absurd (List.drop_eq_nil_of_le q) h
 rw [List.drop_append_of_le_length this]
noncomputable def Lq {α : Type} (a b : Option α) : Prop := ∀ z, a = some z → b = some z
section
variable {α β : Type} {a b a' b' : Option α} {o o' : Option β}
theorem Lq.same : Lq a a := fun _ h => h
theorem Lq.non : Lq none b := fun _ h => qH h
theorem Lq.ite {c : Prop} [Decidable c] (h1 : Lq a a') (h2 : Lq b b') : Lq (if c then a else b) (if c then a' else b') := by
 by_cases h : c
 ·rw [if_pos h, if_pos h]; exact h1
 ·rw [if_neg h, if_neg h]; exact h2
theorem Lq.eq (e1 : a = a') (e2 : b = b') (h : Lq a' b') : Lq a b := fun z q => e2.trans (h z (e1.symm.trans q))
@[elab_as_elim] theorem Lq.cs {P : Option β → Option β → Prop} (h : Lq o o') (h0 : P none o') (h1 : ∀ w, o = some w → P (some w) (some w)) : P o o' := by
 cases o with
 | none => exact h0
 | some w => exact (h w rfl).symm ▸ h1 w rfl
end
section
variable {R : List Nat}
theorem Lq.drop {α : Type} (f : List Nat → Option α) (h0 : f [] = none) (h : ∀ x, Lq (f x) (f (x ++ R))) (x : List Nat) (k : Nat) : Lq (f (x.drop k)) (f ((x ++ R).drop k)) := by
 by_cases q : x.drop k = []
 ·rw [q, h0]; exact Lq.non
 ·rw [qP0 q]; exact h _
theorem uV : ∀ {x : List Nat} {n : Nat}, zo x = some n → n ≤ x.length
 | [], n, h => qH h
 | c :: x, n, h => by
  cases hc : zT c with
  | false => exact qFL hc h ▸ Nat.zero_le _
  | true => exact (we hc h).elim fun m e => e.2 ▸ Nat.succ_le_succ (uV e.1)
theorem dM : ∀ {x : List Nat}, Lq (zo x) (zo (x ++ R))
 | [] => Lq.non
 | c :: x => Lq.eq (qFK c x) (qFK c (x ++ R)) (Lq.ite (Lq.cs (dM (x := x)) Lq.non fun _ _ => Lq.same) Lq.same)
theorem ut {b : Nat} : ∀ {x : List Nat} {n : Nat} {g : Bool} {k : Nat}, Lq (kP b n g k x) (kP b n g k (x ++ R))
 | [], _, _, _ => Lq.non
 | c :: x, n, g, k => Lq.eq (qCB c k x b n g) (qCB c k (x ++ R) b n g) (Lq.ite ut (Lq.ite ut Lq.same))
theorem dJ : ∀ {x : List Nat} {u l : Bool} {k : Nat}, Lq (jc u l k x) (jc u l k (x ++ R))
 | [], _, _, _ => Lq.non
 | c :: x, u, l, k => Lq.eq (wZ c k x u l) (wZ c k (x ++ R) u l) (Lq.ite dJ (Lq.ite dJ Lq.same))
theorem qI9 : ∀ {m : Nat} {x : List Nat} {num n : Nat}, Lq (qGL m num n x) (qGL m num n (x ++ R))
 | 0, _, _, _ => Lq.same
 | _ + 1, [], _, _ => Lq.non
 | m + 1, c :: x, num, n => Lq.eq (qLC c n x num m) (qLC c n (x ++ R) num m) (Lq.ite qI9 Lq.same)
theorem uR {least most j : Nat} {x : List Nat} : Lq (vy least most j x) (vy least most j (x ++ R)) := by
 unfold vy
 exact Lq.cs (qI9 (R := R)) Lq.non fun _ _ => Lq.same
theorem uS : ∀ {x : List Nat}, Lq (j0 x) (j0 (x ++ R))
 | [] => Lq.non
 | [_] => Lq.non
 | a :: c :: r => by
  show Lq (j0 (a :: c :: r)) (j0 (a :: c :: (r ++ R)))
  unfold j0
  dsimp only
  cases yp t_LEX_ESCAPES (sg c) with
  | some v => exact Lq.same
  | none => exact Lq.ite uR (Lq.ite uR (Lq.ite uR Lq.same))
theorem qKG {n k : Nat} {acc : List Nat} {rows : List Row} : zK n k [] acc rows = none := by cases n <;> rfl
theorem dU : ∀ {n k : Nat} {x acc : List Nat} {rows : List Row}, Lq (zK n k x acc rows) (zK n k (x ++ R) acc rows)
 | 0, _, _, _, _ => Lq.non
 | _ + 1, _, [], _, _ => Lq.non
 | n + 1, k, c :: x, acc, rows => Lq.eq (kH c k n x acc rows) (kH c k n (x ++ R) acc rows) (Lq.ite Lq.same (Lq.ite Lq.same (Lq.ite
   (Lq.cs (uS (x := c :: x)) Lq.non fun w _ => Lq.drop (fun y => zK n (k + w.2.2) y (acc ++ w.1) (rows ++ zg w.2.1 k)) qKG (fun _ => dU) (c :: x) w.2.2) dU)))
theorem dW : ∀ {x : List Nat} {k : Nat} {acc : List Nat}, Lq (jB k x acc) (jB k (x ++ R) acc)
 | [], _, _ => Lq.non
 | [c], k, acc => Lq.eq (yC c k [] acc) (yC c k R acc) (Lq.ite Lq.same (Lq.ite Lq.non Lq.non))
 | c :: d :: y, k, acc => Lq.eq (yC c k (d :: y) acc) (yC c k (d :: (y ++ R)) acc) (Lq.ite Lq.same (Lq.ite (Lq.ite (dW (x := y)) Lq.same) (dW (x := d :: y))))
theorem y9 : ∀ {n cnt k : Nat} {x : List Nat}, Lq (jS n cnt k x) (jS n cnt k (x ++ R))
 | 0, _, _, _ => Lq.non
 | _ + 1, _, _, [] => Lq.non
 | n + 1, cnt, k, [c] => Lq.eq (gM c k n [] cnt) (gM c k n R cnt) (Lq.ite Lq.same (Lq.ite Lq.non (y9 (x := []))))
 | n + 1, cnt, k, c :: d :: y => Lq.eq (gM c k n (d :: y) cnt) (gM c k n (d :: (y ++ R)) cnt) (Lq.ite Lq.same (Lq.ite (Lq.ite (y9 (x := d :: y)) y9) (y9 (x := d :: y))))
theorem qIG : ∀ {x : List Nat}, Lq (yr x) (yr (x ++ R))
 | [] => Lq.non
 | c :: x => by
  show Lq (yr (c :: x)) (yr (c :: (x ++ R)))
  unfold yr
  exact Lq.ite Lq.same (Lq.ite (Lq.cs (uS (x := c :: x) (R := R)) Lq.non fun _ _ => Lq.same) Lq.same)
theorem qGC {n count k : Nat} : ∀ {x : List Nat}, Lq (yH n x count k) (yH n (x ++ R) count k)
 | [] => Lq.non
 | c :: x => by
  show Lq (yH n (c :: x) count k) (yH n (c :: (x ++ R)) count k)
  unfold yH
  exact Lq.ite (Lq.cs (y9 (x := c :: x) (R := R)) Lq.non fun _ _ => Lq.same) Lq.same
theorem qIH {n : Nat} {x : List Nat} : Lq (d8 n x) (d8 n (x ++ R)) := by
 unfold d8
 refine Lq.cs (Lq.drop yr rfl (fun _ => qIG) x 1) Lq.non fun w _ => ?_
 obtain ⟨letter, count, rows, k⟩ := w
 refine Lq.cs (P := fun a b => Lq (match a with
  | none => none
  | some (count, k) => (match x.drop k with
   | [] => none
   | h :: _ => some (yX letter count rows k h))) (match b with
  | none => none
  | some (count, k) => (match (x ++ R).drop k with
   | [] => none
   | h :: _ => some (yX letter count rows k h)))) (Lq.drop (fun y => yH n y count k) rfl (fun _ => qGC) x k) Lq.non fun v _ => ?_
 exact Lq.drop (fun y => match y with
   | [] => none
   | h :: _ => some (yX letter v.1 rows v.2 h)) rfl (fun y => match y with
   | [] => Lq.non
   | _ :: _ => Lq.same) x v.2
theorem qOZ : ∀ {x : List Nat}, Lq (ye x) (ye (x ++ R))
 | [] => Lq.non
 | [c] => by
  show Lq (ye [c]) (ye (c :: R))
  unfold ye
  exact Lq.ite Lq.non (Lq.ite Lq.non Lq.same)
 | [c, d] => by
  show Lq (ye [c, d]) (ye (c :: d :: R))
  unfold ye
  exact Lq.ite Lq.same (Lq.ite (Lq.ite Lq.non Lq.same) Lq.same)
 | c :: d :: e :: y => by
  show Lq (ye (c :: d :: e :: y)) (ye (c :: d :: e :: (y ++ R)))
  unfold ye
  exact Lq.ite Lq.same (Lq.ite (Lq.ite Lq.same Lq.same) Lq.same)
theorem qAP {num k : Nat} {good : Bool} {x : List Nat} : Lq (va num good k x) (va num good k (x ++ R)) := by
 unfold va
 exact Lq.cs (dJ (R := R)) Lq.non fun _ _ => Lq.same
theorem qJA {num k : Nat} {good : Bool} : ∀ {x : List Nat}, Lq (yB num good k x) (yB num good k (x ++ R))
 | [] => Lq.non
 | c :: x => by
  show Lq (yB num good k (c :: x)) (yB num good k (c :: (x ++ R)))
  unfold yB
  exact Lq.ite (Lq.cs (ut (x := c :: x) (R := R)) Lq.non fun w _ => Lq.drop (va num false (k + w.2.2)) rfl (fun _ => qAP) (c :: x) w.2.2) (qAP (x := c :: x))
theorem qNW : ∀ {x : List Nat}, Lq (vt x) (vt (x ++ R))
 | [] => Lq.non
 | [c] => by
  show Lq (vt [c]) (vt (c :: R))
  unfold vt
  exact Lq.ite Lq.non Lq.same
 | c :: d :: y => Lq.same (a := vt (c :: d :: y))
theorem qLE {x : List Nat} : Lq (gu x) (gu (x ++ R)) := by
 unfold gu
 refine Lq.cs (qNW (R := R)) Lq.non fun base _ => ?_
 dsimp only
 refine Lq.cs (Lq.drop (kP base 0 false (if base = 10 then 0 else 2)) rfl (fun _ => ut) x (if base = 10 then 0 else 2)) Lq.non fun w _ => ?_
 obtain ⟨num, good, k⟩ := w
 dsimp only
 refine Lq.cs (Lq.ite (Lq.drop ye rfl (fun _ => qOZ) x k) Lq.same) Lq.non fun b _ => ?_
 cases b with
 | true => exact Lq.same
 | false => exact Lq.cs (Lq.drop (yB num good k) rfl (fun _ => qJA) x k) Lq.non fun _ _ => Lq.same
theorem qAZ : ∀ {x : List Nat}, Lq (jm x) (jm (x ++ R))
 | [] => Lq.non
 | [_] => Lq.non
 | [a, c] => by
  show Lq (jm [a, c]) (jm (a :: c :: R))
  unfold jm
  exact Lq.ite Lq.non (Lq.ite Lq.non Lq.same)
 | a :: c :: d :: r => Lq.same (a := jm (a :: c :: d :: r))
theorem qJN {x : List Nat} : Lq (vb x) (vb (x ++ R)) := by
 unfold vb
 exact Lq.cs (dM (R := R)) Lq.non fun n hn => by dsimp only; rw [List.take_append_of_le_length (uV hn)]; exact Lq.same
theorem qA4 {w : Nat} {a b : Option (List Nat × List Row × Nat)} (h : Lq a b) : Lq (ya w a) (ya w b) := Lq.cs h Lq.non fun _ _ => Lq.same
theorem wj {a b : Option Res} (h : Lq a b) : Lq (qAV a) (qAV b) := Lq.cs h Lq.non fun _ _ => Lq.same
theorem qNS : ∀ {x : List Nat}, Lq (kb x) (kb (x ++ R))
 | [] => Lq.non
 | [_] => Lq.non
 | a :: d :: r => by
  show Lq (kb (a :: d :: r)) (kb (a :: d :: (r ++ R)))
  unfold kb
  refine Lq.ite (qA4 dW) (Lq.ite (Lq.cs (dM (x := d :: r) (R := R)) Lq.non fun n hn => ?_) Lq.same)
  have e : (d :: (r ++ R)).take n = (d :: r).take n := List.take_append_of_le_length (uV hn)
  dsimp only; rw [e]; exact Lq.same
theorem qJF {n : Nat} : ∀ {x : List Nat}, Lq (zS n x) (zS n (x ++ R))
 | [] => Lq.non
 | c :: x => by
  show Lq (zS n (c :: x)) (zS n (c :: (x ++ R)))
  unfold zS
  refine Lq.ite (qJN (x := c :: x)) (Lq.ite (qLE (x := c :: x)) (Lq.ite (qA4 dU) (Lq.ite (wj (qIH (x := c :: x))) (Lq.ite (qNS (x := c :: x)) (Lq.ite ?_ (Lq.ite Lq.same (Lq.ite Lq.same (wj (qAZ (x := c :: x))))))))))
  cases x with
  | nil => exact Lq.non
  | cons d y => exact Lq.ite Lq.same (wj (qAZ (x := c :: d :: y)))
end
noncomputable def parting : List Nat := [40, 41, 91, 93, 123, 125, 44, 59, 126, 58]
noncomputable def qOC : List Nat := [32, 10, 9, 13, 11, 160, 47, 133, 5760]
noncomputable def wi (l c : Nat) : Prop := (c ∈ qOC ∧ ¬ (l = 47 ∧ c = 47)) ∨ c ∈ parting ∨ l ∈ parting
noncomputable abbrev yG := Int × Nat
noncomputable def gP (P : List Nat) (r : yG) : List PV := if r.1 = 1056 then (match P[r.2]? with
 | some c => [.str [c]]
 | none => []) else []
noncomputable def gK (P : List Nat) (r : yG) : Row := (r.1, r.2, gP P r)
noncomputable def qM4 (s : List Nat) : Bool := s.all fun c => decide (c < E)
noncomputable def qVK : PV → Bool
 | .int _ => true
 | _ => false
noncomputable def qVM : PV → Bool
 | .str s => qM4 s
 | _ => false
noncomputable def qVY : List PV → Bool
 | [] => false
 | a :: r => qVM a && r.isEmpty
noncomputable def qVZ : List PV → Bool
 | [] => false
 | a :: r => qVK a && qVY r
noncomputable def j1 : PV → Bool
 | .int _ => true
 | .str s => qM4 s
 | .tup l => qVZ l
 | _ => false
@[elab_as_elim] theorem okVal_elim {P : PV → Prop} {v : PV} (h : j1 v = true) (h1 : ∀ i, P (.int i)) (h2 : ∀ s, qM4 s = true → P (.str s)) (h3 : ∀ i s, qM4 s = true → P (.tup [.int i, .str s])) : P v := by
 cases v with
 | int i => exact h1 i
 | str s => exact h2 s h
 | tup l => cases l with
  | nil => exact Bool.noConfusion h
  | cons a l =>
   have h := Bool.and_eq_true_iff.mp h
   cases a with
   | int i => cases l with
    | nil => exact Bool.noConfusion h.2
    | cons b l =>
     have q := Bool.and_eq_true_iff.mp h.2
     cases b with
     | str s => cases l with
      | nil => exact h3 i s q.1
      | cons => exact Bool.noConfusion q.2
     | _ => exact Bool.noConfusion q.1
   | _ => exact Bool.noConfusion h.1
 | _ => exact Bool.noConfusion h
theorem vo {s : List Nat} (h : ∀ c ∈ s, c < E) : j1 (.str s) = true := List.all_eq_true.mpr fun c hc => decide_eq_true (h c hc)
theorem qLV {i : Int} {s : List Nat} (h : ∀ c ∈ s, c < E) : j1 (.tup [.int i, .str s]) = true := (Bool.and_true _).trans (vo h)
theorem vJ {v : PV} (h : j1 v = true) : v.solid = true := okVal_elim (P := fun v => v.solid = true) h (fun _ => rfl) (fun _ _ => rfl) fun _ _ _ => rfl
structure Good (P : List Nat) (toks : List Tok) (rows : List yG) : Prop where
 ne : P ≠ []
 lt : ∀ c ∈ P, c < E
 len : P.length ≤ 64
 tl : toks.length ≤ 3
 rl : rows.length ≤ 3
 pl : ∀ r ∈ rows, r.2 < P.length
 sol : ∀ t ∈ toks, j1 t.2.1 = true
 go : ∃ m, ∀ N p tk rw c R, wi (P.getLastD 0) c → c ≠ E → ji (N + 1 + m) p (P ++ c :: R) tk rw = ji (N + 1) (p + P.length) (c :: R) (tk ++ toks.map (shT p)) (rw ++ rows.map fun r => shR p (gK P r))
noncomputable def jA : List Nat → Bool
 | c :: d :: _ => !z5 c && !decide (c = E) && !(decide (c = 47) && (decide (d = 47) || decide (d = 42)))
 | _ => false
theorem ui {x : List Nat} {p : Nat} (h : jA x = true) : ∃ c r, x = c :: r ∧ c ≠ E ∧ qo 0 p 0 x = some ([], p, x) := by
 match x with
 | [] => cases h
 | [_] => cases h
 | c :: d :: r =>
  unfold jA at h
  simp only [Bool.and_eq_true, Bool.not_eq_true', decide_eq_false_iff_not] at h
  obtain ⟨⟨h1, h2⟩, h3⟩ := h
  refine ⟨c, d :: r, rfl, h2, ?_⟩
  show (if z5 c then _ else _) = _
  rw [h1]
  simp only [Bool.false_eq_true, if_false]
  by_cases h47 : c = 47
  ·refine (if_pos h47).trans ?_
   simp only [h47, decide_true, Bool.true_and, Bool.or_eq_false_iff, decide_eq_false_iff_not] at h3
   exact (if_neg h3.1).trans (if_neg h3.2)
  ·exact (if_neg h47)
theorem qKB {x R : List Nat} (h : jA x = true) : jA (x ++ R) = true := by
 match x with
 | [] => cases h
 | [_] => cases h
 | c :: d :: r => exact h
theorem qTW (p k : Nat) (t : Tok) : shT p (shT k t) = shT (p + k) t := by
 unfold shT; simp only [Nat.add_assoc]
theorem qTV (p k : Nat) (t : Row) : shR p (shR k t) = shR (p + k) t := by
 unfold shR; simp only [Nat.add_assoc]
noncomputable def dz : Nat → Nat → List Nat → Option (List Tok × List Row × Nat × List Nat)
 | 0, k, x => some ([], [], k, x)
 | m + 1, k, x => if jA x then (match zS 200 x with
  | some (.ok q) => if q.k ≤ x.length then (match dz m (k + q.k) (x.drop q.k) with
   | some (t, r, k', y) => some (q.toks.map (shT k) ++ t, q.rows.map (shR k) ++ r, k', y)
   | none => none) else none
  | _ => none) else none
theorem yl {n p : Nat} {x : List Nat} {tk : List Tok} {rw : List Row} {q : Res} (h1 : jA x = true) (h2 : zS 200 x = some (.ok q)) : ji (n + 1) p x tk rw = ji n (p + q.k) (x.drop q.k) (tk ++ q.toks.map (shT p)) (rw ++ q.rows.map (shR p)) := by
 obtain ⟨c, r, rfl, hc, hb⟩ := ui (p := p) h1
 rw [dK, hb]
 dsimp only
 rw [if_neg hc, h2]
 dsimp only
 rw [List.append_nil]
theorem dp : ∀ {m k : Nat} {x : List Nat} {t : List Tok} {r : List Row} {k' : Nat} {y : List Nat}, dz m k x = some (t, r, k', y) → ∀ N p tk rw R, ji (N + m) (p + k) (x ++ R) tk rw = ji N (p + k') (y ++ R) (tk ++ t.map (shT p)) (rw ++ r.map (shR p))
 | 0, k, x, t, r, k', y, h, N, p, tk, rw, R => by
  cases h
  simp
 | m + 1, k, x, t, r, k', y, h, N, p, tk, rw, R => by
  unfold dz at h
  cases hs : jA x with
  | false => replace h := hs ▸ h; exact qH h
  | true =>
   replace h := hs ▸ h
   simp only [if_true] at h
   cases ho : zS 200 x with
   | none => rw [ho] at h; exact qH h
   | some o =>
    rw [ho] at h
    cases o with
    | left code => exact qH h
    | ok q =>
     dsimp only at h
     by_cases hk : q.k ≤ x.length
     ·replace h := ifp hk h
      cases hz : dz m (k + q.k) (x.drop q.k) with
      | none => rw [hz] at h; exact qH h
      | some z =>
       obtain ⟨t1, r1, k1, y1⟩ := z
       replace h := hz ▸ h
       cases h
       rw [← Nat.add_assoc, yl (qKB hs) (qJF _ ho), List.drop_append_of_le_length hk, Nat.add_assoc, dp hz]
       simp only [List.map_append, List.map_map, List.append_assoc]
       congr 1
       ·congr 2
        apply List.map_congr_left
        intro a _
        exact (qTW p k a).symm
       ·congr 2
        apply List.map_congr_left
        intro a _
        exact (qTV p k a).symm
     ·replace h := ifn hk h; exact qH h
theorem qCY {n p z : Nat} {y : List Nat} {tk : List Tok} {rw : List Row} (h : z5 z = true) : ji (n + 1) p (z :: y) tk rw = ji (n + 1) (p + 1) y tk rw := by
 have : qo 0 p 0 (z :: y) = qo 0 (p + 1) 0 y := by
  show (if z5 z then _ else _) = _
  rw [h]; rfl
 rw [dK, dK, this]
theorem qAS {n : Nat} {y : List Nat} {tk : List Tok} {rw : List Row} : ∀ {Z : List Nat} {p : Nat}, Z.all z5 = true → ji (n + 1) p (Z ++ y) tk rw = ji (n + 1) (p + Z.length) y tk rw
 | [], p, h => rfl
 | z :: Z, p, h => by
  rw [List.all_cons, Bool.and_eq_true] at h
  rw [List.cons_append, qCY h.1, qAS h.2, List.length_cons, show p + 1 + Z.length = p + (Z.length + 1) by lia]
noncomputable def eqA (a b : PV) : Bool := match a with
 | .str x => (match b with
  | .str y => decide (x = y)
  | _ => false)
 | .int x => (match b with
  | .int y => decide (x = y)
  | _ => false)
 | _ => false
noncomputable def qVC : List PV → List PV → Bool
 | [], [] => true
 | x :: xs, y :: ys => eqA x y && qVC xs ys
 | _, _ => false
noncomputable def qVD (a b : PV) : Bool := match a with
 | .tup l => (match b with
  | .tup m => qVC l m
  | _ => false)
 | a => eqA a b
theorem qE3 {a b : PV} (h : eqA a b = true) : a = b := by
 cases a with
 | str x => cases b with
  | str y => exact congrArg PV.str (of_decide_eq_true h)
  | _ => exact Bool.noConfusion h
 | int x => cases b with
  | int y => exact congrArg PV.int (of_decide_eq_true h)
  | _ => exact Bool.noConfusion h
 | _ => exact Bool.noConfusion h
theorem qCE : ∀ {a b : List PV}, qVC a b = true → a = b
 | [], [], _ => rfl
 | x :: xs, y :: ys, h => by
  have h := Bool.and_eq_true_iff.mp h
  rw [qE3 h.1, qCE h.2]
 | [], _ :: _, h => Bool.noConfusion h
 | _ :: _, [], h => Bool.noConfusion h
theorem qCF {a b : PV} (h : qVD a b = true) : a = b := by
 cases a with
 | tup l => cases b with
  | tup m => exact congrArg PV.tup (qCE h)
  | _ => exact Bool.noConfusion h
 | _ => exact qE3 h
noncomputable def qCH : List Tok → List Tok → Bool
 | [], [] => true
 | (a, v, i) :: x, (b, w, j) :: y => decide (a = b) && (qVD v w && (decide (i = j) && qCH x y))
 | _, _ => false
theorem vZ : ∀ {a b : List Tok}, qCH a b = true → a = b
 | [], [], _ => rfl
 | (a, v, i) :: x, (b, w, j) :: y, h => by
  have h1 := Bool.and_eq_true_iff.mp h
  have h2 := Bool.and_eq_true_iff.mp h1.2
  have h3 := Bool.and_eq_true_iff.mp h2.2
  rw [of_decide_eq_true h1.1, qCF h2.1, of_decide_eq_true h3.1, vZ h3.2]
 | [], _ :: _, h => Bool.noConfusion h
 | _ :: _, [], h => Bool.noConfusion h
noncomputable def qP6 : List PV → List PV → Bool
 | [], [] => true
 | v :: x, w :: y => qVD v w && qP6 x y
 | _, _ => false
theorem qAK : ∀ {a b : List PV}, qP6 a b = true → a = b
 | [], [], _ => rfl
 | v :: x, w :: y, h => by
  have h := Bool.and_eq_true_iff.mp h
  rw [qCF h.1, qAK h.2]
 | [], _ :: _, h => Bool.noConfusion h
 | _ :: _, [], h => Bool.noConfusion h
noncomputable def qCG : List Row → List Row → Bool
 | [], [] => true
 | (a, i, v) :: x, (b, j, w) :: y => decide (a = b) && (decide (i = j) && (qP6 v w && qCG x y))
 | _, _ => false
theorem vY : ∀ {a b : List Row}, qCG a b = true → a = b
 | [], [], _ => rfl
 | (a, v, i) :: x, (b, w, j) :: y, h => by
  have h1 := Bool.and_eq_true_iff.mp h
  have h2 := Bool.and_eq_true_iff.mp h1.2
  have h3 := Bool.and_eq_true_iff.mp h2.2
  rw [of_decide_eq_true h1.1, of_decide_eq_true h2.1, qAK h3.1, vY h3.2]
 | [], _ :: _, h => Bool.noConfusion h
 | _ :: _, [], h => Bool.noConfusion h
noncomputable def chk (m : Nat) (P : List Nat) (T : List Tok) (Rw : List Row) (c : List Nat) : Bool := match dz m 0 (P ++ c) with
 | some (t, r, k, y) => qCH t T && (qCG r Rw && (decide (y = P.drop k ++ c) && ((P.drop k).all z5 && decide (k ≤ P.length))))
 | none => false
theorem qMQ {m : Nat} {P : List Nat} {T : List Tok} {Rw : List Row} {c : List Nat} (h : chk m P T Rw c = true) (N p : Nat) (tk rw R) : ji (N + 1 + m) p (P ++ (c ++ R)) tk rw = ji (N + 1) (p + P.length) (c ++ R) (tk ++ T.map (shT p)) (rw ++ Rw.map (shR p)) := by
 unfold chk at h
 cases hs : dz m 0 (P ++ c) with
 | none => replace h := hs ▸ h; cases h
 | some z =>
  obtain ⟨t, r, k, y⟩ := z
  rw [hs] at h
  simp only [Bool.and_eq_true] at h
  obtain ⟨h1, h2, h3, h4, h5⟩ := h
  have h1 := vZ h1
  have h2 := vY h2
  have h3 := of_decide_eq_true h3
  have h5 := of_decide_eq_true h5
  subst h1 h2 h3
  have := dp hs (N + 1) p tk rw R
  rw [List.append_assoc, List.append_assoc] at this
  refine Eq.trans this ?_
  rw [qAS h4, List.length_drop, show p + k + (P.length - k) = p + P.length by lia]
noncomputable def qDF (P : List Nat) (T : List Tok) (Rw : List yG) : Bool := decide (P ≠ []) && (P.all (fun c => decide (c < E)) && (decide (P.length ≤ 64) && (decide (T.length ≤ 3) && (decide (Rw.length ≤ 3) && (Rw.all (fun r => decide (r.2 < P.length)) && T.all (fun t => j1 t.2.1))))))
theorem qGK {P : List Nat} {T : List Tok} {Rw : List yG} (h : qDF P T Rw = true) (hg : ∃ m, ∀ N p tk rw c R, wi (P.getLastD 0) c → c ≠ E → ji (N + 1 + m) p (P ++ c :: R) tk rw = ji (N + 1) (p + P.length) (c :: R) (tk ++ T.map (shT p)) (rw ++ (Rw.map (gK P)).map (shR p))) : Good P T Rw := by
 simp only [qDF, Bool.and_eq_true] at h
 obtain ⟨h1, h2, h3, h4, h5, h6, h7⟩ := h
 refine ⟨of_decide_eq_true h1, fun c hc => of_decide_eq_true (List.all_eq_true.mp h2 c hc), of_decide_eq_true h3, of_decide_eq_true h4, of_decide_eq_true h5, fun r hr => of_decide_eq_true (List.all_eq_true.mp h6 r hr), fun t ht => List.all_eq_true.mp h7 t ht, ?_⟩
 obtain ⟨m, hm⟩ := hg
 refine ⟨m, fun N p tk rw c R h1 h2 => ?_⟩
 rw [hm N p tk rw c R h1 h2, List.map_map]
 rfl
noncomputable def uj (m : Nat) (P : List Nat) (T : List Tok) (Rw : List yG) : Bool := qDF P T Rw && chk m P T (Rw.map (gK P)) []
theorem wY {m : Nat} {P : List Nat} {T : List Tok} {Rw : List yG} (h : uj m P T Rw = true) : Good P T Rw := by
 simp only [uj, Bool.and_eq_true] at h
 exact qGK h.1 ⟨m, fun N p tk rw c R _ _ => qMQ h.2 N p tk rw (c :: R)⟩
noncomputable def qJQ (l : Nat) : List Nat := (qOC ++ parting).filter fun c => !(decide (l = 47) && decide (c = 47))
noncomputable def d9 (m : Nat) (P : List Nat) (T : List Tok) (Rw : List yG) : Bool := qDF P T Rw && (decide (P.getLastD 0 ∉ parting) && (qJQ (P.getLastD 0)).all fun c => chk m P T (Rw.map (gK P)) [c])
theorem kD {l c : Nat} (hl : l ∉ parting) (h : wi l c) : c ∈ qJQ l := by
 unfold qJQ
 rw [List.mem_filter, List.mem_append]
 rcases h with ⟨h1, h2⟩ | h | h
 ·refine ⟨.inl h1, ?_⟩
  by_cases a : l = 47 <;> by_cases b : c = 47 <;> simp [a, b]
  exact h2 ⟨a, b⟩
 ·refine ⟨.inr h, ?_⟩
  have : c ≠ 47 := fun q => by subst q; revert h; decide
  simp [this]
 ·exact absurd h hl
theorem df {m : Nat} {P : List Nat} {T : List Tok} {Rw : List yG} (h : d9 m P T Rw = true) : Good P T Rw := by
 simp only [d9, Bool.and_eq_true] at h
 refine qGK h.1 ⟨m, fun N p tk rw c R h1 _ => ?_⟩
 have := List.all_eq_true.mp h.2.2 c (kD (of_decide_eq_true h.2.1) h1)
 exact qMQ this N p tk rw R
noncomputable def qBJ (m : Nat) (P : List Nat) (T : List Tok) (Rw : List yG) : Bool := qDF P T Rw && (match dz m 0 P with
 | some (t, r, k, [s]) => qCH (t ++ [(6, .str [s], k)]) T && (qCG r (Rw.map (gK P)) && (decide (s ∈ parting) && decide (k + 1 = P.length)))
 | _ => false)
theorem qOP {s c : Nat} {R : List Nat} (h : s ∈ parting) : jA (s :: c :: R) = true ∧ zS 200 (s :: c :: R) = some (.ok { toks := [(6, .str [s], 0)], k := 1 }) := by
 have h2 : ∀ c, [s, c] ∉ zt := by
  intro c hc
  have : ∀ w ∈ zt, w.length = 2 → w.headD 0 ∉ parting := by decide +kernel
  exact this _ hc rfl h
 have h3 : ∀ s ∈ parting, [s] ∈ zt ∧ s ≠ 60 ∧ s ≠ 62 ∧ z5 s = false ∧ s ≠ E ∧ s ≠ 47 ∧ zJ s = false ∧ qIO s = false ∧ s ≠ 34 ∧ s ≠ 39 ∧ s ≠ 64 ∧ s ≠ 46 ∧ s ≠ 35 ∧ s ≠ 36 := by decide
 obtain ⟨a1, a2, a3, a4, a5, a6, a7, a8, a9, a10, a11, a12, a13, a14⟩ := h3 s h
 constructor
 ·unfold jA
  simp [a4, a5, a6]
 ·unfold zS
  dsimp only
  simp only [a7, a8, Bool.false_eq_true, if_false]
  refine (if_neg a9).trans ((if_neg a10).trans ((if_neg a11).trans ((if_neg a12).trans ((if_neg a13).trans ((if_neg a14).trans ?_)))))
  unfold jm
  dsimp only
  rw [if_neg (fun q => a2 q.1), if_neg (fun q => a3 q.1), if_neg (h2 c), if_pos a1]
  rfl
theorem qFA {m : Nat} {P : List Nat} {T : List Tok} {Rw : List yG} (h : qBJ m P T Rw = true) : Good P T Rw := by
 simp only [qBJ, Bool.and_eq_true] at h
 obtain ⟨hp, h⟩ := h
 cases hs : dz m 0 P with
 | none => replace h := hs ▸ h; cases h
 | some z =>
  obtain ⟨t, r, k, y⟩ := z
  rw [hs] at h
  match y with
  | [] => cases h
  | [s] =>
   simp only [Bool.and_eq_true] at h
   obtain ⟨h1, h2, h3, h4⟩ := h
   have h1 := vZ h1
   have h2 := vY h2
   have h3 := of_decide_eq_true h3
   have h4 := of_decide_eq_true h4
   refine qGK hp ⟨m + 1, fun N p tk rw c R _ _ => ?_⟩
   have := dp hs (N + 1 + 1) p tk rw (c :: R)
   rw [show N + 1 + (m + 1) = N + 1 + 1 + m by lia]
   refine Eq.trans this ?_
   obtain ⟨g1, g2⟩ := qOP (c := c) (R := R) h3
   rw [List.singleton_append, yl g1 g2, ← h1, ← h2, ← h4]
   simp only [List.map_append, List.append_assoc, List.map_nil, List.append_nil, List.drop_one, List.tail_cons, List.map_cons]
   rfl
  | _ :: _ :: _ => cases h
end Mine
end
noncomputable section
open PySem PySem.W PySem.Calls PyProof.Rows
set_option maxRecDepth 100000
set_option genInjectivity false
namespace Mine
noncomputable def yF (c : Nat) : List Nat → List (List Nat)
 | [] => [[]]
 | a :: r => if a = c then [] :: yF c r else (match yF c r with
  | [] => [[a]]
  | h :: t => (a :: h) :: t)
theorem qDU {c : Nat} {r : List Nat} : ∀ {p : List Nat}, c ∉ p → yF c (p ++ c :: r) = p :: yF c r
 | [], h => by simp [yF]
 | a :: p, h => by
  simp only [List.mem_cons, not_or] at h
  rw [List.cons_append, yF, if_neg (fun q => h.1 q.symm), qDU h.2]
theorem qA0 {c : Nat} : ∀ {p : List Nat}, c ∉ p → yF c p = [p]
 | [], h => rfl
 | a :: p, h => by
  simp only [List.mem_cons, not_or] at h
  rw [yF, if_neg (fun q => h.1 q.symm), qA0 h.2]
theorem qA1 (c : Nat) : ∀ parts : List PySem.Str, parts ≠ [] → (∀ p ∈ parts, c ∉ p.cps.toList) → yF c (Str.join ⟨#[c]⟩ parts).cps.toList = parts.map fun t => t.cps.toList
 | [], h, _ => absurd rfl h
 | [p], _, h => qA0 (h p (List.mem_singleton.mpr rfl))
 | p :: q :: r, _, h => by
  have ih := qA1 c (q :: r) (by simp) fun a ha => h a (List.mem_cons_of_mem _ ha)
  show yF c (p ++ ⟨#[c]⟩ ++ Str.join ⟨#[c]⟩ (q :: r)).cps.toList = _
  simp only [Str.cps_append, Array.toList_append]
  rw [List.append_assoc, show ([c] : List Nat) ++ (Str.join ⟨#[c]⟩ (q :: r)).cps.toList = c :: (Str.join ⟨#[c]⟩ (q :: r)).cps.toList from rfl, qDU (h p (List.mem_cons_self ..)), ih]
  rfl
theorem qR3 (T : List Nat) (c : Nat) : (Txt.split ⟨T.toArray⟩ ⟨#[c]⟩).map (fun t => t.cps.toList) = yF c T := by
 have h := qA1 c (Txt.split ⟨T.toArray⟩ ⟨#[c]⟩) (by
  have := split_pos ⟨T.toArray⟩ ⟨#[c]⟩
  intro q
  rw [q] at this
  simp at this) (StrLaws.split_free ⟨T.toArray⟩ c)
 rw [StrLaws.join_split] at h
 exact h.symm
theorem qC1 (c z : Nat) : ∀ l : List Nat, c ∉ l → l.map (fun a => if a = c then z else a) = l
 | [], _ => rfl
 | a :: l, h => by
  simp only [List.mem_cons, not_or] at h
  rw [List.map_cons, if_neg (fun q => h.1 q.symm), qC1 c z l h.2]
theorem qJK (c z : Nat) : ∀ parts : List PySem.Str, (∀ p ∈ parts, c ∉ p.cps.toList) → (Str.join ⟨#[c]⟩ parts).cps.toList.map (fun a => if a = c then z else a) = (Str.join ⟨#[z]⟩ parts).cps.toList
 | [], _ => rfl
 | [p], h => qC1 c z _ (h p (List.mem_singleton.mpr rfl))
 | p :: q :: r, h => by
  have ih := qJK c z (q :: r) fun a ha => h a (List.mem_cons_of_mem _ ha)
  show (p ++ ⟨#[c]⟩ ++ Str.join ⟨#[c]⟩ (q :: r)).cps.toList.map _ = (p ++ ⟨#[z]⟩ ++ Str.join ⟨#[z]⟩ (q :: r)).cps.toList
  simp only [Str.cps_append, Array.toList_append, List.map_append]
  rw [ih, qC1 c z _ (h p (List.mem_cons_self ..))]
  simp
theorem qTT (T : List Nat) (c z : Nat) : (Txt.replace ⟨T.toArray⟩ ⟨#[c]⟩ ⟨#[z]⟩).cps.toList = T.map fun a => if a = c then z else a := by
 rw [StrLaws.replace_one, ← qJK c z _ (StrLaws.split_free _ c), StrLaws.join_split]
noncomputable def qj (r : yG) : PV := .tup [.int r.1, .int r.2]
noncomputable def jJ (P : List Nat) (T : List Tok) (R : List yG) : PV := .tup [.str P, .fl (T.map qd), .fl (R.map qj)]
section
variable {st st1 st2 : St} {e a b : EC} {n m k i : Nat} {j : Int} {u : PV} {g : G}
theorem qQG (a b : Nat) : (a : Int).fmod (b : Int) = ((a % b : Nat) : Int) := by
 rw [Int.fmod_eq_emod_of_nonneg _ (by lia)]; rfl
theorem qQD (a b : Nat) : (a : Int).fdiv (b : Int) = ((a / b : Nat) : Int) := by
 rw [Int.fdiv_eq_ediv_of_nonneg _ (by lia)]; rfl
theorem ne0 (hk : k ≠ 0) : ((k : Int) != 0) = true := bne_iff_ne.mpr (Int.natCast_ne_zero.mpr hk)
theorem qF8 (hk : k ≠ 0) : bop .mod (.int n) (.int k) = some (.int (n % k : Nat)) := by
 show (if ((k : Int) != 0) = true then some (PV.int ((n : Int).fmod k)) else none) = _
 rw [if_pos (ne0 hk), qQG]
theorem qMN (hk : k ≠ 0) (hs : k < 1073741824) : bop .fdiv (.int n) (.int k) = some (.int (n / k : Nat)) := by
 show (if (small k && ((k : Int) != 0)) = true then some (PV.int ((n : Int).fdiv k)) else none) = _
 rw [if_pos (jo (show small (k : Int) = true from decide_eq_true hs) (ne0 hk)), qQD]
theorem vO (hj : j = (k : Int)) (hk : k ≠ 0) (h : e st = some (.int n, st)) : qY .mod e (eC (.int j)) st = some (.int ((n % k : Nat) : Int), st) := hj ▸ op2 (f := bop .mod) h x_c (qF8 hk)
theorem qEA (hk : k ≠ 0) (h : e st = some (.int n, st)) (h2 : a st = some (.int k, st)) : qY .mod e a st = some (.int ((n % k : Nat) : Int), st) := op2 (f := bop .mod) h h2 (qF8 hk)
theorem ki (hj : j = (k : Int)) (hk : k ≠ 0) (hs : k < 1073741824) (h : e st = some (.int n, st)) : qY .fdiv e (eC (.int j)) st = some (.int ((n / k : Nat) : Int), st) := hj ▸ op2 (f := bop .fdiv) h x_c (qMN hk hs)
theorem uC (hj : j = (k : Int)) (h : e st = some (.int n, st)) : tE (qQ .eq e (eC (.int j))) st = some (decide (n = k), st) := hj ▸ zl (z0 h x_c (congrArg some (decide_eq_decide.mpr Int.ofNat_inj)))
theorem d4 {L : List PV} (hi : i < L.length) (h : a st = some (.fl L, st)) (h2 : b st = some (.int i, st)) : zm a b st = some (L[i], st) := op2 (f := gE) h h2 (by
 show (if (0 : Int) ≤ i then L[i]? else none) = _
 rw [if_pos (Int.natCast_nonneg i), List.getElem?_eq_getElem hi])
theorem ka {L : List PV} (h : a st = some (.fl L, st)) : zn a st = some (.int L.length, st) := op1 (f := qTJ) h rfl
theorem qHV {L : List Nat} (h : a st = some (.str L, st)) : zn a st = some (.int L.length, st) := op1 (f := qTJ) h rfl
theorem je {a b c : EC} {x y z : PV} (h1 : a st = some (x, st)) (h2 : b st = some (y, st)) (h3 : c st = some (z, st)) : qZ (qB a (qB b (qB c qI))) st = some (.tup [x, y, z], st) := (qa (ze h1 (ze h2 (ze h3 rfl)))).trans rfl
theorem qBT {a : EC} {x : PV} (h1 : a st = some (x, st)) : zi (qB a qI) st = some (.fl [x], st) := (qa (ze h1 rfl)).trans rfl
theorem vh : zi qI st = some (.fl [], st) := rfl
theorem qNQ {t : List Nat} {z : Nat} (ht : t.length ≤ 4096) (h : e st = some (.str t, st)) : yh e [z] st = some (.fl ((yF z t).map .str), st) := by
 have h1 := qR3 t z
 have h2 : (Txt.split ⟨t.toArray⟩ ⟨#[z]⟩).length ≤ line := by
  have := split_le ⟨t.toArray⟩ ⟨#[z]⟩
  have e2 : (⟨t.toArray⟩ : PySem.Str).length = t.length := by simp [PySem.Str.length]
  rw [e2] at this
  exact Nat.le_trans this (Nat.le_trans (Nat.add_le_add_right ht 2) (by decide))
 have h3 : ((Txt.split ⟨t.toArray⟩ ⟨#[z]⟩).all fun t => decide (t.cps.toList.length ≤ line)) = true := by
  rw [List.all_eq_true]
  intro a ha
  have := part_short ha
  have e2 : (⟨t.toArray⟩ : PySem.Str).length = t.length := by simp [PySem.Str.length]
  rw [e2] at this
  have e3 : a.cps.toList.length = a.length := by simp [PySem.Str.length]
  rw [e3]
  exact decide_eq_true (Nat.le_trans this (Nat.le_trans ht (by decide)))
 refine op1 (f := wr [z]) h (Eq.trans (if_pos ⟨Nat.le_trans ht (by decide), h2, h3⟩) ?_)
 rw [← h1, List.map_map]
 rfl
theorem qWJ {t : List Nat} {c z : Nat} (ht : t.length ≤ 4096) (h : e st = some (.str t, st)) : jt e [c] [z] st = some (.str (t.map fun a => if a = c then z else a), st) := op1 (f := qUV [c] [z]) h (by
 show (if t.length ≤ 4096 ∧ (Txt.replace ⟨t.toArray⟩ ⟨[c].toArray⟩ ⟨[z].toArray⟩).cps.toList.length ≤ line then some (PV.str (Txt.replace ⟨t.toArray⟩ ⟨[c].toArray⟩ ⟨[z].toArray⟩).cps.toList) else none) = _
 rw [qTT t c z, if_pos ⟨ht, by rw [List.length_map]; exact Nat.le_trans ht (by decide)⟩])
noncomputable def qJ0 (t : List Nat) (y z : Nat) : List (List Nat) := yF z (t.map fun a => if a = 10 then y else a)
theorem qHW {t : List Nat} {y z : Nat} (ht : t.length ≤ 4096) : yh (jt (eC (.str t)) [10] [y]) [z] st = some (.fl ((qJ0 t y z).map .str), st) :=
 qNQ (by rw [List.length_map]; exact ht) (qWJ ht x_c)
noncomputable def uA : PV → List Nat
 | .str s => s
 | _ => []
noncomputable def wordsT : List (List Nat) := qJ0 (uA vH) 32 32
noncomputable def namesT : List (List Nat) := qJ0 (uA vF) 32 32
noncomputable def signsT : List (List Nat) := qJ0 (uA vG) 32 32
noncomputable def gluedT : List (List Nat) := qJ0 (uA vE) 124 124
theorem kJ : wordsT.length = 77 := by decide +kernel
theorem gG : namesT.length = 26 := by decide +kernel
theorem qFX : signsT.length = 45 := by decide +kernel
theorem qE9 : gluedT.length = 21 := by decide +kernel
theorem dL {c : Nat} {R : List Nat} (hc : zT c = false) : ∀ {P : List Nat}, P.all zT = true → zo (P ++ c :: R) = some P.length
 | [], _ => by
  rw [List.nil_append, zo, hc]; rfl
 | a :: P, h => by
  rw [List.all_cons, Bool.and_eq_true] at h
  rw [List.cons_append, zo, h.1, if_pos rfl, dL hc h.2]; rfl
theorem qC4 {l c : Nat} (h : c ∈ qJQ l) : zT c = false := by
 have : ∀ c ∈ qOC ++ parting, zT c = false := by decide +kernel
 exact this c (List.mem_filter.mp h).1
noncomputable def wf (P : List Nat) : Bool := decide (P.length ≤ 32) && (P.all (fun c => zT c && (decide (c < E) && decide (c ∉ parting))) && (match P with
 | [] => false
 | c :: _ => zJ c && (!z5 c && (decide (c ≠ E) && decide (c ≠ 47)))))
theorem wg {P : List Nat} (h : wf P = true) : Good P [(if P ∈ y7 then 2 else 1, .str P, 0)] [] ∧ Good (64 :: P) [(1, .str P, 0)] [] := by
 match P with
 | [] => simp [wf] at h
 | c :: P =>
  simp only [wf, Bool.and_eq_true, Bool.not_eq_true'] at h
  obtain ⟨h1, h2, h3, h4, h5, h6⟩ := h
  have h1 := of_decide_eq_true h1
  have h5 := of_decide_eq_true h5
  have h6 := of_decide_eq_true h6
  have hall := List.all_eq_true.mp h2
  have hpart : (c :: P).all zT = true := List.all_eq_true.mpr fun a ha => by
   have := hall a ha
   rw [Bool.and_eq_true] at this
   exact this.1
  have hlt : ∀ a ∈ c :: P, a < E := fun a ha => by
   have := hall a ha
   rw [Bool.and_eq_true, Bool.and_eq_true] at this
   exact of_decide_eq_true this.2.1
  have hlast : ∀ a ∈ c :: P, a ∉ parting := fun a ha => by
   have := hall a ha
   rw [Bool.and_eq_true, Bool.and_eq_true] at this
   exact of_decide_eq_true this.2.2
  have hl1 : (c :: P).getLastD 0 ∈ c :: P := by
   rw [List.getLastD_eq_getLast?, List.getLast?_eq_some_getLast (by simp)]
   exact List.getLast_mem (by simp)
  have hl2 : (64 :: c :: P).getLastD 0 = (c :: P).getLastD 0 := rfl
  constructor
  ·refine ⟨by simp, hlt, by lia, by simp, by simp, by simp, fun t ht => by rw [List.mem_singleton.mp ht]; exact vo hlt, 1, fun N p tk rw d R hn hd => ?_⟩
   have hpd := qC4 (kD (hlast _ hl1) hn)
   have hst : jA (c :: P ++ d :: R) = true := by
    cases P with
    | nil => simp [jA, h4, h5, h6]
    | cons a P => simp [jA, h4, h5, h6]
   have hlen := dL (R := R) hpd hpart
   have ho : zS 200 (c :: P ++ d :: R) = some (.ok { toks := [(if c :: P ∈ y7 then 2 else 1, .str (c :: P), 0)], k := (c :: P).length }) := by
    have htk : List.take (c :: P).length (c :: P ++ d :: R) = c :: P := List.take_left
    rw [List.cons_append] at htk hlen ⊢
    unfold zS vb
    dsimp only
    rw [h3, if_pos rfl, hlen]
    dsimp only
    rw [htk]
   rw [yl hst ho, List.drop_left]
   rfl
  ·refine ⟨by simp, ?_, ?_, by simp, by simp, by simp, fun t ht => by rw [List.mem_singleton.mp ht]; exact vo hlt, 1, fun N p tk rw d R hn hd => ?_⟩
   ·intro a ha
    rcases List.mem_cons.mp ha with q | q
    ·rw [q]; decide
    ·exact hlt a q
   ·rw [List.length_cons]; lia
   ·rw [hl2] at hn
    have hpd := qC4 (kD (hlast _ hl1) hn)
    have hst : jA (64 :: c :: P ++ d :: R) = true := by
     simp only [List.cons_append, jA]
     rfl
    have hlen := dL (R := R) hpd hpart
    have h34 : c ≠ 34 := fun q => by subst q; revert h3; decide
    have ho : zS 200 (64 :: c :: P ++ d :: R) = some (.ok { toks := [(1, .str (c :: P), 0)], k := (64 :: c :: P).length }) := by
     have htk : List.take (c :: P).length (c :: P ++ d :: R) = c :: P := List.take_left
     rw [List.cons_append] at htk hlen
     rw [List.cons_append, List.cons_append]
     show kb (64 :: c :: (P ++ d :: R)) = _
     unfold kb
     dsimp only
     rw [if_neg h34, h3, if_pos rfl, hlen]
     dsimp only
     rw [htk]
     rfl
    rw [yl hst ho, List.drop_left]
    rfl
theorem qD7 : wordsT.all (fun P => wf P && decide (P ∈ y7)) = true := by decide +kernel
theorem qC3 : namesT.all (fun P => wf P && decide (P ∉ y7)) = true := by decide +kernel
theorem qL6 : signsT.all (fun P => d9 1 P [(6, .str P, 0)] [] || qBJ 0 P [(6, .str P, 0)] []) = true := by decide +kernel
noncomputable def yA : Nat → List (List Nat) → List Tok
 | _, [] => []
 | k, w :: r => (6, .str w, k) :: yA (k + w.length) r
noncomputable def qMX (row : List Nat) : Bool := match yF 32 row with
 | P :: ws => d9 ws.length P (yA 0 ws) [] || qBJ (ws.length - 1) P (yA 0 ws) []
 | [] => false
theorem qLB : gluedT.all (fun row => qMX row && decide (row.length ≤ 64)) = true := by decide +kernel
end
noncomputable def gj (o : Option (RV × G)) (g : G) : Prop := ∃ P T R, o = some (.ok (jJ P T R), g) ∧ Good P T R
section
variable {st st1 st2 : St} {e a b : EC} {n m k i : Nat} {j : Int} {u : PV} {g : G}
theorem wJ {L : List (List Nat)} (hk : L.length = k) (h0 : 0 < k) (h : a st = some (.fl (L.map .str), st)) (h2 : b st = some (.int ((n % k : Nat) : Int), st)) : ∃ P ∈ L, zm a b st = some (.str P, st) := by
 have hi : n % k < (L.map PV.str).length := by rw [List.length_map, hk]; exact Nat.mod_lt _ h0
 have hi2 : n % k < L.length := by rw [hk]; exact Nat.mod_lt _ h0
 refine ⟨L[n % k], List.getElem_mem hi2, ?_⟩
 rw [d4 hi h h2, List.getElem_map]
theorem qYW : eC (.int j) st = some (.int j, st) := rfl
theorem yM {sort : PV} {c : EC} {x : PV} (h : c st = some (x, st)) : zi (qB (qZ (qB (eC sort) (qB c (qB (eC (.int 0)) qI)))) qI) st = some (.fl [.tup [sort, x, .int 0]], st) := qBT (je x_c h x_c)
theorem qQ8 (n : Nat) (g : G) : gj (gU [.int n] g) g := by
 obtain ⟨S, hS⟩ : ∃ S : Option PV → Option PV → St, S = fun x y => ⟨[some (.int n), some (.fl (wordsT.map .str)), some (.fl (namesT.map .str)), x, y], [], g⟩ := ⟨_, rfl⟩
 have w1 : qV 1 (yh (jt (eC vH) [10] [32]) [32]) ⟨[some (.int n), none, none, none, none], [], g⟩ = some (.nxt, ⟨[some (.int n), some (.fl (wordsT.map .str)), none, none, none], [], g⟩) := zE (qHW (t := uA vH) (by decide +kernel)) rfl
 have w2 : qV 2 (yh (jt (eC vF) [10] [32]) [32]) ⟨[some (.int n), some (.fl (wordsT.map .str)), none, none, none], [], g⟩ = some (.nxt, S none none) := zE (qHW (t := uA vF) (by decide +kernel)) (by rw [hS]; rfl)
 have l0 : ∀ x y, qC 0 (S x y) = some (.int n, S x y) := fun x y => by rw [hS]; rfl
 have l1 : ∀ x y, qC 1 (S x y) = some (.fl (wordsT.map .str), S x y) := fun x y => by rw [hS]; rfl
 have l2 : ∀ x y, qC 2 (S x y) = some (.fl (namesT.map .str), S x y) := fun x y => by rw [hS]; rfl
 have l3 : ∀ x y, qC 3 (S (some x) y) = some (x, S (some x) y) := fun x y => by rw [hS]; rfl
 have l4 : ∀ x y, qC 4 (S x (some y)) = some (y, S x (some y)) := fun x y => by rw [hS]; rfl
 have p3 : ∀ x y v, za 3 v (S x y) = some (S (some v) y) := fun x y v => by rw [hS]; rfl
 have p4 : ∀ x y v, za 4 v (S x y) = some (S x (some v)) := fun x y v => by rw [hS]; rfl
 have hg : ∀ x y, (S x y).g = g := fun x y => by rw [hS]
 have hls : ∀ x y, (S x y).ls = [] := fun x y => by rw [hS]
 have t0 := uC (k := 0) (j := 0) rfl (vO (k := 3) (j := 3) rfl (by decide) (l0 none none))
 have t1 := uC (k := 1) (j := 1) rfl (vO (k := 3) (j := 3) rfl (by decide) (l0 none none))
 have fin : ∀ P T R x y, yR ⟨[some (.int n), none, none, none, none], [], g⟩ = some (.ret (jJ P T R), S x y) → PV.okRet (jJ P T R) = true → PV.freeze [] (jJ P T R) = jJ P T R → Good P T R → gj (gU [.int n] g) g := by
  intro P T R x y hb ho hf hG
  refine ⟨P, T, R, ?_, hG⟩
  have := zj (np := 1) (nv := 5) (args := [.int n]) (g := g) (b := yR) rfl hb ho
  rw [hls, hg, hf] at this
  exact this
 by_cases h0 : n % 3 = 0
 ·rw [decide_eq_true h0] at t0
  obtain ⟨P, hP, hs⟩ := wJ (a := qC 2) gG (by decide) (l2 none none) (qEA (k := 26) (a := zn (qC 2)) (by decide) (ki (k := 3) (j := 3) rfl (by decide) (by decide) (l0 none none)) ((ka (l2 none none)).trans (by rw [List.length_map, gG])))
  have hok := List.all_eq_true.mp qC3 P hP
  rw [Bool.and_eq_true] at hok
  have hG := (wg hok.1).1
  rw [if_neg (of_decide_eq_true hok.2)] at hG
  refine fin P _ _ (some (.str P)) none ?_ rfl rfl hG
  unfold yR
  rw [qJ w1, qJ w2]
  refine qz ((zM t0).trans ((qJ (zE hs (p3 none none (.str P)))).trans (qz (jI ?_))))
  exact je (l3 _ _) (yM (l3 _ _)) vh
 ·rw [decide_eq_false h0] at t0
  by_cases h1 : n % 3 = 1
  ·rw [decide_eq_true h1] at t1
   obtain ⟨P, hP, hs⟩ := wJ (a := qC 1) kJ (by decide) (l1 none none) (qEA (k := 77) (a := zn (qC 1)) (by decide) (ki (k := 3) (j := 3) rfl (by decide) (by decide) (l0 none none)) ((ka (l1 none none)).trans (by rw [List.length_map, kJ])))
   have hok := List.all_eq_true.mp qD7 P hP
   rw [Bool.and_eq_true] at hok
   have hG := (wg hok.1).1
   rw [if_pos (of_decide_eq_true hok.2)] at hG
   refine fin P _ _ none (some (.str P)) ?_ rfl rfl hG
   unfold yR
   rw [qJ w1, qJ w2]
   rw [qJ ((qr t0).trans rfl)]
   refine qz ((zM t1).trans ((qJ (zE hs (p4 none none (.str P)))).trans (qz (jI ?_))))
   exact je (l4 _ _) (yM (l4 _ _)) vh
  ·rw [decide_eq_false h1] at t1
   have hadd : qY .add (qC 1) (qC 2) (S none none) = some (.fl ((wordsT ++ namesT).map .str), S none none) := by
    rw [List.map_append]
    exact op2 (f := bop .add) (l1 ..) (l2 ..) (qX6 (by rw [List.length_map, List.length_map, kJ, gG]; decide))
   have hlen : qY .add (zn (qC 1)) (zn (qC 2)) (S none none) = some (.int (103 : Nat), S none none) := by
    exact op2 (f := bop .add) (ka (l1 ..)) (ka (l2 ..)) (by rw [List.length_map, List.length_map, kJ, gG]; rfl)
   obtain ⟨P, hP, hs⟩ := wJ (L := wordsT ++ namesT) (k := 103) (by rw [List.length_append, kJ, gG]) (by decide) hadd (qEA (k := 103) (by decide) (ki (k := 3) (j := 3) rfl (by decide) (by decide) (l0 none none)) hlen)
   have hok : wf P = true := by
    rcases List.mem_append.mp hP with q | q
    ·have := List.all_eq_true.mp qD7 P q
     rw [Bool.and_eq_true] at this
     exact this.1
    ·have := List.all_eq_true.mp qC3 P q
     rw [Bool.and_eq_true] at this
     exact this.1
   have hG := (wg hok).2
   have hPl : P.length + 1 ≤ line := Nat.le_trans hG.len (by decide)
   refine fin (64 :: P) _ _ (some (.str P)) none ?_ rfl rfl hG
   unfold yR
   rw [qJ w1, qJ w2]
   rw [qJ ((qr t0).trans rfl), qJ ((qr t1).trans rfl), qJ (zE hs (p3 none none (.str P)))]
   refine qz (jI ?_)
   refine je ?_ (yM (l3 _ _)) vh
   exact op2 (f := bop .add) x_c (l3 ..) (qEE (by rw [Nat.add_comm]; exact hPl))
end
section
variable {st st1 st2 : St} {e a b : EC} {n m k i : Nat} {j : Int} {u : PV} {g : G}
theorem qA8 {f : Fn} {L : List PV} (h : ∀ g, f [] g = some (.ok (.fl L), g)) : qT f qI st = some (.fl L, st) := zQ rfl (zA rfl (h st.g))
noncomputable def qA2 (f : Fn) : List PV := match f [] {} with
 | some (.ok (.fl l), _) => l
 | _ => []
noncomputable def qW4 : PV → List Nat × Int
 | .tup [.str q, .int i] => (q, i)
 | _ => ([], 0)
noncomputable def qQK : PV → List Nat × List Nat
 | .tup [.str q, .str i] => (q, i)
 | _ => ([], [])
noncomputable def qVI : PV → List Nat × List Nat × Int
 | .tup [.str q, .str m, .int i] => (q, m, i)
 | _ => ([], [], 0)
noncomputable def charsT : List (List Nat × Int) := (qA2 yU).map qW4
noncomputable def badT : List (List Nat × List Nat) := (qA2 jO).map qQK
noncomputable def strangeT : List (List Nat) := (qA2 yJ).map uA
noncomputable def plainT : List (List Nat × List Nat) := (qA2 yV).map qQK
noncomputable def piecesT : List (List Nat × List Nat × Int) := (qA2 jw).map qVI
noncomputable def gapsT : List (List Nat) := (qA2 yi).map uA
theorem qN0 (g : G) : yU [] g = some (.ok (.fl (charsT.map fun c => .tup [.str c.1, .int c.2])), g) := rfl
theorem qSL (g : G) : jO [] g = some (.ok (.fl (badT.map fun c => .tup [.str c.1, .str c.2])), g) := rfl
theorem qKD (g : G) : yJ [] g = some (.ok (.fl (strangeT.map .str)), g) := rfl
theorem qOR (g : G) : yV [] g = some (.ok (.fl (plainT.map fun c => .tup [.str c.1, .str c.2])), g) := rfl
theorem qL1 (g : G) : jw [] g = some (.ok (.fl (piecesT.map fun c => .tup [.str c.1, .str c.2.1, .int c.2.2])), g) := rfl
theorem qQJ (g : G) : yi [] g = some (.ok (.fl (gapsT.map .str)), g) := rfl
theorem qNZ : charsT.length = 22 := by decide +kernel
theorem qSK : badT.length = 9 := by decide +kernel
theorem qKC : strangeT.length = 6 := by decide +kernel
theorem qOQ : plainT.length = 7 := by decide +kernel
theorem qL0 : piecesT.length = 32 := by decide +kernel
theorem qI6 : gapsT.length = 16 := by decide +kernel
theorem qK1 : charsT.all (fun c => uj 1 (39 :: c.1 ++ [39]) [(5, .int c.2, 0)] []) = true := by decide +kernel
theorem qPK : badT.all (fun c => d9 1 c.1 [(3, .tup [.int 0, .str c.2], 0)] [(1013, 0)]) = true := by decide +kernel
theorem qHR : strangeT.all (fun c => d9 1 c [] [(if c = [64] then 1646 else 1056, 0)]) = true := by decide +kernel
noncomputable def qW3 : PV → List yG
 | .fl l => l.map fun x => match x with
  | .tup [.int a, .int b] => (a, b.toNat)
  | _ => (0, 0)
 | _ => []
noncomputable def qYH : PV → List Nat × List Nat × List yG
 | .tup [.str q, .str m, f] => (q, m, qW3 f)
 | _ => ([], [], [])
noncomputable def qWZ : PV → List PV
 | .fl l => l
 | _ => []
noncomputable def brokenT : List (List Nat × List Nat × List yG) := (qWZ y5).map qYH
theorem qKY : y5 = .fl (brokenT.map fun c => .tup [.str c.1, .str c.2.1, .fl (c.2.2.map qj)]) := rfl
theorem qKX : brokenT.length = 17 := by decide +kernel
theorem qID : brokenT.all (fun c => match c.1 with
 | q :: _ => if q = 39 then uj 1 c.1 [(5, .int 0, 0)] c.2.2 else uj 1 c.1 [(4, .str c.2.1, 0)] c.2.2
 | [] => false) = true := by decide +kernel
theorem gg {α : Type} {L : List α} {F : α → PV} (hk : L.length = k) (h0 : 0 < k) (h : a st = some (.fl (L.map F), st)) (h2 : b st = some (.int ((n % k : Nat) : Int), st)) : ∃ P ∈ L, zm a b st = some (F P, st) := by
 have hi : n % k < (L.map F).length := by rw [List.length_map, hk]; exact Nat.mod_lt _ h0
 have hi2 : n % k < L.length := by rw [hk]; exact Nat.mod_lt _ h0
 refine ⟨L[n % k], List.getElem_mem hi2, ?_⟩
 rw [d4 hi h h2, List.getElem_map]
theorem qHY {x y : PV} {i j : Nat} {st' st2 : St} (h : e st = some (.tup [x, y], st)) (h1 : za i x st = some st') (h2 : za j y st' = some st2) : zz [i, j] e st = some (.nxt, st2) := qHS h (dR h1 (dR h2 rfl))
theorem qMH {x y z : PV} {i j k : Nat} {st' st2 st3 : St} (h : e st = some (.tup [x, y, z], st)) (h1 : za i x st = some st') (h2 : za j y st' = some st2) (h3 : za k z st2 = some st3) : zz [i, j, k] e st = some (.nxt, st3) := qHS h (dR h1 (dR h2 (dR h3 rfl)))
theorem yz (l : List yG) : PV.cleans (l.map qj) = true := vv fun _ _ => rfl
theorem qVX (n : Nat) (g : G) : gj (de [.int n] g) g := by
 obtain ⟨S, hS⟩ : ∃ S : Option PV → Option PV → Option PV → Option PV → St, S = fun x y z w => ⟨[some (.int n), x, y, z, w], [], g⟩ := ⟨_, rfl⟩
 have l0 : ∀ x y z w, qC 0 (S x y z w) = some (.int n, S x y z w) := fun x y z w => by rw [hS]; rfl
 have l1 : ∀ x y z w, qC 1 (S (some x) y z w) = some (x, S (some x) y z w) := fun x y z w => by rw [hS]; rfl
 have l2 : ∀ x y z w, qC 2 (S x (some y) z w) = some (y, S x (some y) z w) := fun x y z w => by rw [hS]; rfl
 have l3 : ∀ x y z w, qC 3 (S x y (some z) w) = some (z, S x y (some z) w) := fun x y z w => by rw [hS]; rfl
 have l4 : ∀ x y z w, qC 4 (S x y z (some w)) = some (w, S x y z (some w)) := fun x y z w => by rw [hS]; rfl
 have p1 : ∀ x y z w v, za 1 v (S x y z w) = some (S (some v) y z w) := fun x y z w v => by rw [hS]; rfl
 have p2 : ∀ x y z w v, za 2 v (S x y z w) = some (S x (some v) z w) := fun x y z w v => by rw [hS]; rfl
 have p3 : ∀ x y z w v, za 3 v (S x y z w) = some (S x y (some v) w) := fun x y z w v => by rw [hS]; rfl
 have p4 : ∀ x y z w v, za 4 v (S x y z w) = some (S x y z (some v)) := fun x y z w v => by rw [hS]; rfl
 have start : (⟨[some (.int n), none, none, none, none], [], g⟩ : St) = S none none none none := by rw [hS]
 have fin : ∀ P T R x y z w, yg (S none none none none) = some (.ret (jJ P T R), S x y z w) → PV.okRet (jJ P T R) = true → PV.freeze [] (jJ P T R) = jJ P T R → Good P T R → gj (de [.int n] g) g := by
  intro P T R x y z w hb ho hf hG
  refine ⟨P, T, R, ?_, hG⟩
  rw [← start] at hb
  have := zj (np := 1) (nv := 5) (args := [.int n]) (g := g) (b := yg) rfl hb ho
  rw [show (S x y z w).ls = [] by rw [hS], show (S x y z w).g = g by rw [hS], hf] at this
  exact this
 have t0 := uC (k := 0) (j := 0) rfl (vO (k := 3) (j := 3) rfl (by decide) (l0 none none none none))
 have t1 := uC (k := 1) (j := 1) rfl (vO (k := 3) (j := 3) rfl (by decide) (l0 none none none none))
 have dv := ki (k := 3) (j := 3) rfl (by decide) (by decide) (l0 none none none none)
 by_cases h0 : n % 3 = 0
 ·rw [decide_eq_true h0] at t0
  obtain ⟨c, hc, hs⟩ := gg (a := qT jO qI) qSK (by decide) (qA8 qSL) (vO (k := 9) (j := 9) rfl (by decide) dv)
  have hG := df (List.all_eq_true.mp qPK c hc)
  refine fin c.1 _ _ (some (.str c.1)) (some (.str c.2)) none none ?_ rfl rfl hG
  unfold yg
  refine qz ((zM t0).trans ((qJ (qHY hs (p1 ..) (p2 ..))).trans (qz (jI ?_))))
  exact je (l1 ..) (yM (gR x_c (l2 ..))) (qBT (gR x_c x_c))
 ·rw [decide_eq_false h0] at t0
  by_cases h1 : n % 3 = 1
  ·rw [decide_eq_true h1] at t1
   obtain ⟨c, hc, hs⟩ := gg (a := eC y5) (L := brokenT) (F := fun c => .tup [.str c.1, .str c.2.1, .fl (c.2.2.map qj)]) qKX (by decide) (by rw [← qKY]; rfl) (vO (k := 17) (j := 17) rfl (by decide) dv)
   have hg := List.all_eq_true.mp qID c hc
   obtain ⟨q, m, f⟩ := c
   cases q with
   | nil => cases hg
   | cons q r =>
    dsimp only at hg
    have hfst : zm (qC 1) (eC (.int 0)) (S (some (.str (q :: r))) none (some (.str m)) (some (.fl (f.map qj)))) = some (.str [q], S (some (.str (q :: r))) none (some (.str m)) (some (.fl (f.map qj)))) := by
     exact op2 (f := gE) (l1 ..) x_c rfl
    have tq : tE (qQ .eq (zm (qC 1) (eC (.int 0))) (eC (.str [39]))) (S (some (.str (q :: r))) none (some (.str m)) (some (.fl (f.map qj)))) = some (decide (q = 39), S (some (.str (q :: r))) none (some (.str m)) (some (.fl (f.map qj)))) := by
     refine zl (z0 hfst x_c ?_)
     show some (([q] : List Nat) == [39]) = _
     rw [beq_dec]
     simp
    have okr : ∀ a v, v.clean = true → PV.okRet (jJ (q :: r) [(a, v, 0)] f) = true := by
     exact fun a v hv => jo (jo (jo hv rfl) rfl) (jo (yz f) rfl)
    by_cases h39 : q = 39
    ·rw [if_pos h39] at hg
     rw [decide_eq_true h39] at tq
     refine fin (q :: r) [(5, .int 0, 0)] f (some (.str (q :: r))) none (some (.str m)) (some (.fl (f.map qj))) ?_ (okr _ _ rfl) rfl (wY hg)
     unfold yg
     rw [qJ ((qr t0).trans rfl)]
     refine qz ((zM t1).trans ((qJ (qMH hs (p1 ..) (p3 ..) (p4 ..))).trans (qz ((zM tq).trans (qz (jI ?_))))))
     exact je (l1 ..) (yM x_c) (l4 ..)
    ·rw [if_neg h39] at hg
     rw [decide_eq_false h39] at tq
     refine fin (q :: r) [(4, .str m, 0)] f (some (.str (q :: r))) none (some (.str m)) (some (.fl (f.map qj))) ?_ (okr _ _ rfl) rfl (wY hg)
     unfold yg
     refine (qJ ((qr t0).trans rfl)).trans ?_
     refine qz ((zM t1).trans ((qJ (qMH hs (p1 ..) (p3 ..) (p4 ..))).trans ((qJ ((qr tq).trans rfl)).trans (qz (jI ?_)))))
     exact je (l1 ..) (yM (l3 ..)) (l4 ..)
  ·rw [decide_eq_false h1] at t1
   obtain ⟨c, hc, hs⟩ := gg (a := qT yJ qI) qKC (by decide) (qA8 qKD) (vO (k := 6) (j := 6) rfl (by decide) dv)
   have hG := df (List.all_eq_true.mp qHR c hc)
   refine fin c _ _ (some (.str c)) none none none ?_ rfl rfl hG
   unfold yg
   refine (qJ ((qr t0).trans rfl)).trans ((qJ ((qr t1).trans rfl)).trans ((qJ (zE hs (p1 ..))).trans ?_))
   refine qz (jI ?_)
   have tq : tE (qQ .eq (qC 1) (eC (.str [64]))) (S (some (.str c)) none none none) = some (decide (c = [64]), S (some (.str c)) none none none) := by
    refine zl (z0 (l1 ..) x_c ?_)
    show some (c == [64]) = _
    rw [beq_dec]
   have hite : ko (tE (qQ .eq (qC 1) (eC (.str [64])))) (eC (.int 1646)) (eC (.int 1056)) (S (some (.str c)) none none none) = some (.int (if c = [64] then 1646 else 1056), S (some (.str c)) none none none) := by
    simp only [ko, bnd, tq]
    by_cases h64 : c = [64]
    ·rw [decide_eq_true h64, if_pos h64]; rfl
    ·rw [decide_eq_false h64, if_neg h64]; rfl
   exact je (l1 ..) vh (qBT (gR hite x_c))
end
noncomputable def qQL : SC := (qD (qc (qw (qC 3) (qZ (qB (eC vm) (qB (qC 5) (qB (qC 4) qI))))))
 (qD (j3 .add 4 (zn (qC 5)))
 qK))
section
variable {st st1 st2 : St} {e a b : EC} {n m k i : Nat} {j : Int} {u : PV} {g : G}
noncomputable abbrev GX (n : Nat) (x y : PV) (k : Nat) (w : Option PV) (L : List PV) (g : G) : St := ⟨[some (.int n), some x, some y, some (.lst (.loc 0)), some (.int k), w], [L], g⟩
theorem qCS {x y : PV} : ∀ (ws : List (List Nat)) (k : Nat) (w : Option PV) (L : List PV), L.length + ws.length ≤ line → ∃ k' w', forC (za 5) qQL (ws.map .str) (GX n x y k w L g) = some (.nxt, GX n x y k' w' (L ++ (yA k ws).map qd) g)
 | [], k, w, L, h => ⟨k, w, congrArg (fun l => some (Out.nxt, GX n x y k w l g)) (List.append_nil L).symm⟩
 | s :: ws, k, w, L, h => by
  simp only [List.length_cons] at h
  obtain ⟨k', w', ih⟩ := qCS ws (k + s.length) (some (.str s)) (L ++ [qd (6, .str s, k)]) (by simp; lia)
  refine ⟨k', w', ?_⟩
  have b1 : qQL (GX n x y k (some (.str s)) L g) = some (.nxt, GX n x y (k + s.length) (some (.str s)) (L ++ [qd (6, .str s, k)]) g) := by
   unfold qQL
   rw [qJ (st1 := GX n x y k (some (.str s)) (L ++ [qd (6, .str s, k)]) g) (qD8 (L := L) (st1 := GX n x y k (some (.str s)) L g) rfl (je (x := .int 6) (y := .str s) (z := .int k) rfl rfl rfl) rfl rfl (by lia)), seq_nil]
   exact qU3 (n := k) rfl (op1 (f := qTJ) (x := .str s) rfl rfl) rfl rfl
  exact ((qCK rfl b1).trans ih).trans (congrArg (fun l => some (Out.nxt, GX n x y k' w' l g)) (List.append_assoc L [_] _))
theorem qIK (l : List (List Nat)) : PV.cleans (l.map .str) = true := vv fun _ _ => rfl
theorem qQM (n : Nat) (g : G) : gj (dC [.int n] g) g := by
 have w1 : qV 1 (yh (jt (eC vE) [10] [124]) [124]) ⟨[some (.int n), none, none, none, none, none], [], g⟩ = some (.nxt, ⟨[some (.int n), some (.fl (gluedT.map .str)), none, none, none, none], [], g⟩) := zE (qHW (t := uA vE) (by decide +kernel)) rfl
 obtain ⟨row, hrow, hs⟩ := wJ (n := n) (a := qC 1) (b := qY .mod (qC 0) (zn (qC 1))) (st := ⟨[some (.int n), some (.fl (gluedT.map .str)), none, none, none, none], [], g⟩) qE9 (by decide) rfl (qEA (k := 21) (by decide) rfl ((ka (L := gluedT.map .str) rfl).trans (by rw [List.length_map, qE9])))
 have hg := List.all_eq_true.mp qLB row hrow
 rw [Bool.and_eq_true] at hg
 have hlen := of_decide_eq_true hg.2
 have hg := hg.1
 unfold qMX at hg
 have w2 : qV 2 (yh (zm (qC 1) (qY .mod (qC 0) (zn (qC 1)))) [32]) ⟨[some (.int n), some (.fl (gluedT.map .str)), none, none, none, none], [], g⟩ = some (.nxt, ⟨[some (.int n), some (.fl (gluedT.map .str)), some (.fl ((yF 32 row).map .str)), none, none, none], [], g⟩) := zE (qNQ (Nat.le_trans hlen (by decide)) hs) rfl
 cases hsp : yF 32 row with
 | nil => rw [hsp] at hg; cases hg
 | cons P ws =>
  rw [hsp] at hg w2
  dsimp only at hg
  have hG : Good P (yA 0 ws) [] := by
   rw [Bool.or_eq_true] at hg
   rcases hg with q | q
   ·exact df q
   ·exact qFA q
  have htl : ∀ k (ws : List (List Nat)), (yA k ws).length = ws.length := by
   intro k ws
   induction ws generalizing k with
   | nil => rfl
   | cons a r ih => exact congrArg (· + 1) (ih _)
  have hwl : ws.length ≤ 3 := by rw [← htl 0 ws]; exact hG.tl
  obtain ⟨k', w', hloop⟩ := qCS (n := n) (g := g) (x := .fl (gluedT.map .str)) (y := .fl ((P :: ws).map .str)) ws 0 none [] (by simp only [List.length_nil, Nat.zero_add]; exact Nat.le_trans hwl (by decide))
  refine ⟨P, yA 0 ws, [], ?_, hG⟩
  have hb : kv ⟨[some (.int n), none, none, none, none, none], [], g⟩ = some (.ret (.tup [.str P, .lst (.loc 0), .fl []]), GX n (.fl (gluedT.map .str)) (.fl ((P :: ws).map .str)) k' w' ([] ++ (yA 0 ws).map qd) g) := by
   show qD _ (qD _ (qD _ (qD _ (qD (dT 5 (jk (qC 2) (eC (.int 1))) qQL) _)))) _ = _
   rw [qJ w1, qJ w2, qJ (st1 := ⟨[some (.int n), some (.fl (gluedT.map .str)), some (.fl ((P :: ws).map .str)), some (.lst (.loc 0)), none, none], [[]], g⟩) rfl, qJ (st1 := GX n (.fl (gluedT.map .str)) (.fl ((P :: ws).map .str)) 0 none [] g) rfl]
   have hsl : jk (qC 2) (eC (.int 1)) (GX n (.fl (gluedT.map .str)) (.fl ((P :: ws).map .str)) 0 none [] g) = some (.fl (ws.map .str), GX n (.fl (gluedT.map .str)) (.fl ((P :: ws).map .str)) 0 none [] g) := by
    have : zD ((P :: ws).map PV.str).length 1 = 1 := by
     unfold zD
     rw [if_neg (by decide)]
     simp only [List.length_map, List.length_cons]
     show min 1 (ws.length + 1) = 1
     lia
    exact op2 (f := wG) (x := .fl ((P :: ws).map .str)) rfl x_c (congrArg (fun n => some (PV.fl (((P :: ws).map PV.str).drop n))) this)
   have hfor : dT 5 (jk (qC 2) (eC (.int 1))) qQL (GX n (.fl (gluedT.map .str)) (.fl ((P :: ws).map .str)) 0 none [] g) = some (.nxt, GX n (.fl (gluedT.map .str)) (.fl ((P :: ws).map .str)) k' w' ([] ++ (yA 0 ws).map qd) g) := by
    exact qYB hsl (qIK ws) hloop
   rw [qJ hfor]
   refine qz (jI ?_)
   exact je rfl rfl vh
  have := zj (np := 1) (nv := 6) (args := [.int n]) (g := g) (b := kv) rfl hb rfl
  exact this
noncomputable def vg : Nat → List Nat → Option (List Nat × List Nat)
 | 0, [] => some ([], [])
 | 0, _ :: _ => none
 | _ + 1, [] => none
 | s + 1, c :: r => if c = 34 ∨ c = E ∨ qh c = true then none else if c = 92 then (match j0 (c :: r) with
   | some (v, b, j) => if j ≤ r.length + 1 then (match vg s ((c :: r).drop j) with
    | some (m, fs) => some (v ++ m, (if b then [0] else []) ++ fs.map (· + j))
    | none => none) else none
   | none => none) else (match vg s r with
   | some (m, fs) => some (zC c ++ m, fs.map (· + 1))
   | none => none)
noncomputable def qAL (k : Nat) (fs : List Nat) : List Row := fs.map fun j => ((1009 : Int), k + j, ([] : List PV))
theorem qAM {k j : Nat} {fs : List Nat} : qAL (k + j) fs = qAL k (fs.map (· + j)) := by
 unfold qAL
 rw [List.map_map]
 exact List.map_congr_left fun a _ => by show _ = ((1009 : Int), k + (a + j), ([] : List PV)); rw [Nat.add_assoc, Nat.add_comm j a]
theorem qOB {b : Bool} {k : Nat} : zg b k = qAL k (if b then [0] else []) := by cases b <;> rfl
theorem qOA {k : Nat} {a b : List Nat} : qAL k (a ++ b) = qAL k a ++ qAL k b := List.map_append
noncomputable def RunTx (s : Nat) (q : List Nat) (z : List Nat × List Nat) : Prop := ∀ (N k : Nat) (x acc : List Nat) (rows : List Row), zK (N + s) k (q ++ x) acc rows = zK N (k + q.length) x (acc ++ z.1) (rows ++ qAL k z.2)
theorem RunTx.esc {s c j : Nat} {r v : List Nat} {b : Bool} {w : List Nat × List Nat} (h1 : ¬ (c = 34 ∨ c = E ∨ qh c = true)) (h92 : c = 92) (he : j0 (c :: r) = some (v, b, j)) (hj : j ≤ r.length + 1) (h : RunTx s ((c :: r).drop j) w) : RunTx (s + 1) (c :: r) (v ++ w.1, (if b then [0] else []) ++ w.2.map (· + j)) := fun N k x acc rows => by
 have e1 : zK (N + s + 1) k (c :: (r ++ x)) acc rows = zK (N + s) (k + j) ((c :: (r ++ x)).drop j) (acc ++ v) (rows ++ zg b k) := by
  rw [kH, if_neg fun z => h1 (.inl z), if_neg fun z => h1 (.inr z), if_pos h92, show j0 (c :: (r ++ x)) = some (v, b, j) from uS (R := x) _ he]
 have e2 : (c :: (r ++ x)).drop j = (c :: r).drop j ++ x := List.drop_append_of_le_length (l₁ := c :: r) hj
 have e3 : k + j + ((c :: r).drop j).length = k + (c :: r).length := by rw [List.length_drop, Nat.add_assoc]; exact congrArg (k + ·) (Nat.add_sub_cancel' hj)
 exact e1.trans ((e2 ▸ h N (k + j) x (acc ++ v) (rows ++ zg b k)).trans (by rw [e3, qAM, qOB, List.append_assoc, List.append_assoc, ← qOA]))
theorem RunTx.ch {s c : Nat} {r : List Nat} {w : List Nat × List Nat} (h1 : ¬ (c = 34 ∨ c = E ∨ qh c = true)) (h92 : c ≠ 92) (h : RunTx s r w) : RunTx (s + 1) (c :: r) (zC c ++ w.1, w.2.map (· + 1)) := fun N k x acc rows => by
 have e1 : zK (N + s + 1) k (c :: (r ++ x)) acc rows = zK (N + s) (k + 1) (r ++ x) (acc ++ zC c) rows := by
  rw [kH, if_neg fun z => h1 (.inl z), if_neg fun z => h1 (.inr z), if_neg h92]
 exact e1.trans ((h N (k + 1) x (acc ++ zC c) rows).trans (by rw [qAM, List.append_assoc, Nat.add_assoc, Nat.add_comm 1]; rfl))
theorem u9 : ∀ {s : Nat} {q : List Nat} {z : List Nat × List Nat}, vg s q = some z → RunTx s q z
 | 0, [], z, h => Option.some.inj h ▸ fun N k x acc rows => by rw [List.append_nil]; show _ = zK N k x acc (rows ++ []); rw [List.append_nil]; rfl
 | 0, _ :: _, z, h => qH h
 | s + 1, [], z, h => qH h
 | s + 1, c :: r, z, h => by
  unfold vg at h
  by_cases h1 : c = 34 ∨ c = E ∨ qh c = true
  ·exact qH (ifp h1 h)
  replace h := ifn h1 h
  by_cases h92 : c = 92
  ·replace h := ifp h92 h
   cases he : j0 (c :: r) with
   | none => rw [he] at h; exact qH h
   | some y =>
    rw [he] at h
    by_cases hj : y.2.2 ≤ r.length + 1
    ·replace h := ifp hj h
     cases ht : vg s ((c :: r).drop y.2.2) with
     | none => rw [ht] at h; exact qH h
     | some w => rw [ht] at h; exact Option.some.inj h ▸ RunTx.esc h1 h92 he hj (u9 ht)
    ·exact qH (ifn hj h)
  ·replace h := ifn h92 h
   cases ht : vg s r with
   | none => rw [ht] at h; exact qH h
   | some w => rw [ht] at h; exact Option.some.inj h ▸ RunTx.ch h1 h92 (u9 ht)
theorem qKH {s : Nat} {q m fs : List Nat} (h : vg s q = some (m, fs)) (N k : Nat) (x acc : List Nat) (rows : List Row) : zK (N + s) k (q ++ x) acc rows = zK N (k + q.length) x (acc ++ m) (rows ++ fs.map fun j => ((1009 : Int), k + j, ([] : List PV))) := u9 h N k x acc rows
noncomputable def yZ (i : Int) : List Nat := if i = 1 then [0] else []
noncomputable def qBO (c : List Nat × List Nat × Int) : Bool := decide (1 ≤ c.1.length) && (decide (c.1.length ≤ 12) && (decide (c.2.1.length ≤ 12) && (c.1.all (fun x => decide (x < E)) && (c.2.1.all (fun x => decide (x < E)) && (List.range 13).any fun s => match vg s c.1 with
 | some (m, fs) => decide (m = c.2.1) && decide (fs = yZ c.2.2)
 | none => false))))
theorem qJ2 : piecesT.all qBO = true := by decide +kernel
structure TI (t : Nat) (q M fs : List Nat) : Prop where
 run : ∃ s, s ≤ 12 * t ∧ ∀ N x, zK (N + s) 1 (q ++ x) [] [] = zK N (1 + q.length) x M (fs.map fun j => ((1009 : Int), j, ([] : List PV)))
 ql : q.length ≤ 12 * t
 ml : M.length ≤ 12 * t
 fl : fs.length ≤ t
 lt : ∀ c ∈ q, c < E
 mt : ∀ c ∈ M, c < E
 fp : ∀ j ∈ fs, j < q.length + 1
theorem TI.next {t : Nat} {q M fs : List Nat} (h : TI t q M fs) {c : List Nat × List Nat × Int} (hc : qBO c = true) : TI (t + 1) (q ++ c.1) (M ++ c.2.1) (fs ++ (yZ c.2.2).map (· + (1 + q.length))) := by
 simp only [qBO, Bool.and_eq_true] at hc
 obtain ⟨h0, h1, h2, h3, h3m, h4⟩ := hc
 have h0 := of_decide_eq_true h0
 have h1 := of_decide_eq_true h1
 have h2 := of_decide_eq_true h2
 rw [List.any_eq_true] at h4
 obtain ⟨s, hs, h4⟩ := h4
 have hs := List.mem_range.mp hs
 have hfl : (yZ c.2.2).length ≤ 1 := by
  unfold yZ
  by_cases q : c.2.2 = 1
  ·rw [if_pos q]; exact Nat.le_refl _
  ·rw [if_neg q]; exact Nat.zero_le _
 have hf0 : ∀ j ∈ yZ c.2.2, j = 0 := by
  unfold yZ
  by_cases q : c.2.2 = 1
  ·rw [if_pos q]; simp
  ·rw [if_neg q]; simp
 obtain ⟨s0, g1, g2⟩ := h.run
 refine ⟨⟨s0 + s, by lia, fun N x => ?_⟩, ?_, ?_, ?_, ?_, ?_, ?_⟩
 ·cases hr : vg s c.1 with
  | none => rw [hr] at h4; cases h4
  | some z =>
   obtain ⟨m, f⟩ := z
   rw [hr] at h4
   rw [Bool.and_eq_true] at h4
   have e1 := of_decide_eq_true h4.1
   have e2 := of_decide_eq_true h4.2
   subst e1 e2
   rw [show N + (s0 + s) = (N + s) + s0 by lia, List.append_assoc, g2, qKH hr, List.length_append, Nat.add_assoc]
   congr 1
   rw [List.map_append, List.map_map]
   congr 1
   apply List.map_congr_left
   intro a _
   show ((1009 : Int), 1 + q.length + a, ([] : List PV)) = (1009, a + (1 + q.length), [])
   rw [Nat.add_comm]
 ·have := h.ql; rw [List.length_append]; lia
 ·have := h.ml; rw [List.length_append]; lia
 ·have := h.fl; rw [List.length_append, List.length_map]; lia
 ·intro a ha
  rcases List.mem_append.mp ha with z | z
  ·exact h.lt a z
  ·exact of_decide_eq_true (List.all_eq_true.mp h3 a z)
 ·intro a ha
  rcases List.mem_append.mp ha with z | z
  ·exact h.mt a z
  ·exact of_decide_eq_true (List.all_eq_true.mp h3m a z)
 ·intro j hj
  rw [List.length_append]
  rcases List.mem_append.mp hj with z | z
  ·have := h.fp j z; lia
  ·obtain ⟨a, ha, rfl⟩ := List.mem_map.mp z
   rw [hf0 a ha]; lia
noncomputable def qQ0 : SC := (qD (zz [6, 7, 8] (zm (qT jw qI) (qY .mod (qC 0) (eC (.int 32)))))
 (qD (qV 0 (qY .fdiv (qC 0) (eC (.int 32))))
 (qD (sIf (tE (qQ .eq (qC 8) (eC (.int 1)))) (qD (qc (qw (qC 4) (qZ (qB (eC (.int 1009)) (qB (zn (qC 2)) qI)))))
 qK) qK)
 (qD (j3 .add 2 (qC 6))
 (qD (j3 .add 3 (qC 7))
 qK)))))
noncomputable abbrev HX (n cnt : Nat) (S M : List Nat) (w5 w6 w7 w8 : Option PV) (F : List PV) (g : G) : St := ⟨[some (.int n), some (.int cnt), some (.str S), some (.str M), some (.lst (.loc 0)), w5, w6, w7, w8], [F], g⟩
theorem qPA {cnt t : Nat} {q M fs : List Nat} {w5 w6 w7 w8 : Option PV} (h : TI t q M fs) (ht : t ≤ 3) : ∃ n' q' M' fs' w6' w7' w8', TI (t + 1) q' M' fs' ∧ qQ0 (HX n cnt (34 :: q) M w5 w6 w7 w8 (fs.map fun j => qj (1009, j)) g) = some (.nxt, HX n' cnt (34 :: q') M' w5 w6' w7' w8' (fs'.map fun j => qj (1009, j)) g) := by
 obtain ⟨c, hc, hs⟩ := gg (a := qT jw qI) (b := qY .mod (qC 0) (eC (.int 32))) (st := HX n cnt (34 :: q) M w5 w6 w7 w8 (fs.map fun j => qj (1009, j)) g) qL0 (by decide) (qA8 qL1) (vO (k := 32) (j := 32) rfl (by decide) rfl)
 have hok := List.all_eq_true.mp qJ2 c hc
 have hok2 := hok
 simp only [qBO, Bool.and_eq_true] at hok2
 have c0 := of_decide_eq_true hok2.1
 have c1 := of_decide_eq_true hok2.2.1
 have c2 := of_decide_eq_true hok2.2.2.1
 have hql := h.ql
 have hml := h.ml
 have hfl := h.fl
 refine ⟨n / 32, _, _, _, some (.str c.1), some (.str c.2.1), some (.int c.2.2), h.next hok, ?_⟩
 obtain ⟨F, hF⟩ : ∃ F, F = fs.map fun j => qj (1009, j) := ⟨_, rfl⟩
 have hFl : F.length = fs.length := by rw [hF, List.length_map]
 rw [List.map_append, ← hF]
 rw [← hF] at hs
 unfold qQ0
 rw [qJ (st1 := HX n cnt (34 :: q) M w5 (some (.str c.1)) (some (.str c.2.1)) (some (.int c.2.2)) F g) (qMH hs rfl rfl rfl)]
 rw [qJ (st1 := HX (n / 32) cnt (34 :: q) M w5 (some (.str c.1)) (some (.str c.2.1)) (some (.int c.2.2)) F g) (zE (ki (k := 32) (j := 32) rfl (by decide) (by decide) rfl) rfl)]
 have t1 : tE (qQ .eq (qC 8) (eC (.int 1))) (HX (n / 32) cnt (34 :: q) M w5 (some (.str c.1)) (some (.str c.2.1)) (some (.int c.2.2)) F g) = some (c.2.2 == 1, HX (n / 32) cnt (34 :: q) M w5 (some (.str c.1)) (some (.str c.2.1)) (some (.int c.2.2)) F g) := rfl
 have hif : sIf (tE (qQ .eq (qC 8) (eC (.int 1)))) (qD (qc (qw (qC 4) (qZ (qB (eC (.int 1009)) (qB (zn (qC 2)) qI))))) qK) qK (HX (n / 32) cnt (34 :: q) M w5 (some (.str c.1)) (some (.str c.2.1)) (some (.int c.2.2)) F g) = some (.nxt, HX (n / 32) cnt (34 :: q) M w5 (some (.str c.1)) (some (.str c.2.1)) (some (.int c.2.2)) (F ++ ((yZ c.2.2).map (· + (1 + q.length))).map fun j => qj (1009, j)) g) := by
  unfold yZ
  by_cases h1 : c.2.2 = 1
  ·have hb : (c.2.2 == 1) = true := by rw [h1]; rfl
   rw [hb] at t1
   rw [zM t1, seq_nil, qD8 (L := F) (st1 := HX (n / 32) cnt (34 :: q) M w5 (some (.str c.1)) (some (.str c.2.1)) (some (.int c.2.2)) F g) rfl (gR (x := .int 1009) (y := .int (34 :: q).length) rfl rfl) rfl rfl (by
    rw [hFl]
    exact Nat.lt_of_le_of_lt hfl (Nat.lt_of_le_of_lt ht (by decide))), if_pos h1]
   simp only [List.map_cons, List.map_nil, Nat.zero_add, List.length_cons, Nat.add_comm 1]
   rfl
  ·have hb : (c.2.2 == 1) = false := by rw [beq_eq_false_iff_ne]; exact h1
   rw [hb] at t1
   rw [qr t1, if_neg h1, List.map_nil, List.map_nil, List.append_nil]; rfl
 rw [qJ hif]
 obtain ⟨F2, hF2⟩ : ∃ F2, F2 = F ++ ((yZ c.2.2).map (· + (1 + q.length))).map fun j => qj (1009, j) := ⟨_, rfl⟩
 rw [← hF2]
 have a1 : j3 .add 2 (qC 6) (HX (n / 32) cnt (34 :: q) M w5 (some (.str c.1)) (some (.str c.2.1)) (some (.int c.2.2)) F2 g) = some (.nxt, HX (n / 32) cnt (34 :: (q ++ c.1)) M w5 (some (.str c.1)) (some (.str c.2.1)) (some (.int c.2.2)) F2 g) := by
  exact qPI (n := 34 :: q) (y := .str c.1) rfl rfl (qEE (Nat.le_trans (show q.length + 1 + c.1.length ≤ 49 by lia) (by decide))) rfl
 have a2 : j3 .add 3 (qC 7) (HX (n / 32) cnt (34 :: (q ++ c.1)) M w5 (some (.str c.1)) (some (.str c.2.1)) (some (.int c.2.2)) F2 g) = some (.nxt, HX (n / 32) cnt (34 :: (q ++ c.1)) (M ++ c.2.1) w5 (some (.str c.1)) (some (.str c.2.1)) (some (.int c.2.2)) F2 g) := by
  exact qPI (n := M) (y := .str c.2.1) rfl rfl (qEE (Nat.le_trans (show M.length + c.2.1.length ≤ 49 by lia) (by decide))) rfl
 rw [qJ a1, qJ a2]
 rfl
theorem qD0 {cnt : Nat} : ∀ (l : List PV) (n t : Nat) (q M fs : List Nat) (w5 w6 w7 w8 : Option PV), TI t q M fs → t + l.length ≤ 3 → ∃ n' q' M' fs' w5' w6' w7' w8', TI (t + l.length) q' M' fs' ∧ forC (za 5) qQ0 l (HX n cnt (34 :: q) M w5 w6 w7 w8 (fs.map fun j => qj (1009, j)) g) = some (.nxt, HX n' cnt (34 :: q') M' w5' w6' w7' w8' (fs'.map fun j => qj (1009, j)) g)
 | [], n, t, q, M, fs, w5, w6, w7, w8, h, ht => ⟨n, q, M, fs, w5, w6, w7, w8, h, rfl⟩
 | v :: l, n, t, q, M, fs, w5, w6, w7, w8, h, ht => by
  simp only [List.length_cons] at ht
  obtain ⟨n1, q1, M1, fs1, v6, v7, v8, h1, h2⟩ := qPA (n := n) (cnt := cnt) (g := g) (w5 := some v) (w6 := w6) (w7 := w7) (w8 := w8) h (by lia)
  obtain ⟨n2, q2, M2, fs2, v5', v6', v7', v8', h3, h4⟩ := qD0 l n1 (t + 1) q1 M1 fs1 (some v) v6 v7 v8 h1 (by lia)
  refine ⟨n2, q2, M2, fs2, v5', v6', v7', v8', by rw [List.length_cons, show t + (l.length + 1) = t + 1 + l.length by lia]; exact h3, ?_⟩
  exact (qCK rfl h2).trans h4
theorem TI.good {t : Nat} {q M fs : List Nat} (h : TI t q M fs) (ht : t ≤ 3) : Good (34 :: (q ++ [34])) [(4, .str M, 0)] (fs.map fun j => ((1009 : Int), j)) := by
 have hql := h.ql
 have hfl := h.fl
 obtain ⟨s, hs, hrun⟩ := h.run
 refine ⟨by simp, ?_, ?_, by simp, by rw [List.length_map]; lia, ?_, fun t ht => by rw [List.mem_singleton.mp ht]; exact vo h.mt, 1, fun N p tk rw c R _ _ => ?_⟩
 ·intro a ha
  rcases List.mem_cons.mp ha with z | z
  ·rw [z]; decide
  ·rcases List.mem_append.mp z with z | z
   ·exact h.lt a z
   ·rw [List.mem_singleton.mp z]; decide
 ·simp; lia
 ·intro r hr
  obtain ⟨j, hj, rfl⟩ := List.mem_map.mp hr
  have := h.fp j hj
  simp; lia
 ·have hst : jA (34 :: (q ++ [34]) ++ c :: R) = true := by
   cases q with
   | nil => rfl
   | cons a q => rfl
  have ho : zS 200 (34 :: (q ++ [34]) ++ c :: R) = some (.ok { toks := [(4, .str M, 0)], rows := fs.map fun j => ((1009 : Int), j, ([] : List PV)), k := (34 :: (q ++ [34])).length }) := by
   rw [List.cons_append, List.append_assoc]
   show ya 0 (zK 200 1 (q ++ ([34] ++ c :: R)) [] []) = _
   obtain ⟨N, hN⟩ : ∃ N, 200 = (N + 1) + s := ⟨200 - 1 - s, by lia⟩
   rw [hN, hrun, List.singleton_append, zK]
   simp only [if_true, ya]
   congr 3
   simp; lia
  rw [yl hst ho, List.drop_left]
  have hw : ∀ j, gP (34 :: (q ++ [34])) (1009, j) = [] := fun j => rfl
  simp only [List.map_map]
  rfl
theorem qRR (fs : List Nat) : fs.map (fun j => qj (1009, j)) = (fs.map fun j => ((1009 : Int), j)).map qj := by rw [List.map_map]; rfl
theorem qT1 (n : Nat) (g : G) : gj (uT [.int n] g) g := by
 have hT0 : TI 0 [] [] [] := ⟨⟨0, Nat.le_refl _, fun N x => rfl⟩, Nat.le_refl _, Nat.le_refl _, Nat.le_refl _, by simp, by simp, by simp⟩
 have hlen : (jX ((n % 4 : Nat) : Int)).length = n % 4 := by simp only [jX, List.length_map, List.length_range, Int.toNat_natCast]
 have h4 : n % 4 < 4 := Nat.mod_lt _ (by decide)
 obtain ⟨n', q, M, fs, w5, w6, w7, w8, h1, h2⟩ := qD0 (g := g) (cnt := n % 4) (jX ((n % 4 : Nat) : Int)) (n / 4) 0 [] [] [] none none none none hT0 (by rw [hlen]; lia)
 rw [hlen] at h1
 have hG := h1.good (by lia)
 have hql := h1.ql
 refine ⟨_, _, _, ?_, hG⟩
 have hb : uG ⟨[some (.int n), none, none, none, none, none, none, none, none], [], g⟩ = some (.ret (.tup [.str (34 :: (q ++ [34])), .fl [.tup [.int 4, .str M, .int 0]], .lst (.loc 0)]), HX n' (n % 4) (34 :: q) M w5 w6 w7 w8 (fs.map fun j => qj (1009, j)) g) := by
  show qD _ (qD _ (qD _ (qD _ (qD _ (qD (j4 5 (qC 1) qQ0) _))))) _ = _
  rw [qJ (st1 := ⟨[some (.int n), some (.int ((n % 4 : Nat) : Int)), none, none, none, none, none, none, none], [], g⟩) (zE (vO (k := 4) (j := 4) rfl (by decide) rfl) rfl)]
  rw [qJ (st1 := ⟨[some (.int ((n / 4 : Nat) : Int)), some (.int ((n % 4 : Nat) : Int)), none, none, none, none, none, none, none], [], g⟩) (zE (ki (k := 4) (j := 4) rfl (by decide) (by decide) rfl) rfl)]
  rw [qJ (st1 := ⟨[some (.int ((n / 4 : Nat) : Int)), some (.int ((n % 4 : Nat) : Int)), some (.str [34]), none, none, none, none, none, none], [], g⟩) rfl, qJ (st1 := ⟨[some (.int ((n / 4 : Nat) : Int)), some (.int ((n % 4 : Nat) : Int)), some (.str [34]), some (.str []), none, none, none, none, none], [], g⟩) rfl, qJ (st1 := HX (n / 4) (n % 4) [34] [] none none none none [] g) rfl]
  have hfor : j4 5 (qC 1) qQ0 (HX (n / 4) (n % 4) [34] [] none none none none [] g) = some (.nxt, HX n' (n % 4) (34 :: q) M w5 w6 w7 w8 (fs.map fun j => qj (1009, j)) g) := by
   exact qVF (n := n % 4) rfl (Nat.le_trans (Nat.le_of_lt h4) (by decide)) h2
  rw [qJ hfor]
  refine qz (jI (je ?_ (yM rfl) rfl))
  exact op2 (f := bop .add) (x := .str (34 :: q)) rfl x_c (qEE (Nat.le_trans (show q.length + 1 + 1 ≤ 49 by lia) (by decide)))
 have := zj (np := 1) (nv := 9) (args := [.int n]) (g := g) (b := uG) rfl hb rfl
 rw [qRR] at this
 exact this
end
noncomputable def gd : Nat → List Nat → Option (List Nat)
 | 0, _ => none
 | _ + 1, [] => some []
 | n + 1, c :: r => if c = E then none else if c = 34 then (match r with
   | [] => none
   | d :: r2 => if d = 34 then (match gd n r2 with
    | some m => some (34 :: m)
    | none => none) else none) else (match gd n r with
   | some m => some (zC c ++ m)
   | none => none)
theorem dX : ∀ {n : Nat} {q m : List Nat}, gd n q = some m → ∀ (k : Nat) (x acc : List Nat), jB k (q ++ x) acc = jB (k + q.length) x (acc ++ m)
 | 0, q, m, h, k, x, acc => by cases h
 | n + 1, [], m, h, k, x, acc => by cases h; simp
 | n + 1, c :: r, m, h, k, x, acc => by
  unfold gd at h
  rw [List.cons_append, yC]
  by_cases hE : c = E
  ·rw [if_pos hE] at h; cases h
  ·rw [if_neg hE] at h ⊢
   by_cases h34 : c = 34
   ·rw [if_pos h34] at h ⊢
    cases r with
    | nil => cases h
    | cons d r2 =>
     rw [List.cons_append]
     dsimp only at h ⊢
     by_cases d34 : d = 34
     ·rw [if_pos d34] at h ⊢
      cases hm : gd n r2 with
      | none => rw [hm] at h; cases h
      | some m1 =>
       rw [hm] at h
       cases h
       rw [dX hm, List.append_assoc, show k + 2 + r2.length = k + (c :: d :: r2).length by simp; lia]
       rfl
     ·rw [if_neg d34] at h; cases h
   ·rw [if_neg h34] at h ⊢
    cases hm : gd n r with
    | none => rw [hm] at h; cases h
    | some m1 =>
     rw [hm] at h
     cases h
     rw [dX hm, List.append_assoc, show k + 1 + r.length = k + (c :: r).length by simp; lia]
noncomputable def qBQ (c : List Nat × List Nat) : Bool := decide (c.1.length ≤ 5) && (decide (c.2.length ≤ 5) && (c.1.all (fun x => decide (x < E)) && (c.2.all (fun x => decide (x < E)) && (match gd 6 c.1 with
 | some m => decide (m = c.2)
 | none => false))))
theorem qL2 : plainT.all qBQ = true := by decide +kernel
structure VI (t : Nat) (q M : List Nat) : Prop where
 run : ∀ k x acc, jB k (q ++ x) acc = jB (k + q.length) x (acc ++ M)
 ql : q.length ≤ 5 * t
 ml : M.length ≤ 5 * t
 lt : ∀ c ∈ q, c < E
 mt : ∀ c ∈ M, c < E
theorem VI.next {t : Nat} {q M : List Nat} (h : VI t q M) {c : List Nat × List Nat} (hc : qBQ c = true) : VI (t + 1) (q ++ c.1) (M ++ c.2) := by
 simp only [qBQ, Bool.and_eq_true] at hc
 obtain ⟨h1, h2, h3, h3m, h4⟩ := hc
 have h1 := of_decide_eq_true h1
 have h2 := of_decide_eq_true h2
 have := h.ql
 have := h.ml
 refine ⟨fun k x acc => ?_, by rw [List.length_append]; lia, by rw [List.length_append]; lia, ?_, ?_⟩
 ·cases hr : gd 6 c.1 with
  | none => rw [hr] at h4; cases h4
  | some m =>
   rw [hr] at h4
   have e := of_decide_eq_true h4
   subst e
   rw [List.append_assoc, h.run, dX hr, List.length_append, Nat.add_assoc, List.append_assoc]
 ·intro a ha
  rcases List.mem_append.mp ha with z | z
  ·exact h.lt a z
  ·exact of_decide_eq_true (List.all_eq_true.mp h3 a z)
 ·intro a ha
  rcases List.mem_append.mp ha with z | z
  ·exact h.mt a z
  ·exact of_decide_eq_true (List.all_eq_true.mp h3m a z)
noncomputable def qQ2 : SC := (qD (zz [5, 6] (zm (qT yV qI) (qY .mod (qC 0) (eC (.int 7)))))
 (qD (qV 0 (qY .fdiv (qC 0) (eC (.int 7))))
 (qD (j3 .add 2 (qC 5))
 (qD (j3 .add 3 (qC 6))
 qK))))
section
variable {st st1 st2 : St} {e a b : EC} {n m k i : Nat} {j : Int} {u : PV} {g : G}
noncomputable abbrev VX (n cnt : Nat) (S M : List Nat) (w4 w5 w6 : Option PV) (g : G) : St := ⟨[some (.int n), some (.int cnt), some (.str S), some (.str M), w4, w5, w6], [], g⟩
theorem qPB {cnt t : Nat} {q M : List Nat} {w4 w5 w6 : Option PV} (h : VI t q M) (ht : t ≤ 3) : ∃ n' q' M' w5' w6', VI (t + 1) q' M' ∧ qQ2 (VX n cnt (64 :: 34 :: q) M w4 w5 w6 g) = some (.nxt, VX n' cnt (64 :: 34 :: q') M' w4 w5' w6' g) := by
 obtain ⟨c, hc, hs⟩ := gg (a := qT yV qI) (b := qY .mod (qC 0) (eC (.int 7))) (st := VX n cnt (64 :: 34 :: q) M w4 w5 w6 g) qOQ (by decide) (qA8 qOR) (vO (k := 7) (j := 7) rfl (by decide) rfl)
 have hok := List.all_eq_true.mp qL2 c hc
 have hok2 := hok
 simp only [qBQ, Bool.and_eq_true] at hok2
 have c1 := of_decide_eq_true hok2.1
 have c2 := of_decide_eq_true hok2.2.1
 have hql := h.ql
 have hml := h.ml
 refine ⟨n / 7, _, _, some (.str c.1), some (.str c.2), h.next hok, ?_⟩
 unfold qQ2
 rw [qJ (st1 := VX n cnt (64 :: 34 :: q) M w4 (some (.str c.1)) (some (.str c.2)) g) (qHY hs rfl rfl)]
 rw [qJ (st1 := VX (n / 7) cnt (64 :: 34 :: q) M w4 (some (.str c.1)) (some (.str c.2)) g) (zE (ki (k := 7) (j := 7) rfl (by decide) (by decide) rfl) rfl)]
 have a1 : j3 .add 2 (qC 5) (VX (n / 7) cnt (64 :: 34 :: q) M w4 (some (.str c.1)) (some (.str c.2)) g) = some (.nxt, VX (n / 7) cnt (64 :: 34 :: (q ++ c.1)) M w4 (some (.str c.1)) (some (.str c.2)) g) := by
  exact qPI (n := 64 :: 34 :: q) (y := .str c.1) rfl rfl (qEE (Nat.le_trans (show q.length + 1 + 1 + c.1.length ≤ 49 by lia) (by decide))) rfl
 have a2 : j3 .add 3 (qC 6) (VX (n / 7) cnt (64 :: 34 :: (q ++ c.1)) M w4 (some (.str c.1)) (some (.str c.2)) g) = some (.nxt, VX (n / 7) cnt (64 :: 34 :: (q ++ c.1)) (M ++ c.2) w4 (some (.str c.1)) (some (.str c.2)) g) := by
  exact qPI (n := M) (y := .str c.2) rfl rfl (qEE (Nat.le_trans (show M.length + c.2.length ≤ 49 by lia) (by decide))) rfl
 rw [qJ a1, qJ a2]
 rfl
theorem qD5 {cnt : Nat} : ∀ (l : List PV) (n t : Nat) (q M : List Nat) (w4 w5 w6 : Option PV), VI t q M → t + l.length ≤ 3 → ∃ n' q' M' w4' w5' w6', VI (t + l.length) q' M' ∧ forC (za 4) qQ2 l (VX n cnt (64 :: 34 :: q) M w4 w5 w6 g) = some (.nxt, VX n' cnt (64 :: 34 :: q') M' w4' w5' w6' g)
 | [], n, t, q, M, w4, w5, w6, h, ht => ⟨n, q, M, w4, w5, w6, h, rfl⟩
 | v :: l, n, t, q, M, w4, w5, w6, h, ht => by
  simp only [List.length_cons] at ht
  obtain ⟨n1, q1, M1, v5, v6, h1, h2⟩ := qPB (n := n) (cnt := cnt) (g := g) (w4 := some v) (w5 := w5) (w6 := w6) h (by lia)
  obtain ⟨n2, q2, M2, v4', v5', v6', h3, h4⟩ := qD5 l n1 (t + 1) q1 M1 (some v) v5 v6 h1 (by lia)
  refine ⟨n2, q2, M2, v4', v5', v6', by rw [List.length_cons, show t + (l.length + 1) = t + 1 + l.length by lia]; exact h3, ?_⟩
  exact (qCK rfl h2).trans h4
theorem VI.good {t : Nat} {q M : List Nat} (h : VI t q M) (ht : t ≤ 3) : Good (64 :: 34 :: (q ++ [34])) [(4, .str M, 0)] [] := by
 have hql := h.ql
 refine ⟨by simp, ?_, by simp; lia, by simp, by simp, by simp, fun t ht => by rw [List.mem_singleton.mp ht]; exact vo h.mt, 1, fun N p tk rw c R hn _ => ?_⟩
 ·intro a ha
  rcases List.mem_cons.mp ha with z | z
  ·rw [z]; decide
  ·rcases List.mem_cons.mp z with z | z
   ·rw [z]; decide
   ·rcases List.mem_append.mp z with z | z
    ·exact h.lt a z
    ·rw [List.mem_singleton.mp z]; decide
 ·have hlast : (64 :: 34 :: (q ++ [34])).getLastD 0 = 34 := by
   have : 64 :: 34 :: (q ++ [34]) = (64 :: 34 :: q) ++ [34] := rfl
   rw [this, List.getLastD_concat]
  rw [hlast] at hn
  have hc : c ≠ 34 := by
   intro z
   subst z
   have := kD (by decide) hn
   revert this
   decide
  have hst : jA (64 :: 34 :: (q ++ [34]) ++ c :: R) = true := rfl
  have ho : zS 200 (64 :: 34 :: (q ++ [34]) ++ c :: R) = some (.ok { toks := [(4, .str M, 0)], k := (64 :: 34 :: (q ++ [34])).length }) := by
   rw [List.cons_append, List.cons_append, List.append_assoc]
   show ya 0 (jB 2 (q ++ ([34] ++ c :: R)) []) = _
   rw [h.run, List.singleton_append, yC, if_neg (by decide), if_pos rfl]
   dsimp only
   rw [if_neg hc]
   simp only [ya, List.nil_append]
   congr 3
   simp; lia
  rw [yl hst ho, List.drop_left]
  rfl
theorem qT8 (n : Nat) (g : G) : gj (vz [.int n] g) g := by
 have hT0 : VI 0 [] [] := ⟨fun k x acc => by simp, Nat.le_refl _, Nat.le_refl _, by simp, by simp⟩
 have hlen : (jX ((n % 4 : Nat) : Int)).length = n % 4 := by simp only [jX, List.length_map, List.length_range, Int.toNat_natCast]
 have h4 : n % 4 < 4 := Nat.mod_lt _ (by decide)
 obtain ⟨n', q, M, w4, w5, w6, h1, h2⟩ := qD5 (g := g) (cnt := n % 4) (jX ((n % 4 : Nat) : Int)) (n / 4) 0 [] [] none none none hT0 (by rw [hlen]; lia)
 rw [hlen] at h1
 have hG := h1.good (by lia)
 have hql := h1.ql
 refine ⟨_, _, _, ?_, hG⟩
 have hb : vq ⟨[some (.int n), none, none, none, none, none, none], [], g⟩ = some (.ret (.tup [.str (64 :: 34 :: (q ++ [34])), .fl [.tup [.int 4, .str M, .int 0]], .fl []]), VX n' (n % 4) (64 :: 34 :: q) M w4 w5 w6 g) := by
  show qD _ (qD _ (qD _ (qD _ (qD (j4 4 (qC 1) qQ2) _)))) _ = _
  rw [qJ (st1 := ⟨[some (.int n), some (.int ((n % 4 : Nat) : Int)), none, none, none, none, none], [], g⟩) (zE (vO (k := 4) (j := 4) rfl (by decide) rfl) rfl)]
  rw [qJ (st1 := ⟨[some (.int ((n / 4 : Nat) : Int)), some (.int ((n % 4 : Nat) : Int)), none, none, none, none, none], [], g⟩) (zE (ki (k := 4) (j := 4) rfl (by decide) (by decide) rfl) rfl)]
  rw [qJ (st1 := ⟨[some (.int ((n / 4 : Nat) : Int)), some (.int ((n % 4 : Nat) : Int)), some (.str [64, 34]), none, none, none, none], [], g⟩) rfl, qJ (st1 := VX (n / 4) (n % 4) [64, 34] [] none none none g) rfl]
  have hfor : j4 4 (qC 1) qQ2 (VX (n / 4) (n % 4) [64, 34] [] none none none g) = some (.nxt, VX n' (n % 4) (64 :: 34 :: q) M w4 w5 w6 g) := by
   exact qVF (n := n % 4) rfl (Nat.le_trans (Nat.le_of_lt h4) (by decide)) h2
  rw [qJ hfor]
  refine qz (jI (je ?_ (yM rfl) vh))
  exact op2 (f := bop .add) (x := .str (64 :: 34 :: q)) rfl x_c (qEE (Nat.le_trans (show q.length + 1 + 1 + 1 ≤ 49 by lia) (by decide)))
 exact zj (np := 1) (nv := 7) (args := [.int n]) (g := g) (b := vq) rfl hb rfl
end
noncomputable def kC (tall : Bool) : List Nat := if tall then [48, 49, 50, 51, 52, 53, 54, 55, 56, 57, 65, 66, 67, 68, 69, 70] else [48, 49, 50, 51, 52, 53, 54, 55, 56, 57, 97, 98, 99, 100, 101, 102]
noncomputable def dc : Nat → Nat → List Nat → Nat → List Nat → Option (List Nat)
 | 0, _, _, _, _ => none
 | f + 1, base, ls, num, out => if num = 0 ∧ out ≠ [] then some out else (match ls[num % base]? with
  | some c => dc f base ls (num / base) (c :: out)
  | none => none)
noncomputable def qS0 : TC := (tOr (tE (qQ .gt (qC 0) (eC (.int 0)))) (tE (qQ .eq (qC 4) (eC (.str [])))))
noncomputable def qSZ : SC := (qD (qV 4 (qY .add (zm (qC 3) (qY .mod (qC 0) (qC 1))) (qC 4)))
 (qD (qV 0 (qY .fdiv (qC 0) (qC 1)))
 qK))
section
variable {st st1 st2 : St} {e a b : EC} {n m k i : Nat} {j : Int} {u : PV} {g : G}
noncomputable abbrev DX (num base : Nat) (tall : Bool) (ls out : List Nat) (g : G) : St := ⟨[some (.int num), some (.int base), some (.bool tall), some (.str ls), some (.str out)], [], g⟩
theorem qAJ {base : Nat} {tall : Bool} {ls : List Nat} (hb : 0 < base) (hb2 : base ≤ 16) : ∀ (f num : Nat) (out D : List Nat), out.length + f ≤ line → dc f base ls num out = some D → ∃ num', whileC qS0 qSZ (DX num base tall ls out g) = some (.nxt, DX num' base tall ls D g)
 | 0, num, out, D, hl, h => by cases h
 | f + 1, num, out, D, hl, h => by
  unfold dc at h
  have t1 : qS0 (DX num base tall ls out g) = some (decide ((0 : Int) < (num : Int)) || decide (out = []), DX num base tall ls out g) := by
   refine wK rfl (zl (z0 (st1 := DX num base tall ls out g) rfl x_c ?_))
   show some (out == []) = _
   rw [beq_dec]
  by_cases hs : num = 0 ∧ out ≠ []
  ·rw [if_pos hs] at h
   cases h
   have : (decide ((0 : Int) < (num : Int)) || decide (out = [])) = false := by
    rw [decide_eq_false (by lia), decide_eq_false hs.2]; rfl
   rw [this] at t1
   exact ⟨num, qD6 t1⟩
  ·rw [if_neg hs] at h
   have : (decide ((0 : Int) < (num : Int)) || decide (out = [])) = true := by
    by_cases h0 : num = 0
    ·have : out = [] := by
      by_cases q : out = []
      ·exact q
      ·exact absurd ⟨h0, q⟩ hs
     rw [decide_eq_true this, Bool.or_true]
    ·rw [decide_eq_true (by lia), Bool.true_or]
   rw [this] at t1
   cases hc : ls[num % base]? with
   | none => rw [hc] at h; cases h
   | some c =>
    rw [hc] at h
    dsimp only at h
    obtain ⟨num', ih⟩ := qAJ hb hb2 f (num / base) (c :: out) D (by simp; lia) h
    refine ⟨num', ?_⟩
    rw [uc (t := qS0) (b := qSZ) (st2 := DX (num / base) base tall ls (c :: out) g) t1 ?_, ih]
    have hb0 : base ≠ 0 := Nat.ne_of_gt hb
    have a1 : qV 4 (qY .add (zm (qC 3) (qY .mod (qC 0) (qC 1))) (qC 4)) (DX num base tall ls out g) = some (.nxt, DX num base tall ls (c :: out) g) := by
     exact zE (op2 (f := bop .add) (x := .str [c]) (y := .str out) (qMA (x := .str ls) rfl (op2 (f := bop .mod) (x := .int num) (y := .int base) rfl rfl (qF8 hb0)) (qBL hc)) rfl (qEE (show 1 + out.length ≤ line by lia))) rfl
    have a2 : qV 0 (qY .fdiv (qC 0) (qC 1)) (DX num base tall ls (c :: out) g) = some (.nxt, DX (num / base) base tall ls (c :: out) g) := by
     exact zE (op2 (f := bop .fdiv) (x := .int num) (y := .int base) rfl rfl (qMN hb0 (by lia))) rfl
    unfold qSZ
    rw [qJ a1, qJ a2]; rfl
theorem qEM {num base : Nat} {tall : Bool} {D : List Nat} (hb : 0 < base) (hb2 : base ≤ 16) (h : dc 80 base (kC tall) num [] = some D) : kQ [.int num, .int base, .bool tall] g = some (.ok (.str D), g) := by
 obtain ⟨num', hw⟩ := qAJ (g := g) (tall := tall) hb hb2 80 num [] D (by decide) h
 refine zj (v := .str D) (st := DX num' base tall (kC tall) D g) rfl ?_ rfl
 show qD _ (qD _ (qD (whileC qS0 qSZ) _)) ⟨[some (.int num), some (.int base), some (.bool tall), none, none], [], g⟩ = _
 rw [qJ (st1 := ⟨[some (.int num), some (.int base), some (.bool tall), some (.str (kC tall)), none], [], g⟩) (by cases tall <;> rfl), qJ (st1 := DX num base tall (kC tall) [] g) rfl]
 exact (qJ hw).trans rfl
noncomputable def qE6 (base f : Nat) (D : List Nat) : List Nat := if f = 1 ∧ 1 < D.length then D.take 1 ++ [95] ++ D.drop 1 else if f = 2 ∧ 1 < D.length then D.take (D.length - 1) ++ [95, 95] ++ D.drop (D.length - 1) else if f = 3 then (if base = 10 then [48] else [95, 48]) ++ D else D
noncomputable def qTR (base : Nat) (tall : Bool) (F : List Nat) : List Nat := if base = 16 then (if tall then [48, 88] else [48, 120]) ++ F else if base = 2 then (if tall then [48, 66] else [48, 98]) ++ F else F
noncomputable def numbersT : List Nat := (qA2 yI).map fun x => match x with
 | .int i => i.toNat
 | _ => 0
noncomputable def tailsT : List (List Nat × List Nat) := (qA2 vB).map qQK
theorem qJT (g : G) : yI [] g = some (.ok (.fl (numbersT.map fun (i : Nat) => PV.int (i : Int))), g) := rfl
theorem qO9 (g : G) : vB [] g = some (.ok (.fl (tailsT.map fun c => .tup [.str c.1, .str c.2])), g) := rfl
theorem qJS : numbersT.length = 12 := by decide +kernel
theorem qO8 : tailsT.length = 10 := by decide +kernel
noncomputable def dq : Bool → Bool → List Nat → Option (Bool × Bool)
 | u, l, [] => some (u, l)
 | u, l, c :: r => if (c = 117 ∨ c = 85) ∧ u = false then dq true l r else if (c = 108 ∨ c = 76) ∧ l = false then dq u true r else none
theorem dZ {c : Nat} {R : List Nat} (hc : c ≠ 117 ∧ c ≠ 85 ∧ c ≠ 108 ∧ c ≠ 76) : ∀ {t : List Nat} {u l u' l' : Bool}, dq u l t = some (u', l') → ∀ k, jc u l k (t ++ c :: R) = some (u', l', k + t.length)
 | [], u, l, u', l', h, k => by
  cases h
  rw [List.nil_append, jc, if_neg, if_neg]
  ·rfl
  ·rintro ⟨q | q, _⟩
   ·exact hc.2.2.1 q
   ·exact hc.2.2.2 q
  ·rintro ⟨q | q, _⟩
   ·exact hc.1 q
   ·exact hc.2.1 q
 | a :: t, u, l, u', l', h, k => by
  unfold dq at h
  rw [List.cons_append, jc]
  by_cases h1 : (a = 117 ∨ a = 85) ∧ u = false
  ·rw [if_pos h1] at h ⊢
   rw [dZ hc h, List.length_cons, show k + 1 + t.length = k + (t.length + 1) by lia]
  ·rw [if_neg h1] at h ⊢
   by_cases h2 : (a = 108 ∨ a = 76) ∧ l = false
   ·rw [if_pos h2] at h ⊢
    rw [dZ hc h, List.length_cons, show k + 1 + t.length = k + (t.length + 1) by lia]
   ·rw [if_neg h2] at h; cases h
noncomputable def qDV (s : Nat) : Bool := decide (s ≠ 95) && (decide (zB s = 99) && (decide ([s] ∉ zO) && (decide (s ≠ 46) && (decide (s ≠ 120) && decide (s ≠ 88)))))
theorem wV {b s : Nat} {R : List Nat} (hb : b ≤ 16) (hs : s ≠ 95) (hs2 : zB s = 99) : ∀ {D : List Nat} {n : Nat} {g : Bool} {k : Nat} {z : Nat × Bool × Nat}, kP b n g k (D ++ [32]) = some z → kP b n g k (D ++ s :: R) = some z
 | [], n, g, k, z, h => by
  rw [List.nil_append] at h ⊢
  have h32 : ¬ zB 32 < b := by
   have : zB 32 = 99 := by decide
   lia
  rw [qCB, if_neg (by decide), if_neg h32] at h
  rw [qCB, if_neg hs, if_neg (by lia)]
  exact h
 | c :: D, n, g, k, z, h => by
  rw [List.cons_append, kP] at h ⊢
  by_cases h1 : c = 95
  ·rw [if_pos h1] at h ⊢; exact wV hb hs hs2 h
  ·rw [if_neg h1] at h ⊢
   by_cases h2 : zB c < b
   ·rw [if_pos h2] at h ⊢; exact wV hb hs hs2 h
   ·rw [if_neg h2] at h ⊢; exact h
theorem qKV {s : Nat} {R S : List Nat} {b : Nat} (hs : qDV s = true) (hS : S ≠ []) (h : vt (S ++ [32]) = some b) : vt (S ++ s :: R) = some b := by
 simp only [qDV, Bool.and_eq_true] at hs
 obtain ⟨s1, s2, s3, s4, s5, s6⟩ := hs
 have s2 := of_decide_eq_true s2
 have s5 := of_decide_eq_true s5
 have s6 := of_decide_eq_true s6
 match S, hS with
 | [a], _ =>
  simp only [List.singleton_append, vt] at h ⊢
  by_cases ha : a = 48
  ·rw [if_pos ha] at h ⊢
   rw [if_neg (by decide), if_neg (by decide)] at h
   rw [if_neg (by simp [s5, s6]), if_neg ?_]
   ·exact h
   ·rintro (q | q) <;> subst q <;> revert s2 <;> decide
  ·rw [if_neg ha] at h ⊢; exact h
 | a :: c :: r, _ => exact h
noncomputable def qJR (base num : Nat) (S : List Nat) : Bool := decide (S ≠ []) && (decide (S.length ≤ 60) && (S.all (fun c => decide (c < E) && decide (c ∉ parting)) && ((match S with
 | c :: _ => qIO c
 | [] => false) && (decide (vt (S ++ [32]) = some base) && (match kP base 0 false (if base = 10 then 0 else 2) ((S ++ [32]).drop (if base = 10 then 0 else 2)) with
 | some (n, good, k) => decide (n = num) && (decide (good = true) && decide (k = S.length))
 | none => false)))))
noncomputable def qMB (t : List Nat × List Nat) : Bool := decide (t.1.length ≤ 2) && (t.1.all (fun c => qDV c && (decide (c < E) && decide (c ∉ parting))) && (t.2.all (fun c => decide (c < E)) && (match dq false false t.1 with
 | some (u, l) => decide (d0 u l = t.2)
 | none => false)))
theorem qMC : tailsT.all qMB = true := by decide +kernel
theorem qLR {l c : Nat} (h : c ∈ qJQ l) : qDV c = true ∧ c ≠ 117 ∧ c ≠ 85 ∧ c ≠ 108 ∧ c ≠ 76 := by
 have : ∀ c ∈ qOC ++ parting, qDV c = true ∧ c ≠ 117 ∧ c ≠ 85 ∧ c ≠ 108 ∧ c ≠ 76 := by decide +kernel
 exact this c (List.mem_filter.mp h).1
theorem qAQ {base num s : Nat} {S R : List Nat} {u l : Bool} {k' : Nat} (hb : base ≤ 16) (hok : qJR base num S = true) (hs : qDV s = true) (hw : jc false false S.length (s :: R) = some (u, l, k')) : gu (S ++ s :: R) = some (.ok (gr num true (d0 u l) k')) := by
 simp only [qJR, Bool.and_eq_true] at hok
 obtain ⟨o1, o2, o3, o4, o5, o6⟩ := hok
 have o1 := of_decide_eq_true o1
 have o5 := of_decide_eq_true o5
 have hs' := hs
 simp only [qDV, Bool.and_eq_true] at hs'
 obtain ⟨s1, s2, s3, s4, s5, s6⟩ := hs'
 have s1 := of_decide_eq_true s1
 have s2 := of_decide_eq_true s2
 have s3 := of_decide_eq_true s3
 have s4 := of_decide_eq_true s4
 unfold gu
 rw [qKV hs o1 o5]
 dsimp only
 cases hd : kP base 0 false (if base = 10 then 0 else 2) ((S ++ [32]).drop (if base = 10 then 0 else 2)) with
 | none => rw [hd] at o6; cases o6
 | some z =>
  obtain ⟨n, good, k⟩ := z
  rw [hd] at o6
  simp only [Bool.and_eq_true] at o6
  have n1 := of_decide_eq_true o6.1
  have n2 := of_decide_eq_true o6.2.1
  have n3 := of_decide_eq_true o6.2.2
  subst n1 n2 n3
  have hkl : (if base = 10 then 0 else 2) ≤ S.length := by
   by_cases q : base = 10
   ·rw [if_pos q]; exact Nat.zero_le _
   ·rw [if_neg q]
    match S, o1 with
    | [a], _ =>
     exfalso
     simp only [List.singleton_append, vt] at o5
     by_cases ha : a = 48
     ·rw [if_pos ha, if_neg (by decide), if_neg (by decide)] at o5
      exact q (Option.some.inj o5).symm
     ·rw [if_neg ha] at o5
      exact q (Option.some.inj o5).symm
    | a :: b :: r, _ => simp
  rw [List.drop_append_of_le_length hkl] at hd ⊢
  rw [wV hb s1 s2 hd]
  dsimp only
  rw [List.drop_left]
  have hr : (if base = 10 then ye (s :: R) else some false) = some false := by
   by_cases q : base = 10
   ·rw [if_pos q]
    unfold ye
    dsimp only
    rw [if_neg s4, if_neg ?_, decide_eq_false s3]
    rintro (q | q) <;> subst q <;> revert s2 <;> decide
   ·rw [if_neg q]
  rw [hr]
  dsimp only
  unfold yB
  dsimp only
  rw [if_neg (by lia)]
  unfold va
  rw [hw]
noncomputable def gZ (num : Nat) (w : List Nat) : List Tok := [(3, .tup [.int (if num > 18446744073709551615 then 0 else (num : Int)), .str w], 0)]
noncomputable def vd (num : Nat) : List yG := if num > 18446744073709551615 then [(1021, 0)] else []
theorem qRD {base num : Nat} {S : List Nat} {t : List Nat × List Nat} (hb : base ≤ 16) (hok : qJR base num S = true) (ht : qMB t = true) : Good (S ++ t.1) (gZ num t.2) (vd num) := by
 have hok' := hok
 simp only [qJR, Bool.and_eq_true] at hok'
 obtain ⟨o1, o2, o3, o4, o5, o6⟩ := hok'
 have o1 := of_decide_eq_true o1
 have o2 := of_decide_eq_true o2
 have ht' := ht
 simp only [qMB, Bool.and_eq_true] at ht'
 obtain ⟨t1, t2, t4, t3⟩ := ht'
 have t1 := of_decide_eq_true t1
 have hall : ∀ a ∈ S ++ t.1, a < E ∧ a ∉ parting := by
  intro a ha
  rcases List.mem_append.mp ha with z | z
  ·have := List.all_eq_true.mp o3 a z
   rw [Bool.and_eq_true] at this
   exact ⟨of_decide_eq_true this.1, of_decide_eq_true this.2⟩
  ·have := List.all_eq_true.mp t2 a z
   rw [Bool.and_eq_true, Bool.and_eq_true] at this
   exact ⟨of_decide_eq_true this.2.1, of_decide_eq_true this.2.2⟩
 have hne : S ++ t.1 ≠ [] := by simp [o1]
 have hlast : (S ++ t.1).getLastD 0 ∉ parting := by
  have : (S ++ t.1).getLastD 0 ∈ S ++ t.1 := by
   rw [List.getLastD_eq_getLast?, List.getLast?_eq_some_getLast hne]
   exact List.getLast_mem hne
  exact (hall _ this).2
 refine ⟨hne, fun a ha => (hall a ha).1, by rw [List.length_append]; lia, by simp [gZ], ?_, ?_, fun x hx => by rw [List.mem_singleton.mp hx]; exact qLV fun c hc => of_decide_eq_true (List.all_eq_true.mp t4 c hc), 1, fun N p tk rw c R hn hE => ?_⟩
 ·unfold vd
  by_cases q : num > 18446744073709551615
  ·rw [if_pos q]; simp
  ·rw [if_neg q]; simp
 ·intro r hr
  unfold vd at hr
  by_cases q : num > 18446744073709551615
  ·rw [if_pos q] at hr
   rw [List.mem_singleton.mp hr, List.length_append]
   have := List.length_pos_iff.mpr o1
   show 0 < _
   lia
  ·rw [if_neg q] at hr; simp at hr
 ·obtain ⟨c1, c2⟩ := qLR (kD hlast hn)
  cases hwr : dq false false t.1 with
  | none => rw [hwr] at t3; cases t3
  | some z =>
   obtain ⟨u, l⟩ := z
   rw [hwr] at t3
   have t3 := of_decide_eq_true t3
   have hw := dZ (R := R) c2 hwr S.length
   have ht0 : gu (S ++ (t.1 ++ c :: R)) = some (.ok (gr num true (d0 u l) (S.length + t.1.length))) := by
    cases htl : t.1 with
    | nil =>
     rw [htl] at hw
     exact qAQ hb hok c1 hw
    | cons s r =>
     rw [htl] at hw
     refine qAQ hb hok ?_ hw
     have := List.all_eq_true.mp t2 s (by rw [htl]; exact .head _)
     rw [Bool.and_eq_true] at this
     exact this.1
   cases S with
   | nil => exact absurd rfl o1
   | cons s0 S =>
    have hdig : qIO s0 = true := o4
    have hd2 : 48 ≤ s0 ∧ s0 ≤ 57 := by
     unfold qIO at hdig
     rw [Bool.and_eq_true] at hdig
     exact ⟨of_decide_eq_true hdig.1, of_decide_eq_true hdig.2⟩
    have hbl : z5 s0 = false ∧ zJ s0 = false := by
     have : ∀ i < 10, z5 (48 + i) = false ∧ zJ (48 + i) = false := by decide
     have := this (s0 - 48) (by lia)
     rw [show 48 + (s0 - 48) = s0 by lia] at this
     exact this
    have hE0 : s0 ≠ E := fun q => by
     have : E = 1114112 := rfl
     lia
    have hst : jA (s0 :: S ++ t.1 ++ c :: R) = true := by
     rw [List.append_assoc, List.cons_append]
     cases hy : S ++ (t.1 ++ c :: R) with
     | nil => simp at hy
     | cons y ys =>
      unfold jA
      dsimp only
      rw [hbl.1, decide_eq_false hE0, decide_eq_false (show ¬ s0 = 47 by lia)]
      rfl
    have ho : zS 200 (s0 :: S ++ t.1 ++ c :: R) = some (.ok (gr num true (d0 u l) ((s0 :: S).length + t.1.length))) := by
     rw [List.append_assoc]
     rw [List.cons_append] at ht0 ⊢
     unfold zS
     dsimp only
     rw [hbl.2, hdig]
     simp only [Bool.false_eq_true, if_false, if_true]
     exact ht0
    rw [yl hst ho, t3]
    unfold gr gZ vd
    rw [if_neg (by decide)]
    by_cases q : num > 18446744073709551615
    ·simp only [if_pos q]
     rw [← List.length_append, List.drop_left]
     rfl
    ·simp only [if_neg q]
     rw [← List.length_append, List.drop_left]
     rfl
end
noncomputable def qRB (base num0 : Nat) : Nat := if base = 2 then num0 % 1000 else num0
noncomputable def qC7 (base num f : Nat) (tall : Bool) : Bool := match dc 80 base (kC tall) num [] with
 | some D => decide (D ≠ []) && (decide (D.length ≤ 40) && qJR base num (qTR base tall (qE6 base f D)))
 | none => false
theorem qOL : ([10, 16, 2].all fun base => numbersT.all fun num0 => (List.range 4).all fun f => [true, false].all fun tall => qC7 base (qRB base num0) f tall) = true := by decide +kernel
noncomputable def qVV : SC := (sIf (zb (tE (qQ .eq (qY .mod (qC 1) (eC (.int 4))) (eC (.int 1)))) (tE (qQ .gt (zn (qC 6)) (eC (.int 1))))) (qD (qV 6 (qY .add (qY .add (zm (qC 6) (eC (.int 0))) (eC (.str [95]))) (jk (qC 6) (eC (.int 1)))))
 qK) (qD (sIf (zb (tE (qQ .eq (qY .mod (qC 1) (eC (.int 4))) (eC (.int 2)))) (tE (qQ .gt (zn (qC 6)) (eC (.int 1))))) (qD (qV 6 (qY .add (qY .add (vX (qC 6) (eC (.int (-1)))) (eC (.str [95, 95]))) (zm (qC 6) (eC (.int (-1))))))
 qK) (qD (sIf (tE (qQ .eq (qY .mod (qC 1) (eC (.int 4))) (eC (.int 3)))) (qD (qV 6 (qY .add (ko (tE (qQ .eq (qC 0) (eC (.int 10)))) (eC (.str [48])) (eC (.str [95, 48]))) (qC 6)))
 qK) qK)
 qK))
 qK))
noncomputable def qVW : SC := (sIf (tE (qQ .eq (qC 0) (eC (.int 16)))) (qD (qV 6 (qY .add (ko (tE (qC 5)) (eC (.str [48, 88])) (eC (.str [48, 120]))) (qC 6)))
 qK) (qD (sIf (tE (qQ .eq (qC 0) (eC (.int 2)))) (qD (qV 6 (qY .add (ko (tE (qC 5)) (eC (.str [48, 66])) (eC (.str [48, 98]))) (qC 6)))
 qK) qK)
 qK))
section
variable {st st1 st2 : St} {e a b : EC} {n m k i : Nat} {j : Int} {u : PV} {g : G}
theorem qFC {t : List Nat} (h : t.length - 1 < t.length) : gE (.str t) (.int (-1)) = some (.str [t[t.length - 1]]) := by
 show (if (0 : Int) ≤ -1 then (t[(-1 : Int).toNat]?).map (fun c => PV.str [c]) else if -(t.length : Int) ≤ -1 then (t[((t.length : Int) + -1).toNat]?).map (fun c => PV.str [c]) else none) = _
 rw [if_neg (by decide), if_pos (by lia), show ((t.length : Int) + (-1)).toNat = t.length - 1 by lia, List.getElem?_eq_getElem h]; rfl
theorem gQ {x y : List Nat} (h1 : a st = some (.str x, st)) (h2 : b st = some (.str y, st)) (hl : x.length + y.length ≤ line) : qY .add a b st = some (.str (x ++ y), st) := op2 (f := bop .add) h1 h2 (qEE hl)
noncomputable abbrev NX (base n num : Nat) (tail word : List Nat) (tall : Bool) (D : List Nat) (g : G) : St := ⟨[some (.int base), some (.int n), some (.int num), some (.str tail), some (.str word), some (.bool tall), some (.str D)], [], g⟩
theorem qRC {base num : Nat} {tail word D : List Nat} {tall : Bool} (hD : D ≠ []) (hl : D.length ≤ 40) : qVV (NX base n num tail word tall D g) = some (.nxt, NX base n num tail word tall (qE6 base (n % 4) D) g) := by
 have tq : ∀ k : Nat, ∀ j : Int, j = (k : Int) → tE (qQ .eq (qY .mod (qC 1) (eC (.int 4))) (eC (.int j))) (NX base n num tail word tall D g) = some (decide (n % 4 = k), NX base n num tail word tall D g) := fun k j hj => uC hj (vO (k := 4) (j := 4) rfl (by decide) rfl)
 have tl : tE (qQ .gt (zn (qC 6)) (eC (.int 1))) (NX base n num tail word tall D g) = some (decide (1 < D.length), NX base n num tail word tall D g) := by
  refine zl (z0 (st1 := NX base n num tail word tall D g) (qHV rfl) x_c ?_)
  show some (decide ((1 : Int) < (D.length : Int))) = _
  have : ((1 : Int) < (D.length : Int)) ↔ 1 < D.length := by lia
  rw [decide_eq_decide.mpr this]
 have t1 := jn (tq 1 1 rfl) tl
 have t2 := jn (tq 2 2 rfl) tl
 have t3 := tq 3 3 rfl
 have hline : ∀ x, x ≤ 60 → x ≤ line := fun x hx => Nat.le_trans hx (by decide)
 unfold qE6 qVV
 by_cases h1 : n % 4 = 1 ∧ 1 < D.length
 ·rw [if_pos h1]
  rw [decide_eq_true h1.1, decide_eq_true h1.2] at t1
  rw [zM t1, seq_nil]
  refine zE (u := .str (D.take 1 ++ [95] ++ D.drop 1)) (st1 := NX base n num tail word tall D g) ?_ rfl
  have c1 : zD D.length 1 = 1 := by
   unfold zD
   rw [if_neg (by decide)]
   show min 1 D.length = 1
   lia
  have i0 : gE (.str D) (.int 0) = some (.str (D.take 1)) := by
   cases D with
   | nil => exact absurd rfl hD
   | cons d r => rfl
  have e1 : zm (qC 6) (eC (.int 0)) (NX base n num tail word tall D g) = some (.str (D.take 1), NX base n num tail word tall D g) := by
   exact op2 (f := gE) (x := .str D) rfl x_c i0
  have e2 : jk (qC 6) (eC (.int 1)) (NX base n num tail word tall D g) = some (.str (D.drop 1), NX base n num tail word tall D g) := by
   exact op2 (f := wG) (x := .str D) rfl x_c (congrArg (fun n => some (PV.str (D.drop n))) c1)
  exact gQ (gQ e1 x_c (hline _ (by simp; lia))) e2 (hline _ (by simp; lia))
 ·rw [if_neg h1]
  have : (decide (n % 4 = 1) && decide (1 < D.length)) = false := by
   rw [← Bool.decide_and, decide_eq_false h1]
  rw [this] at t1
  rw [qr t1, seq_nil]
  by_cases h2 : n % 4 = 2 ∧ 1 < D.length
  ·rw [if_pos h2]
   rw [decide_eq_true h2.1, decide_eq_true h2.2] at t2
   rw [zM t2, seq_nil]
   refine zE (u := .str (D.take (D.length - 1) ++ [95, 95] ++ D.drop (D.length - 1))) (st1 := NX base n num tail word tall D g) ?_ rfl
   have c1 : zD D.length (-1) = D.length - 1 := by
    unfold zD
    rw [if_pos (by decide)]
    lia
   have i0 : gE (.str D) (.int (-1)) = some (.str (D.drop (D.length - 1))) := by
    have hlt : D.length - 1 < D.length := by lia
    rw [List.drop_eq_getElem_cons hlt, show D.length - 1 + 1 = D.length by lia, List.drop_length]
    exact qFC hlt
   have e1 : zm (qC 6) (eC (.int (-1))) (NX base n num tail word tall D g) = some (.str (D.drop (D.length - 1)), NX base n num tail word tall D g) := by
    exact op2 (f := gE) (x := .str D) rfl x_c i0
   have e2 : vX (qC 6) (eC (.int (-1))) (NX base n num tail word tall D g) = some (.str (D.take (D.length - 1)), NX base n num tail word tall D g) := by
    exact op2 (f := qHN) (x := .str D) rfl x_c (congrArg (fun n => some (PV.str (D.take n))) c1)
   exact gQ (gQ e2 x_c (hline _ (by simp; lia))) e1 (hline _ (by simp; lia))
  ·rw [if_neg h2]
   have : (decide (n % 4 = 2) && decide (1 < D.length)) = false := by
    rw [← Bool.decide_and, decide_eq_false h2]
   rw [this] at t2
   rw [qr t2, seq_nil]
   by_cases h3 : n % 4 = 3
   ·rw [if_pos h3]
    rw [decide_eq_true h3] at t3
    rw [zM t3, seq_nil]
    have tb := uC (k := 10) (j := 10) rfl (show qC 0 (NX base n num tail word tall D g) = some (.int base, NX base n num tail word tall D g) from rfl)
    refine zE (u := .str ((if base = 10 then [48] else [95, 48]) ++ D)) (st1 := NX base n num tail word tall D g) ?_ rfl
    have hite : ko (tE (qQ .eq (qC 0) (eC (.int 10)))) (eC (.str [48])) (eC (.str [95, 48])) (NX base n num tail word tall D g) = some (.str (if base = 10 then [48] else [95, 48]), NX base n num tail word tall D g) := by
     simp only [ko, bnd, tb]
     by_cases q : base = 10
     ·rw [decide_eq_true q, if_pos q]; rfl
     ·rw [decide_eq_false q, if_neg q]; rfl
    exact gQ hite rfl (hline _ (by
     by_cases q : base = 10
     ·rw [if_pos q]; simp; lia
     ·rw [if_neg q]; simp; lia))
   ·rw [if_neg h3]
    rw [decide_eq_false h3] at t3
    rw [qr t3]; rfl
theorem qQH {base f : Nat} {D : List Nat} (hl : D.length ≤ 40) : (qE6 base f D).length ≤ 42 := by
 unfold qE6
 by_cases h1 : f = 1 ∧ 1 < D.length
 ·rw [if_pos h1]; simp; lia
 ·rw [if_neg h1]
  by_cases h2 : f = 2 ∧ 1 < D.length
  ·rw [if_pos h2]; simp; lia
  ·rw [if_neg h2]
   by_cases h3 : f = 3
   ·rw [if_pos h3]
    by_cases q : base = 10
    ·rw [if_pos q]; simp; lia
    ·rw [if_neg q]; simp; lia
   ·rw [if_neg h3]; lia
theorem qTN {base num : Nat} {tail word F : List Nat} {tall : Bool} (hl : F.length ≤ 42) : qVW (NX base n num tail word tall F g) = some (.nxt, NX base n num tail word tall (qTR base tall F) g) := by
 have hline : ∀ x, x ≤ 60 → x ≤ line := fun x hx => Nat.le_trans hx (by decide)
 have t1 := uC (k := 16) (j := 16) rfl (show qC 0 (NX base n num tail word tall F g) = some (.int base, NX base n num tail word tall F g) from rfl)
 have t2 := uC (k := 2) (j := 2) rfl (show qC 0 (NX base n num tail word tall F g) = some (.int base, NX base n num tail word tall F g) from rfl)
 have add : ∀ p q : List Nat, p.length = 2 → q.length = 2 → qV 6 (qY .add (ko (tE (qC 5)) (eC (.str p)) (eC (.str q))) (qC 6)) (NX base n num tail word tall F g) = some (.nxt, NX base n num tail word tall ((if tall then p else q) ++ F) g) := by
  intro p q hp hq
  refine zE (u := .str ((if tall then p else q) ++ F)) (st1 := NX base n num tail word tall F g) ?_ rfl
  have hite : ko (tE (qC 5)) (eC (.str p)) (eC (.str q)) (NX base n num tail word tall F g) = some (.str (if tall then p else q), NX base n num tail word tall F g) := by
   cases tall <;> rfl
  exact gQ hite rfl (hline _ (by cases tall <;> simp [hp, hq] <;> lia))
 unfold qTR qVW
 by_cases h1 : base = 16
 ·rw [if_pos h1]
  rw [decide_eq_true h1] at t1
  rw [zM t1, seq_nil]
  exact add _ _ rfl rfl
 ·rw [if_neg h1]
  rw [decide_eq_false h1] at t1
  rw [qr t1, seq_nil]
  by_cases h2 : base = 2
  ·rw [if_pos h2]
   rw [decide_eq_true h2] at t2
   rw [zM t2, seq_nil]
   exact add _ _ rfl rfl
  ·rw [if_neg h2]
   rw [decide_eq_false h2] at t2
   rw [qr t2]; rfl
theorem qOK (base n : Nat) (hb : base = 10 ∨ base = 16 ∨ base = 2) (g : G) : gj (v4 [.int base, .int n] g) g := by
 have hline : ∀ x, x ≤ 64 → x ≤ line := fun x hx => Nat.le_trans hx (by decide)
 obtain ⟨num0, hnum, hs⟩ := gg (n := n) (a := qT yI qI) (b := qY .mod (qC 1) (eC (.int 12))) (st := ⟨[some (.int base), some (.int n), none, none, none, none, none], [], g⟩) qJS (by decide) (qA8 qJT) (vO (k := 12) (j := 12) rfl (by decide) rfl)
 obtain ⟨num, hnm⟩ : ∃ num, num = qRB base num0 := ⟨_, rfl⟩
 obtain ⟨tl, htl, hs2⟩ := gg (n := n / 12) (a := qT vB qI) (b := qY .mod (qC 1) (eC (.int 10))) (st := ⟨[some (.int base), some (.int (n / 12 : Nat)), some (.int num), none, none, none, none], [], g⟩) qO8 (by decide) (qA8 qO9) (vO (k := 10) (j := 10) rfl (by decide) rfl)
 obtain ⟨n2, hn2⟩ : ∃ n2, n2 = n / 12 / 10 := ⟨_, rfl⟩
 obtain ⟨tall, htall⟩ : ∃ tall, tall = decide (n2 / 4 % 2 = 1) := ⟨_, rfl⟩
 have hck : qC7 base num (n2 % 4) tall = true := by
  have h1 := List.all_eq_true.mp qOL base (by simp; exact hb)
  have h2 := List.all_eq_true.mp h1 num0 hnum
  have h3 := List.all_eq_true.mp h2 (n2 % 4) (List.mem_range.mpr (Nat.mod_lt _ (by decide)))
  have h4 := List.all_eq_true.mp h3 tall (by cases tall <;> simp)
  rw [hnm]; exact h4
 unfold qC7 at hck
 cases hD : dc 80 base (kC tall) num [] with
 | none => rw [hD] at hck; cases hck
 | some D =>
  rw [hD] at hck
  simp only [Bool.and_eq_true] at hck
  have d1 := of_decide_eq_true hck.1
  have d2 := of_decide_eq_true hck.2.1
  have hG := qRD (base := base) (by lia) hck.2.2 (List.all_eq_true.mp qMC tl htl)
  obtain ⟨S, hS⟩ : ∃ S, S = qTR base tall (qE6 base (n2 % 4) D) := ⟨_, rfl⟩
  rw [← hS] at hG
  refine ⟨_, _, _, ?_, hG⟩
  have hlen := hG.len
  rw [List.length_append] at hlen
  have hadd : qY .add (qC 6) (qC 3) (NX base n2 num tl.1 tl.2 tall S g) = some (.str (S ++ tl.1), NX base n2 num tl.1 tl.2 tall S g) := gQ rfl rfl (hline _ hlen)
  have hbd : kK ⟨[some (.int base), some (.int n), none, none, none, none, none], [], g⟩ = some (.ret (jJ (S ++ tl.1) (gZ num tl.2) (vd num)), NX base n2 num tl.1 tl.2 tall S g) := by
   show qD _ (qD _ (qD _ (qD _ (qD _ (qD _ (qD _ (qD qVV (qD qVW _)))))))) _ = _
   rw [qJ (st1 := ⟨[some (.int base), some (.int n), some (.int num0), none, none, none, none], [], g⟩) (zE hs rfl)]
   have t2 := uC (k := 2) (j := 2) rfl (show qC 0 (⟨[some (.int base), some (.int n), some (.int num0), none, none, none, none], [], g⟩ : St) = some (.int base, (⟨[some (.int base), some (.int n), some (.int num0), none, none, none, none], [], g⟩ : St)) from rfl)
   rw [qJ (st1 := ⟨[some (.int base), some (.int n), some (.int num), none, none, none, none], [], g⟩)]
   ·rw [qJ (st1 := ⟨[some (.int base), some (.int (n / 12 : Nat)), some (.int num), none, none, none, none], [], g⟩) (zE (ki (k := 12) (j := 12) rfl (by decide) (by decide) rfl) rfl)]
    rw [qJ (st1 := ⟨[some (.int base), some (.int (n / 12 : Nat)), some (.int num), some (.str tl.1), some (.str tl.2), none, none], [], g⟩) (qHY hs2 rfl rfl)]
    rw [qJ (st1 := ⟨[some (.int base), some (.int n2), some (.int num), some (.str tl.1), some (.str tl.2), none, none], [], g⟩) (zE (ki (k := 10) (j := 10) rfl (by decide) (by decide) rfl) (by rw [hn2]; rfl))]
    rw [qJ (st1 := ⟨[some (.int base), some (.int n2), some (.int num), some (.str tl.1), some (.str tl.2), some (.bool tall), none], [], g⟩)]
    ·rw [qJ (st1 := NX base n2 num tl.1 tl.2 tall D g)]
     ·rw [qJ (qRC d1 d2), qJ (qTN (qQH d2)), ← hS]
      have tm : tE (qQ .gt (qC 2) (eC (.int 18446744073709551615))) (NX base n2 num tl.1 tl.2 tall S g) = some (decide ((18446744073709551615 : Int) < (num : Int)), NX base n2 num tl.1 tl.2 tall S g) := rfl
      by_cases hm : num > 18446744073709551615
      ·rw [decide_eq_true (by lia)] at tm
       refine qz ((zM tm).trans (qz (jI ?_)))
       unfold jJ gZ vd
       rw [if_pos hm, if_pos hm]
       exact je hadd (yM (gR x_c rfl)) (qBT (gR x_c x_c))
      ·rw [decide_eq_false (by lia)] at tm
       rw [qJ ((qr tm).trans rfl)]
       refine qz (jI ?_)
       unfold jJ gZ vd
       rw [if_neg hm, if_neg hm]
       exact je hadd (yM (gR rfl rfl)) vh
     ·have hdg := qEM (g := g) (by lia) (by lia) hD
      exact zE (zQ (ze (v := .int num) rfl (ze (v := .int base) rfl (ze (v := .bool tall) rfl rfl))) (zA rfl hdg)) rfl
    ·refine zE (u := .bool tall) (st1 := ⟨[some (.int base), some (.int n2), some (.int num), some (.str tl.1), some (.str tl.2), none, none], [], g⟩) ?_ rfl
     have hm := vO (k := 2) (j := 2) rfl (by decide) (ki (k := 4) (j := 4) rfl (by decide) (by decide) (show qC 1 (⟨[some (.int base), some (.int n2), some (.int num), some (.str tl.1), some (.str tl.2), none, none], [], g⟩ : St) = some (.int n2, (⟨[some (.int base), some (.int n2), some (.int num), some (.str tl.1), some (.str tl.2), none, none], [], g⟩ : St)) from rfl))
     refine z0 hm x_c ?_
     show some (((n2 / 4 % 2 : Nat) : Int) == ((1 : Nat) : Int)) = _
     rw [htall]
     by_cases q : n2 / 4 % 2 = 1
     ·rw [q]; rfl
     ·have : ¬ (((n2 / 4 % 2 : Nat) : Int) = ((1 : Nat) : Int)) := by lia
      rw [decide_eq_false q, beq_eq_false_iff_ne.mpr this]
   ·unfold qRB at hnm
    by_cases q : base = 2
    ·rw [if_pos q] at hnm
     rw [decide_eq_true q] at t2
     rw [zM t2, seq_nil, hnm]
     exact zE (vO (k := 1000) (j := 1000) rfl (by decide) rfl) rfl
    ·rw [if_neg q] at hnm
     rw [decide_eq_false q] at t2
     rw [qr t2, hnm]; rfl
  have hret : PV.okRet (jJ (S ++ tl.1) (gZ num tl.2) (vd num)) = true := by
   unfold jJ gZ vd
   by_cases hm : num > 18446744073709551615
   ·rw [if_pos hm, if_pos hm]; rfl
   ·rw [if_neg hm, if_neg hm]; rfl
  exact zj (np := 2) (nv := 7) (args := [.int base, .int n]) (g := g) (b := kK) rfl hbd hret
end
section
variable {st st1 st2 : St} {e a b : EC} {n m k i : Nat} {j : Int} {u : PV} {g : G}
theorem gS {T : List Tok} (h : ∀ t ∈ T, j1 t.2.1 = true) : PV.cleans (T.map qd) = true := vv fun t ht => qK4 rfl (vM (vJ (h t ht))) rfl
theorem Good.okRet {P : List Nat} {T : List Tok} {R : List yG} (h : Good P T R) : PV.okRet (jJ P T R) = true := (jo (gS h.sol) (jo (yz R) rfl) : (PV.cleans (T.map qd) && (PV.cleans (R.map qj) && true)) = true)
theorem Good.clean {P : List Nat} {T : List Tok} {R : List yG} (h : Good P T R) : PV.clean (jJ P T R) = true := (jo (gS h.sol) (jo (yz R) rfl) : (PV.cleans (T.map qd) && (PV.cleans (R.map qj) && true)) = true)
theorem qKN {f : Fn} {x y : PV} (h1 : a st = some (x, st)) (h2 : b st = some (y, st)) (hr : runF f [x, y] st = some (.ok u, st1)) : qT f (qB a (qB b qI)) st = some (u, st1) := zQ (ze h1 (ze h2 rfl)) hr
theorem qD9 {f : Fn} {c : EC} {x y z : PV} (h1 : a st = some (x, st)) (h2 : b st = some (y, st)) (h3 : c st = some (z, st)) (hr : runF f [x, y, z] st = some (.ok u, st1)) : qT f (qB a (qB b (qB c qI))) st = some (u, st1) := zQ (ze h1 (ze h2 (ze h3 rfl))) hr
theorem qRG (kind n : Nat) (hk : kind < 12) (g : G) : gj (j6 [.int kind, .int n] g) g := by
 obtain ⟨S, hS⟩ : ∃ S : Option PV → Option PV → Option PV → Option PV → St, S = fun x y z w => ⟨[some (.int kind), some (.int n), x, y, z, w], [], g⟩ := ⟨_, rfl⟩
 have start : (⟨[some (.int kind), some (.int n), none, none, none, none], [], g⟩ : St) = S none none none none := by rw [hS]
 have l0 : ∀ x y z w, qC 0 (S x y z w) = some (.int kind, S x y z w) := fun x y z w => by rw [hS]; rfl
 have l1 : ∀ x y z w, qC 1 (S x y z w) = some (.int n, S x y z w) := fun x y z w => by rw [hS]; rfl
 have fin : ∀ P T R x y z w, zw (S none none none none) = some (.ret (jJ P T R), S x y z w) → Good P T R → gj (j6 [.int kind, .int n] g) g := by
  intro P T R x y z w hb hG
  refine ⟨P, T, R, ?_, hG⟩
  rw [← start] at hb
  have := zj (np := 2) (nv := 6) (args := [.int kind, .int n]) (g := g) (b := zw) rfl hb hG.okRet
  rw [show (S x y z w).ls = [] by rw [hS], show (S x y z w).g = g by rw [hS]] at this
  exact this
 have call : ∀ (f : Fn) (u : PV), f [.int n] g = some (.ok u, g) → qT f (qB (qC 1) qI) (S none none none none) = some (u, S none none none none) := by
  intro f u hf
  have hr := zA (f := f) (st := S none none none none) (vs := [.int n]) (r := .ok u) (g := g) rfl (by rw [show (S none none none none).g = g by rw [hS]]; exact hf)
  exact (zQ (ze (l1 ..) rfl) hr).trans (by rw [hS])
 have tlt : ∀ (k : Nat) (j : Int), j = (k : Int) → tE (qQ .lt (qC 0) (eC (.int j))) (S none none none none) = some (decide (kind < k), S none none none none) := by
  intro k j hj
  subst hj
  refine zl (z0 (l0 ..) x_c ?_)
  show some (decide ((kind : Int) < (k : Int))) = _
  rw [decide_eq_decide.mpr Int.ofNat_lt]
 have teq : ∀ (k : Nat) (j : Int), j = (k : Int) → tE (qQ .eq (qC 0) (eC (.int j))) (S none none none none) = some (decide (kind = k), S none none none none) := fun k j hj => uC hj (l0 ..)
 have t2 := tlt 2 2 rfl
 have t7 := tlt 7 7 rfl
 have q2 := teq 2 2 rfl
 have q3 := teq 3 3 rfl
 have q7 := teq 7 7 rfl
 have q8 := teq 8 8 rfl
 have q9 := teq 9 9 rfl
 by_cases h2 : kind < 2
 ·rw [decide_eq_true h2] at t2
  obtain ⟨P, T, R, hf, hG⟩ := qQ8 n g
  refine fin P T R none none none none ?_ hG
  unfold zw
  exact qz ((zM t2).trans (qz (jI (call _ _ hf))))
 ·rw [decide_eq_false h2] at t2
  by_cases k2 : kind = 2
  ·rw [decide_eq_true k2] at q2
   have w1 : qV 2 (yh (jt (eC vG) [10] [32]) [32]) (S none none none none) = some (.nxt, S (some (.fl (signsT.map .str))) none none none) := zE (qHW (t := uA vG) (by decide +kernel)) (by rw [hS]; rfl)
   have l2 : ∀ x y z w, qC 2 (S (some x) y z w) = some (x, S (some x) y z w) := fun x y z w => by rw [hS]; rfl
   have l3 : ∀ x y z w, qC 3 (S x (some y) z w) = some (y, S x (some y) z w) := fun x y z w => by rw [hS]; rfl
   obtain ⟨P, hP, hs⟩ := wJ (a := qC 2) (b := qY .mod (qC 1) (zn (qC 2))) qFX (by decide) (l2 (.fl (signsT.map .str)) none none none) (qEA (k := 45) (by decide) (l1 ..) ((ka (l2 ..)).trans (by rw [List.length_map, qFX])))
   have hg := List.all_eq_true.mp qL6 P hP
   have hG : Good P [(6, .str P, 0)] [] := by
    rw [Bool.or_eq_true] at hg
    rcases hg with q | q
    ·exact df q
    ·exact qFA q
   refine fin P _ _ (some (.fl (signsT.map .str))) (some (.str P)) none none ?_ hG
   unfold zw
   rw [qJ ((qr t2).trans rfl)]
   refine qz ((zM q2).trans ((qJ w1).trans ((qJ (zE hs (by rw [hS]; rfl))).trans (qz (jI ?_)))))
   have hS2 : (⟨[some (.int kind), some (.int n), some (.fl (signsT.map .str)), some (.str P), none, none], [], g⟩ : St) = S (some (.fl (signsT.map .str))) (some (.str P)) none none := by rw [hS]
   show qZ _ (⟨[some (.int kind), some (.int n), some (.fl (signsT.map .str)), some (.str P), none, none], [], g⟩ : St) = _
   rw [hS2]
   exact je (l3 ..) (yM (l3 ..)) vh
  ·rw [decide_eq_false k2] at q2
   by_cases k3 : kind = 3
   ·rw [decide_eq_true k3] at q3
    obtain ⟨P, T, R, hf, hG⟩ := qQM n g
    refine fin P T R none none none none ?_ hG
    unfold zw
    rw [qJ ((qr t2).trans rfl), qJ ((qr q2).trans rfl)]
    exact qz ((zM q3).trans (qz (jI (call _ _ hf))))
   ·rw [decide_eq_false k3] at q3
    by_cases k7 : kind < 7
    ·rw [decide_eq_true k7] at t7
     obtain ⟨base, hbase, hit⟩ : ∃ base : Nat, (base = 10 ∨ base = 16 ∨ base = 2) ∧ zm (zi (qB (eC (.int 10)) (qB (eC (.int 16)) (qB (eC (.int 2)) qI)))) (qY .sub (qC 0) (eC (.int 4))) (S none none none none) = some (.int base, S none none none none) := by
      have hl3 : zi (qB (eC (.int 10)) (qB (eC (.int 16)) (qB (eC (.int 2)) qI))) (S none none none none) = some (.fl [.int 10, .int 16, .int 2], S none none none none) := by
       exact (qa (ze x_c (ze x_c (ze x_c rfl)))).trans rfl
      have hsub : qY .sub (qC 0) (eC (.int 4)) (S none none none none) = some (.int ((kind - 4 : Nat) : Int), S none none none none) := by
       exact op2 (f := bop .sub) (l0 ..) x_c (congrArg (fun i => some (PV.int i)) (Int.ofNat_sub (n := kind) (m := 4) (by lia)).symm)
      have hc : kind - 4 = 0 ∨ kind - 4 = 1 ∨ kind - 4 = 2 := by lia
      rcases hc with q | q | q
      ·rw [q] at hsub
       exact ⟨10, .inl rfl, d4 (i := 0) (by decide) hl3 hsub⟩
      ·rw [q] at hsub
       exact ⟨16, .inr (.inl rfl), d4 (i := 1) (by decide) hl3 hsub⟩
      ·rw [q] at hsub
       exact ⟨2, .inr (.inr rfl), d4 (i := 2) (by decide) hl3 hsub⟩
     obtain ⟨P, T, R, hf, hG⟩ := qOK base n hbase g
     refine fin P T R none none none none ?_ hG
     unfold zw
     rw [qJ ((qr t2).trans rfl), qJ ((qr q2).trans rfl), qJ ((qr q3).trans rfl)]
     refine qz ((zM t7).trans (qz (jI ?_)))
     have hr := zA (f := v4) (st := S none none none none) (vs := [.int base, .int n]) (r := .ok (jJ P T R)) (g := g) rfl (by rw [show (S none none none none).g = g by rw [hS]]; exact hf)
     refine (qKN hit (l1 ..) hr).trans ?_
     rw [hS]
    ·rw [decide_eq_false k7] at t7
     by_cases k7' : kind = 7
     ·rw [decide_eq_true k7'] at q7
      obtain ⟨P, T, R, hf, hG⟩ := qT1 n g
      refine fin P T R none none none none ?_ hG
      unfold zw
      rw [qJ ((qr t2).trans rfl), qJ ((qr q2).trans rfl), qJ ((qr q3).trans rfl), qJ ((qr t7).trans rfl)]
      exact qz ((zM q7).trans (qz (jI (call _ _ hf))))
     ·rw [decide_eq_false k7'] at q7
      by_cases k8 : kind = 8
      ·rw [decide_eq_true k8] at q8
       obtain ⟨P, T, R, hf, hG⟩ := qT8 n g
       refine fin P T R none none none none ?_ hG
       unfold zw
       rw [qJ ((qr t2).trans rfl), qJ ((qr q2).trans rfl), qJ ((qr q3).trans rfl), qJ ((qr t7).trans rfl), qJ ((qr q7).trans rfl)]
       exact qz ((zM q8).trans (qz (jI (call _ _ hf))))
      ·rw [decide_eq_false k8] at q8
       by_cases k9 : kind = 9
       ·rw [decide_eq_true k9] at q9
        obtain ⟨c, hc, hs⟩ := gg (a := qT yU qI) (b := qY .mod (qC 1) (eC (.int 22))) qNZ (by decide) (qA8 (st := S none none none none) qN0) (vO (k := 22) (j := 22) rfl (by decide) (l1 ..))
        have hG := wY (List.all_eq_true.mp qK1 c hc)
        have l4 : ∀ x y z w, qC 4 (S x y (some z) w) = some (z, S x y (some z) w) := fun x y z w => by rw [hS]; rfl
        have l5 : ∀ x y z w, qC 5 (S x y z (some w)) = some (w, S x y z (some w)) := fun x y z w => by rw [hS]; rfl
        have hl := hG.len
        simp only [List.length_append, List.length_cons, List.length_nil] at hl
        refine fin (39 :: c.1 ++ [39]) _ _ none none (some (.str c.1)) (some (.int c.2)) ?_ hG
        unfold zw
        rw [qJ ((qr t2).trans rfl), qJ ((qr q2).trans rfl), qJ ((qr q3).trans rfl), qJ ((qr t7).trans rfl), qJ ((qr q7).trans rfl), qJ ((qr q8).trans rfl)]
        have hu : zz [4, 5] (zm (qT yU qI) (qY .mod (qC 1) (eC (.int 22)))) (S none none none none) = some (.nxt, S none none (some (.str c.1)) (some (.int c.2))) := qHY (st' := S none none (some (.str c.1)) none) hs (by rw [hS]; rfl) (by rw [hS]; rfl)
        refine qz ((zM q9).trans ((qJ hu).trans (qz (jI ?_))))
        refine je ?_ (yM (l5 ..)) vh
        exact gQ (gQ x_c (l4 ..) (Nat.le_trans (show ([39] : List Nat).length + c.1.length ≤ 64 by simp; lia) (by decide))) x_c (Nat.le_trans (show (([39] : List Nat) ++ c.1).length + ([39] : List Nat).length ≤ 64 by simp; lia) (by decide))
       ·rw [decide_eq_false k9] at q9
        obtain ⟨P, T, R, hf, hG⟩ := qVX n g
        refine fin P T R none none none none ?_ hG
        unfold zw
        rw [qJ ((qr t2).trans rfl), qJ ((qr q2).trans rfl), qJ ((qr q3).trans rfl), qJ ((qr t7).trans rfl), qJ ((qr q7).trans rfl), qJ ((qr q8).trans rfl), qJ ((qr q9).trans rfl)]
        exact qz (jI (call _ _ hf))
theorem qSY (ns : List Int) (p limit : Nat) (hl : 0 < limit) (g : G) : ∃ k : Nat, k < limit ∧ z8 [.fl (ns.map .int), .int p, .int limit] g = some (.ok (.int k), g) := by
 have hb : ((limit : Int) != 0) = true := by simp; lia
 by_cases h : p < ns.length
 ·obtain ⟨k, hk⟩ : ∃ k : Nat, (ns[p]).fmod limit = k := ⟨((ns[p]).fmod limit).toNat, by
   have := Int.fmod_nonneg_of_pos ns[p] (show (0 : Int) < limit by lia)
   lia⟩
  have hlt := Int.fmod_lt_of_pos ns[p] (show (0 : Int) < limit by lia)
  refine ⟨k, by lia, ?_⟩
  refine zj (v := .int k) (st := ⟨[some (.fl (ns.map .int)), some (.int p), some (.int limit)], [], g⟩) rfl ?_ rfl
  show vp ⟨[some (.fl (ns.map .int)), some (.int p), some (.int limit)], [], g⟩ = _
  unfold vp
  have t : tE (qQ .lt (qC 1) (zn (qC 0))) ⟨[some (.fl (ns.map .int)), some (.int p), some (.int limit)], [], g⟩ = some (true, ⟨[some (.fl (ns.map .int)), some (.int p), some (.int limit)], [], g⟩) := by
   refine zl (z0 (st1 := ⟨[some (.fl (ns.map .int)), some (.int p), some (.int limit)], [], g⟩) rfl (ka rfl) ?_)
   show some (decide ((p : Int) < ((ns.map PV.int).length : Int))) = _
   rw [List.length_map, decide_eq_true (by lia)]
  refine qz ((zM t).trans (qz (jI ?_)))
  have hi := d4 (L := ns.map PV.int) (i := p) (a := qC 0) (b := qC 1) (st := ⟨[some (.fl (ns.map .int)), some (.int p), some (.int limit)], [], g⟩) (by rw [List.length_map]; exact h) rfl rfl
  rw [List.getElem_map] at hi
  exact op2 (f := bop .mod) (y := .int limit) hi rfl ((if_pos hb).trans (congrArg (fun i => some (PV.int i)) hk))
 ·refine ⟨0, hl, ?_⟩
  refine zj (v := .int (0 : Nat)) (st := ⟨[some (.fl (ns.map .int)), some (.int p), some (.int limit)], [], g⟩) rfl ?_ rfl
  show vp ⟨[some (.fl (ns.map .int)), some (.int p), some (.int limit)], [], g⟩ = _
  unfold vp
  have t : tE (qQ .lt (qC 1) (zn (qC 0))) ⟨[some (.fl (ns.map .int)), some (.int p), some (.int limit)], [], g⟩ = some (false, ⟨[some (.fl (ns.map .int)), some (.int p), some (.int limit)], [], g⟩) := by
   refine zl (z0 (st1 := ⟨[some (.fl (ns.map .int)), some (.int p), some (.int limit)], [], g⟩) rfl (ka rfl) ?_)
   show some (decide ((p : Int) < ((ns.map PV.int).length : Int))) = _
   rw [List.length_map, decide_eq_false (by lia)]
  rw [qJ ((qr t).trans rfl)]
  rfl
end
noncomputable def zc : Nat → List Nat → Bool
 | 0, [] => true
 | _, [] => false
 | 0, c :: r => if z5 c then zc 0 r else if c = 47 then (match r with
   | [] => false
   | d :: _ => if d = 47 then zc 1 r else if d = 42 then zc 2 r else false) else false
 | 1, c :: r => if c = E then false else if qh c then zc 0 r else zc 1 r
 | 2, c :: r => zc 3 r
 | 3, c :: r => if c = E then false else if c = 42 then (match r with
   | [] => false
   | d :: _ => if d = 47 then zc 4 r else zc 3 r) else zc 3 r
 | _, c :: r => zc 0 r
theorem qYC (c : Nat) (r : List Nat) : zc 0 (c :: r) = if z5 c then zc 0 r else if c = 47 then (match r with
   | [] => false
   | d :: _ => if d = 47 then zc 1 r else if d = 42 then zc 2 r else false) else false := rfl
theorem qYD (c : Nat) (r : List Nat) : zc 1 (c :: r) = if c = E then false else if qh c then zc 0 r else zc 1 r := rfl
theorem qYE (c : Nat) (r : List Nat) : zc 2 (c :: r) = zc 3 r := rfl
theorem qYF (c : Nat) (r : List Nat) : zc 3 (c :: r) = if c = E then false else if c = 42 then (match r with
   | [] => false
   | d :: _ => if d = 47 then zc 4 r else zc 3 r) else zc 3 r := rfl
theorem qYG (c : Nat) (r : List Nat) : zc 4 (c :: r) = zc 0 r := rfl
theorem zY : ∀ (G : List Nat) (m p b : Nat) (y : List Nat), m ≤ 4 → zc m G = true → qo m p b (G ++ y) = qo 0 (p + G.length) 0 y
 | [], m, p, b, y, hm, h => by
  match m, hm with
  | 0, _ => cases y <;> rfl
  | 1, _ => cases h
  | 2, _ => cases h
  | 3, _ => cases h
  | 4, _ => cases h
 | c :: G, m, p, b, y, hm, h => by
  have hl : p + (c :: G).length = p + 1 + G.length := by simp; lia
  rw [hl, List.cons_append]
  match m, hm with
  | 0, _ =>
   rw [qYC] at h
   rw [uh]
   by_cases hb : z5 c = true
   ·rw [if_pos hb] at h ⊢
    exact zY G 0 (p + 1) 0 y (by lia) h
   ·rw [if_neg hb] at h ⊢
    by_cases h47 : c = 47
    ·rw [if_pos h47] at h ⊢
     cases G with
     | nil => cases h
     | cons d r =>
      rw [List.cons_append]
      dsimp only at h ⊢
      by_cases d47 : d = 47
      ·rw [if_pos d47] at h ⊢
       exact zY (d :: r) 1 (p + 1) 0 y (by lia) h
      ·rw [if_neg d47] at h ⊢
       by_cases d42 : d = 42
       ·rw [if_pos d42] at h ⊢
        exact zY (d :: r) 2 (p + 1) p y (by lia) h
       ·rw [if_neg d42] at h; cases h
    ·rw [if_neg h47] at h; cases h
  | 1, _ =>
   rw [qYD] at h
   rw [qF3]
   by_cases hE : c = E
   ·rw [if_pos hE] at h; cases h
   ·rw [if_neg hE] at h ⊢
    by_cases hl : qh c = true
    ·rw [if_pos hl] at h ⊢
     exact zY G 0 (p + 1) 0 y (by lia) h
    ·rw [if_neg hl] at h ⊢
     exact zY G 1 (p + 1) 0 y (by lia) h
  | 2, _ =>
   rw [qYE] at h
   rw [qF4]
   exact zY G 3 (p + 1) b y (by lia) h
  | 3, _ =>
   rw [qYF] at h
   rw [qF5]
   by_cases hE : c = E
   ·rw [if_pos hE] at h; cases h
   ·rw [if_neg hE] at h ⊢
    by_cases h42 : c = 42
    ·rw [if_pos h42] at h ⊢
     cases G with
     | nil => cases h
     | cons d r =>
      rw [List.cons_append]
      dsimp only at h ⊢
      by_cases d47 : d = 47
      ·rw [if_pos d47] at h ⊢
       exact zY (d :: r) 4 (p + 1) b y (by lia) h
      ·rw [if_neg d47] at h ⊢
       exact zY (d :: r) 3 (p + 1) b y (by lia) h
    ·rw [if_neg h42] at h ⊢
     exact zY G 3 (p + 1) b y (by lia) h
  | 4, _ =>
   rw [qYG] at h
   rw [qF6]
   exact zY G 0 (p + 1) 0 y (by lia) h
theorem qQX {n p : Nat} {G y : List Nat} {tk : List Tok} {rw : List Row} (h : zc 0 G = true) : ji (n + 1) p (G ++ y) tk rw = ji (n + 1) (p + G.length) y tk rw := by
 rw [dK, dK, zY G 0 p 0 y (by lia) h]
theorem qE8 : gapsT.all (fun G => zc 0 G && (zc 0 (32 :: G) && (decide (G.length ≤ 31) && (G.all (fun c => decide (c < E)) && (match G with
 | [] => true
 | c :: _ => decide (c ∈ qOC)))))) = true := by decide +kernel
noncomputable def dH (text gap spelt : List Nat) : List Nat := if gap = [] ∧ text ≠ [] ∧ text.getLastD 0 ∉ parting ∧ spelt.headD 0 ∉ parting then [32] else if gap.take 1 = [47] ∧ text.drop (text.length - 1) = [47] then 32 :: gap else gap
section
variable {st st1 st2 : St} {e a b : EC} {n m k i : Nat} {j : Int} {u : PV} {g : G}
theorem qE0 {l : List Nat} (h : l ≠ []) : l.drop (l.length - 1) = [l.getLastD 0] := by
 rcases List.eq_nil_or_concat l with q | ⟨r, c, rfl⟩
 ·exact absurd q h
 ·simp
theorem qWH {text : List Nat} (h : text ≠ []) (ha : a st = some (.str text, st)) : zm a (eC (.int (-1))) st = some (.str [text.getLastD 0], st) := by
 have hl : text.length - 1 < text.length := by
  have := List.length_pos_iff.mpr h
  lia
 have hd := qE0 h
 rw [List.drop_eq_getElem_cons hl] at hd
 have hd := (List.cons.inj hd).1
 have hit : gE (.str text) (.int (-1)) = some (.str [text.getLastD 0]) := by
  exact (qFC hl).trans (by rw [hd])
 exact op2 (f := gE) ha x_c hit
theorem qVH (text gap spelt : List Nat) (hs : spelt ≠ []) (hg : gap.length ≤ 31) : yj [.str text, .str gap, .str spelt] g = some (.ok (.str (dH text gap spelt)), g) := by
 obtain ⟨S, hS⟩ : ∃ S : St, S = ⟨[some (.str text), some (.str gap), some (.str spelt), some (.str parting)], [], g⟩ := ⟨_, rfl⟩
 have l0 : qC 0 S = some (.str text, S) := by rw [hS]; rfl
 have l1 : qC 1 S = some (.str gap, S) := by rw [hS]; rfl
 have l2 : qC 2 S = some (.str spelt, S) := by rw [hS]; rfl
 have l3 : qC 3 S = some (.str parting, S) := by rw [hS]; rfl
 have fin : ∀ w, (∀ s, vi ⟨[some (.str text), some (.str gap), some (.str spelt), none], [], g⟩ = some s → s = (.ret (.str w), S)) → vi ⟨[some (.str text), some (.str gap), some (.str spelt), none], [], g⟩ = some (.ret (.str w), S) → yj [.str text, .str gap, .str spelt] g = some (.ok (.str w), g) := by
  intro w _ hb
  have := zj (np := 3) (nv := 4) (args := [.str text, .str gap, .str spelt]) (g := g) (b := vi) rfl hb rfl
  rw [show S.g = g by rw [hS]] at this
  exact this
 have w1 : qV 3 (eC (.str [40, 41, 91, 93, 123, 125, 44, 59, 126, 58])) ⟨[some (.str text), some (.str gap), some (.str spelt), none], [], g⟩ = some (.nxt, S) := by rw [hS]; rfl
 have tg : tE (qQ .eq (qC 1) (eC (.str []))) S = some (decide (gap = []), S) := by
  refine zl (z0 l1 x_c ?_)
  show some (gap == []) = _
  rw [beq_dec]
 have tt : tE (qQ .ne (qC 0) (eC (.str []))) S = some (!decide (text = []), S) := by
  refine zl (z0 l0 x_c ?_)
  show some (text != []) = _
  rw [qF7]
 have hsp : zm (qC 2) (eC (.int 0)) S = some (.str [spelt.headD 0], S) := by
  cases spelt with
  | nil => exact absurd rfl hs
  | cons c r => exact op2 (f := gE) l2 x_c rfl
 have tn2 : tE (uQ (zm (qC 2) (eC (.int 0))) (qC 3)) S = some (!decide (spelt.headD 0 ∈ parting), S) := by
  exact zl (op2 (f := qLU) hsp l3 rfl)
 have t1 : zb (tE (qQ .eq (qC 1) (eC (.str [])))) (zb (tE (qQ .ne (qC 0) (eC (.str [])))) (zb (tE (uQ (zm (qC 0) (eC (.int (-1)))) (qC 3))) (tE (uQ (zm (qC 2) (eC (.int 0))) (qC 3))))) S = some (decide (gap = [] ∧ text ≠ [] ∧ text.getLastD 0 ∉ parting ∧ spelt.headD 0 ∉ parting), S) := by
  by_cases hte : text = []
  ·rw [decide_eq_true hte] at tt
   rw [jn tg (ue tt), Bool.and_false, decide_eq_false]
   rintro ⟨_, h, _⟩
   exact h hte
  ·have tn1 : tE (uQ (zm (qC 0) (eC (.int (-1)))) (qC 3)) S = some (!decide (text.getLastD 0 ∈ parting), S) := by
    exact zl (op2 (f := qLU) (qWH hte l0) l3 rfl)
   rw [jn tg (jn tt (jn tn1 tn2))]
   by_cases h1 : gap = [] <;> by_cases h2 : text.getLastD 0 ∈ parting <;> by_cases h3 : spelt.headD 0 ∈ parting <;> simp [h1, h2, h3, hte]
 have e1 : vX (qC 1) (eC (.int 1)) S = some (.str (gap.take 1), S) := by
  have c1 : gap.take (zD gap.length 1) = gap.take 1 := by
   unfold zD
   rw [if_neg (by decide), List.take_eq_take_iff]
   show min (min 1 gap.length) gap.length = min 1 gap.length
   lia
  exact op2 (f := qHN) l1 x_c (congrArg (fun l => some (PV.str l)) c1)
 have e2 : jk (qC 0) (eC (.int (-1))) S = some (.str (text.drop (text.length - 1)), S) := by
  have c1 : zD text.length (-1) = text.length - 1 := by
   unfold zD
   rw [if_pos (by decide)]
   lia
  exact op2 (f := wG) l0 x_c (congrArg (fun n => some (PV.str (text.drop n))) c1)
 have t2 : zb (tE (qQ .eq (vX (qC 1) (eC (.int 1))) (eC (.str [47])))) (tE (qQ .eq (jk (qC 0) (eC (.int (-1)))) (eC (.str [47])))) S = some (decide (gap.take 1 = [47] ∧ text.drop (text.length - 1) = [47]), S) := by
  have ce : ∀ w : List Nat, vx .eq (.str w) (.str [47]) = some (decide (w = [47])) := fun w => by
   show some (w == [47]) = _
   rw [beq_dec]
  rw [jn (zl (z0 e1 x_c (ce _))) (zl (z0 e2 x_c (ce _))), Bool.decide_and]
 have go : vi ⟨[some (.str text), some (.str gap), some (.str spelt), none], [], g⟩ = some (.ret (.str (dH text gap spelt)), S) := by
  unfold vi dH
  rw [qJ w1]
  by_cases h1 : gap = [] ∧ text ≠ [] ∧ text.getLastD 0 ∉ parting ∧ spelt.headD 0 ∉ parting
  ·rw [decide_eq_true h1] at t1
   rw [if_pos h1]
   exact qz ((zM t1).trans (qz (jI x_c)))
  ·rw [decide_eq_false h1] at t1
   rw [if_neg h1, qJ ((qr t1).trans rfl)]
   by_cases h2 : gap.take 1 = [47] ∧ text.drop (text.length - 1) = [47]
   ·rw [decide_eq_true h2] at t2
    rw [if_pos h2]
    exact qz ((zM t2).trans (qz (jI (gQ x_c l1 (Nat.le_trans (show ([32] : List Nat).length + gap.length ≤ 64 by simp; lia) (by decide))))))
   ·rw [decide_eq_false h2] at t2
    rw [if_neg h2, qJ ((qr t2).trans rfl)]
    exact qz (jI l1)
 exact fin _ (fun s hs => by rw [go] at hs; exact (Option.some.inj hs).symm) go
theorem qTA {text G spelt : List Nat} (hG : G ∈ gapsT) (hs : spelt ≠ []) (hE : spelt.headD 0 ≠ E) : zc 0 (dH text G spelt) = true ∧ (dH text G spelt).length ≤ 32 ∧ (∀ c ∈ dH text G spelt, c < E) ∧ (text ≠ [] → ∀ y, ∃ c r, dH text G spelt ++ (spelt ++ y) = c :: r ∧ wi (text.getLastD 0) c ∧ c ≠ E) := by
 have hg := List.all_eq_true.mp qE8 G hG
 simp only [Bool.and_eq_true] at hg
 obtain ⟨g1, g2, g3, g4, g5⟩ := hg
 have g3 := of_decide_eq_true g3
 have g4' : ∀ c ∈ G, c < E := fun c hc => of_decide_eq_true (List.all_eq_true.mp g4 c hc)
 have n32 : ∀ l, wi l 32 := fun l => .inl ⟨by decide, fun h => by cases h.2⟩
 unfold dH
 by_cases h1 : G = [] ∧ text ≠ [] ∧ text.getLastD 0 ∉ parting ∧ spelt.headD 0 ∉ parting
 ·rw [if_pos h1]
  exact ⟨by decide, by decide, by decide, fun _ y => ⟨32, spelt ++ y, rfl, n32 _, by decide⟩⟩
 ·rw [if_neg h1]
  by_cases h2 : G.take 1 = [47] ∧ text.drop (text.length - 1) = [47]
  ·rw [if_pos h2]
   refine ⟨g2, by simp; lia, ?_, fun _ y => ⟨32, G ++ (spelt ++ y), rfl, n32 _, by decide⟩⟩
   intro c hc
   rcases List.mem_cons.mp hc with q | q
   ·rw [q]; decide
   ·exact g4' c q
  ·rw [if_neg h2]
   refine ⟨g1, by lia, g4', fun ht y => ?_⟩
   cases G with
   | nil =>
    cases spelt with
    | nil => exact absurd rfl hs
    | cons c r =>
     refine ⟨c, r ++ y, rfl, ?_, hE⟩
     by_cases q : text.getLastD 0 ∈ parting
     ·exact .inr (.inr q)
     ·by_cases q2 : c ∈ parting
      ·exact .inr (.inl q2)
      ·exact absurd ⟨rfl, ht, q, q2⟩ h1
   | cons c r =>
    have hc : c ∈ qOC := of_decide_eq_true g5
    refine ⟨c, r ++ (spelt ++ y), rfl, .inl ⟨hc, ?_⟩, fun q => ?_⟩
    ·rintro ⟨q1, q2⟩
     rw [qE0 ht, q1, q2] at h2
     exact h2 ⟨rfl, rfl⟩
    ·have := g4' c (.head _)
     lia
noncomputable def qRS : SC := (qD (qV 6 (ko (tE (qQ .eq (qC 4) (eC (.int 1056)))) (qZ (qB (zm (qC 0) (qY .add (qC 1) (qC 5))) qI)) (qZ qI)))
 (qD (qc (qw (qC 3) (qZ (qB (qC 4) (qB (qY .add (qC 1) (qC 5)) (qB (qC 6) qI))))))
 qK))
noncomputable abbrev RX (text : List Nat) (at_ : Nat) (F : PV) (w4 w5 w6 : Option PV) (L : List PV) (g : G) : St := ⟨[some (.str text), some (.int at_), some F, some (.lst (.loc 0)), w4, w5, w6], [L], g⟩
theorem qFU {pre P : List Nat} {F : PV} : ∀ (R : List yG) (w4 w5 w6 : Option PV) (L : List PV), (∀ r ∈ R, r.2 < P.length) → L.length + R.length ≤ line →
  ∃ w4' w5' w6', forC (unp [4, 5]) qRS (R.map qj) (RX (pre ++ P) pre.length F w4 w5 w6 L g) = some (.nxt, RX (pre ++ P) pre.length F w4' w5' w6' (L ++ R.map fun r => qf (shR pre.length (gK P r))) g)
 | [], w4, w5, w6, L, h, hl => ⟨w4, w5, w6, congrArg (fun l => some (Out.nxt, RX (pre ++ P) pre.length F w4 w5 w6 l g)) (List.append_nil L).symm⟩
 | (a, j) :: R, w4, w5, w6, L, h, hl => by
  simp only [List.length_cons] at hl
  have hj : j < P.length := h (a, j) (.head _)
  obtain ⟨X, hX⟩ : ∃ X : Option PV → List PV → St, X = fun w L => RX (pre ++ P) pre.length F (some (.int a)) (some (.int j)) w L g := ⟨_, rfl⟩
  have u1 : unp [4, 5] (qj (a, j)) (RX (pre ++ P) pre.length F w4 w5 w6 L g) = some (X w6 L) := by rw [hX]; rfl
  have l0 : ∀ w L, qC 0 (X w L) = some (.str (pre ++ P), X w L) := fun w L => by rw [hX]; rfl
  have l4 : ∀ w L, qC 4 (X w L) = some (.int a, X w L) := fun w L => by rw [hX]; rfl
  have l6 : ∀ w L, qC 6 (X (some w) L) = some (w, X (some w) L) := fun w L => by rw [hX]; rfl
  have hsum : ∀ w L, qY .add (qC 1) (qC 5) (X w L) = some (.int ((pre.length + j : Nat) : Int), X w L) := fun w L => by rw [hX]; rfl
  have hitem : zm (qC 0) (qY .add (qC 1) (qC 5)) (X w6 L) = some (.str [P[j]], X w6 L) := by
   have hg : (pre ++ P)[pre.length + j]? = some P[j] := by
    rw [List.getElem?_append_right (by lia), show pre.length + j - pre.length = j by lia, List.getElem?_eq_getElem hj]
   exact op2 (f := gE) (l0 ..) (hsum ..) (qBL hg)
  have te : tE (qQ .eq (qC 4) (eC (.int 1056))) (X w6 L) = some (decide (a = 1056), X w6 L) := by
   refine zl (z0 (l4 ..) x_c ?_)
   show some (a == 1056) = _
   by_cases q : a = 1056
   ·subst q; rfl
   ·rw [decide_eq_false q, beq_eq_false_iff_ne.mpr q]
  have hw : gP P (a, j) = if a = 1056 then [.str [P[j]]] else [] := by
   unfold gP
   by_cases q : a = 1056
   ·rw [if_pos q, if_pos q]
    dsimp only
    rw [List.getElem?_eq_getElem hj]
   ·rw [if_neg q, if_neg q]
  have hite : ko (tE (qQ .eq (qC 4) (eC (.int 1056)))) (qZ (qB (zm (qC 0) (qY .add (qC 1) (qC 5))) qI)) (qZ qI) (X w6 L) = some (.tup (gP P (a, j)), X w6 L) := by
   rw [hw]
   refine (qa te).trans ?_
   by_cases q : a = 1056
   ·rw [if_pos q]
    exact (if_pos (decide_eq_true q)).trans ((qa (ze hitem rfl)).trans rfl)
   ·rw [if_neg q]; exact (if_neg (Bool.eq_false_iff.mp (decide_eq_false q))).trans rfl
  have hsol : PV.solids (gP P (a, j)) = true := by
   rw [hw]
   by_cases q : a = 1056
   ·rw [if_pos q]; rfl
   ·rw [if_neg q]; rfl
  have b1 : qRS (X w6 L) = some (.nxt, X (some (.tup (gP P (a, j)))) (L ++ [qf (shR pre.length (gK P (a, j)))])) := by
   unfold qRS
   rw [qJ (st1 := X (some (.tup (gP P (a, j)))) L) (zE hite (by rw [hX]; rfl)), seq_nil]
   rw [qD8 (L := L) (by rw [hX]; rfl) (je (l4 ..) (hsum ..) (l6 ..)) (by rw [hX]) (u5 (c := .tup _) rfl rfl hsol) (by lia)]
   rw [hX]
   rfl
  obtain ⟨w4', w5', w6', ih⟩ := qFU (pre := pre) (P := P) (F := F) R (some (.int a)) (some (.int j)) (some (.tup (gP P (a, j)))) (L ++ [qf (shR pre.length (gK P (a, j)))]) (fun r hr => h r (.tail _ hr)) (by simp; lia)
  refine ⟨w4', w5', w6', ?_⟩
  refine ((qCK u1 b1).trans ?_).trans (congrArg (fun l => some (Out.nxt, RX (pre ++ P) pre.length F w4' w5' w6' l g)) (List.append_assoc L [_] _))
  rw [hX]; exact ih
theorem qTU {pre P : List Nat} {R : List yG} (h : ∀ r ∈ R, r.2 < P.length) (hl : R.length ≤ 3) : ja [.str (pre ++ P), .int pre.length, .fl (R.map qj)] g = some (.ok (.fl (R.map fun r => qf (shR pre.length (gK P r)))), g) := by
 obtain ⟨w4, w5, w6, hf⟩ := qFU (g := g) (pre := pre) (P := P) (F := .fl (R.map qj)) R none none none [] h (Nat.le_trans (show 0 + R.length ≤ 3 by lia) (by decide))
 rw [List.nil_append] at hf
 refine zj (v := .lst (.loc 0)) (st := RX (pre ++ P) pre.length (.fl (R.map qj)) w4 w5 w6 (R.map fun r => qf (shR pre.length (gK P r))) g) rfl ?_ rfl
 show qD _ (qD (y8 [4, 5] (qC 2) qRS) _) ⟨[some (.str (pre ++ P)), some (.int pre.length), some (.fl (R.map qj)), none, none, none, none], [], g⟩ = _
 rw [qJ (st1 := RX (pre ++ P) pre.length (.fl (R.map qj)) none none none [] g) rfl]
 have hfor : y8 [4, 5] (qC 2) qRS (RX (pre ++ P) pre.length (.fl (R.map qj)) none none none [] g) = some (.nxt, RX (pre ++ P) pre.length (.fl (R.map qj)) w4 w5 w6 (R.map fun r => qf (shR pre.length (gK P r))) g) := by
  exact qVG (l := R.map qj) rfl (yz R) hf
 rw [qJ hfor]
 rfl
end
structure LI (k : Nat) (text : List Nat) (toks : List Tok) (rows : List Row) : Prop where
 run : ∃ M, ∀ N y, (text ≠ [] → ∃ c r, y = c :: r ∧ wi (text.getLastD 0) c ∧ c ≠ E) → ji (N + 1 + M) 0 (text ++ y) [] [] = ji (N + 1) text.length y toks rows
 tl : text.length ≤ 96 * k
 kl : toks.length ≤ 3 * k
 rl : rows.length ≤ 3 * k
 lt : ∀ c ∈ text, c < E
 tv : ∀ t ∈ toks, j1 t.2.1 = true
 rv : ∀ r ∈ rows, ∀ w ∈ r.2.2, j1 w = true
 ne : 0 < k → text ≠ []
theorem qI7 {a b : List Nat} (h : b ≠ []) : (a ++ b).getLastD 0 = b.getLastD 0 := by
 rcases List.eq_nil_or_concat b with q | ⟨r, c, rfl⟩
 ·exact absurd q h
 ·rw [List.concat_eq_append, ← List.append_assoc]; simp
theorem wz {P : List Nat} (h : ∀ c ∈ P, c < E) (r : yG) : ∀ w ∈ gP P r, j1 w = true := by
 intro w hw
 unfold gP at hw
 by_cases q : r.1 = 1056
 ·rw [if_pos q] at hw
  cases hp : P[r.2]? with
  | none => rw [hp] at hw; cases hw
  | some c =>
   rw [hp] at hw
   rw [List.mem_singleton.mp hw]
   refine vo fun d hd => ?_
   rw [List.mem_singleton.mp hd]
   exact h c (List.mem_of_getElem? hp)
 ·rw [if_neg q] at hw; cases hw
theorem LI.next {k : Nat} {text : List Nat} {toks : List Tok} {rows : List Row} (h : LI k text toks rows) {G P : List Nat} {T : List Tok} {R : List yG} (hG : G ∈ gapsT) (hP : Good P T R) :
  LI (k + 1) (text ++ dH text G P ++ P) (toks ++ T.map (shT (text ++ dH text G P).length)) (rows ++ R.map fun r => shR (text ++ dH text G P).length (gK P r)) := by
 have hhead : P.headD 0 ≠ E := by
  cases hp : P with
  | nil => exact absurd hp hP.ne
  | cons c r =>
   have := hP.lt c (by rw [hp]; exact .head _)
   exact fun q => by
    have q : c = E := q
    lia
 obtain ⟨g1, g2, g3, g4⟩ := qTA (text := text) hG hP.ne hhead
 obtain ⟨M, hM⟩ := h.run
 obtain ⟨m, hm⟩ := hP.go
 have tl := h.tl
 have kl := h.kl
 have rl := h.rl
 have pl := hP.len
 have ptl := hP.tl
 have prl := hP.rl
 refine ⟨⟨m + M, fun N y hy => ?_⟩, ?_, ?_, ?_, ?_, ?_, ?_, ?_⟩
 ·obtain ⟨c, r, rfl, hc, hcE⟩ := hy (by simp [hP.ne])
  rw [qI7 hP.ne] at hc
  rw [show N + 1 + (m + M) = (N + m) + 1 + M by lia, List.append_assoc, List.append_assoc, hM (N + m) _ (fun ht => g4 ht (c :: r)), qQX g1, show N + m + 1 = N + 1 + m by lia, hm N _ _ _ c r hc hcE]
  rw [List.length_append, List.length_append]
 ·simp only [List.length_append]; lia
 ·simp only [List.length_append, List.length_map]; lia
 ·simp only [List.length_append, List.length_map]; lia
 ·intro a ha
  rcases List.mem_append.mp ha with z | z
  ·rcases List.mem_append.mp z with z | z
   ·exact h.lt a z
   ·exact g3 a z
  ·exact hP.lt a z
 ·intro t ht
  rcases List.mem_append.mp ht with z | z
  ·exact h.tv t z
  ·obtain ⟨t', ht', rfl⟩ := List.mem_map.mp z
   exact hP.sol t' ht'
 ·intro r hr
  rcases List.mem_append.mp hr with z | z
  ·exact h.rv r z
  ·obtain ⟨r', hr', rfl⟩ := List.mem_map.mp z
   exact wz hP.lt r'
 ·intro _
  simp [hP.ne]
noncomputable abbrev MX (ns : List Int) (text : List Nat) (w5 w6 w7 w8 w9 w10 w11 w12 w13 : Option PV) (tl : List (Option PV)) (L0 L1 : List PV) (g : G) : St :=
 ⟨some (.fl (ns.map .int)) :: some (.fl ((ns.take 31).map .int)) :: some (.str text) :: some (.lst (.loc 0)) :: some (.lst (.loc 1)) :: w5 :: w6 :: w7 :: w8 :: w9 :: w10 :: w11 :: w12 :: w13 :: tl, [L0, L1], g⟩
noncomputable def tb : SC := (qD (qc (qw (qC 3) (qZ (qB (qC 11) (qB (qC 12) (qB (qY .add (qC 10) (qC 13)) qI))))))
 qK)
section
variable {ns : List Int} {text : List Nat} {w5 w6 w7 w8 w9 w10 w11 w12 w13 : Option PV} {tl : List (Option PV)} {L0 L1 : List PV} {g : G} {st st1 st2 : St} {e a b : EC} {u : PV}
theorem qSF {o a : EC} {u : PV} {L0 L1 : List PV} (h1 : o st = some (.lst (.loc 0), st)) (h2 : a st = some (u, st1)) (hl : st1.ls = [L0, L1]) (hs : u.solid = true) (hn : L0.length < line) : qc (qw o a) st = some (.nxt, { st1 with ls := [L0 ++ [u], L1] }) := by
 refine (vW (d5 (r := .loc 0) (l := L0) h1 h2 (by show st1.ls[0]? = _; rw [hl]; rfl) hs hn)).trans ?_
 show some (Out.nxt, { st1 with ls := st1.ls.set 0 _ }) = _
 rw [hl]; rfl
noncomputable def jC (x : Option PV) : Bool := match x with
 | some v => v.data
 | none => true
theorem qC9 {v : PV} (h : j1 v = true) : v.data = true := okVal_elim (P := fun v => v.data = true) h (fun _ => rfl) (fun _ _ => rfl) fun _ _ _ => rfl
theorem wB {i : Nat} {v : PV} {st : St} (h : i < st.v.length) : za i v st = some { st with v := st.v.set i (some v) } := if_pos h
theorem qD1 {at_ : Nat} : ∀ (T : List Tok) (w11 w12 w13 : Option PV) (L0 : List PV), (∀ t ∈ T, j1 t.2.1 = true) → L0.length + T.length ≤ line → jC w11 = true → jC w12 = true → jC w13 = true →
  ∃ v11 v12 v13, (jC v11 = true ∧ jC v12 = true ∧ jC v13 = true) ∧ forC (unp [11, 12, 13]) tb (T.map qd) (MX ns text w5 w6 w7 w8 w9 (some (.int at_)) w11 w12 w13 tl L0 L1 g) = some (.nxt, MX ns text w5 w6 w7 w8 w9 (some (.int at_)) v11 v12 v13 tl (L0 ++ T.map fun t => qd (shT at_ t)) L1 g)
 | [], w11, w12, w13, L0, h, hl, d1, d2, d3 => ⟨w11, w12, w13, ⟨d1, d2, d3⟩, congrArg (fun l => some (Out.nxt, MX ns text w5 w6 w7 w8 w9 (some (.int at_)) w11 w12 w13 tl l L1 g)) (List.append_nil L0).symm⟩
 | (s, v, j) :: T, w11, w12, w13, L0, h, hl, d1, d2, d3 => by
  simp only [List.length_cons] at hl
  have hv := vJ (h (s, v, j) (.head _))
  obtain ⟨v11, v12, v13, hd, ih⟩ := qD1 (at_ := at_) T (some (.int s)) (some v) (some (.int j)) (L0 ++ [qd (shT at_ (s, v, j))]) (fun t ht => h t (.tail _ ht)) (by simp; lia) rfl (qC9 (h (s, v, j) (.head _))) rfl
  refine ⟨v11, v12, v13, hd, ?_⟩
  have u1 : yd [11, 12, 13] [.int s, v, .int j] (MX ns text w5 w6 w7 w8 w9 (some (.int at_)) w11 w12 w13 tl L0 L1 g) = some (MX ns text w5 w6 w7 w8 w9 (some (.int at_)) (some (.int s)) (some v) (some (.int j)) tl L0 L1 g) := by
   exact dR (wB (by simp)) (dR (wB (by simp)) (dR (wB (by simp)) rfl))
  have b1 : tb (MX ns text w5 w6 w7 w8 w9 (some (.int at_)) (some (.int s)) (some v) (some (.int j)) tl L0 L1 g) = some (.nxt, MX ns text w5 w6 w7 w8 w9 (some (.int at_)) (some (.int s)) (some v) (some (.int j)) tl (L0 ++ [qd (shT at_ (s, v, j))]) L1 g) := by
   unfold tb
   rw [seq_nil, qSF (L0 := L0) (L1 := L1) (st1 := MX ns text w5 w6 w7 w8 w9 (some (.int at_)) (some (.int s)) (some v) (some (.int j)) tl L0 L1 g) rfl (je (x := .int s) (y := v) (z := .int ((at_ + j : Nat) : Int)) rfl rfl rfl) rfl (u5 rfl hv rfl) (by lia)]
   rfl
  exact ((qCK u1 b1).trans ih).trans (congrArg (fun l => some (Out.nxt, MX ns text w5 w6 w7 w8 w9 (some (.int at_)) v11 v12 v13 tl l L1 g)) (List.append_assoc L0 [_] _))
theorem qKA {l : List Row} (h : ∀ r ∈ l, ∀ w ∈ r.2.2, j1 w = true) : PV.solids (l.map qf) = true := qDT fun r hr => u5 (c := .tup r.2.2) rfl rfl (qDS fun w hw => vJ (h r hr w hw))
theorem qI0 {pre P : List Nat} {R : List yG} (hlt : ∀ c ∈ P, c < E) (h : ∀ r ∈ R, r.2 < P.length) (hl : R.length ≤ 3) (hL : L1.length + 3 ≤ line) :
  kZ 4 (qT ja (qB (qC 2) (qB (qC 10) (qB (qC 9) qI)))) (MX ns (pre ++ P) w5 w6 w7 w8 (some (.fl (R.map qj))) (some (.int pre.length)) w11 w12 w13 tl L0 L1 g) = some (.nxt, MX ns (pre ++ P) w5 w6 w7 w8 (some (.fl (R.map qj))) (some (.int pre.length)) w11 w12 w13 tl L0 (L1 ++ R.map fun r => qf (shR pre.length (gK P r))) g) := by
 have hr := zA (f := ja) (st := MX ns (pre ++ P) w5 w6 w7 w8 (some (.fl (R.map qj))) (some (.int pre.length)) w11 w12 w13 tl L0 L1 g) (vs := [.str (pre ++ P), .int pre.length, .fl (R.map qj)]) (qK4 (c := .fl _) rfl rfl (yz R)) (qTU (g := g) h hl)
 have hc := qD9 (f := ja) (a := qC 2) (b := qC 10) (c := qC 9) rfl rfl rfl hr
 have hsol : PV.solids (R.map fun r => qf (shR pre.length (gK P r))) = true := by
  have := qKA (l := R.map fun r => shR pre.length (gK P r)) (by
   intro r hr
   obtain ⟨r', _, rfl⟩ := List.mem_map.mp hr
   exact wz hlt r')
  rw [List.map_map] at this
  exact this
 have hlen : (decide (L1.length + (R.map fun r => qf (shR pre.length (gK P r))).length ≤ line) && PV.solids (R.map fun r => qf (shR pre.length (gK P r)))) = true := by
  rw [hsol, List.length_map, decide_eq_true (by lia)]; rfl
 unfold kZ
 rw [qa (x := .lst (.loc 1)) (st' := MX ns (pre ++ P) w5 w6 w7 w8 (some (.fl (R.map qj))) (some (.int pre.length)) w11 w12 w13 tl L0 L1 g) rfl, qa hc]
 dsimp only
 show (match some L1 with | some l0 => if (decide (l0.length + _ ≤ line) && _) = true then _ else _ | none => none) = _
 dsimp only
 rw [if_pos hlen]
 rfl
noncomputable def qM0 : SC := (qD (qV 6 (qT z8 (qB (qC 1) (qB (qY .add (qY .mul (eC (.int 3)) (qC 5)) (eC (.int 1))) (qB (eC (.int 12)) qI)))))
 (qD (zz [7, 8, 9] (qT j6 (qB (qC 6) (qB (qT z8 (qB (qC 1) (qB (qY .add (qY .mul (eC (.int 3)) (qC 5)) (eC (.int 2))) (qB (eC (.int 1000003)) qI)))) qI))))
 (qD (j3 .add 2 (qT yj (qB (qC 2) (qB (zm (qT yi qI) (qT z8 (qB (qC 1) (qB (qY .add (qY .mul (eC (.int 3)) (qC 5)) (eC (.int 3))) (qB (eC (.int 16)) qI))))) (qB (qC 7) qI)))))
 (qD (qV 10 (zn (qC 2)))
 (qD (j3 .add 2 (qC 7))
 (qD (y8 [11, 12, 13] (qC 8) tb)
 (qD (kZ 4 (qT ja (qB (qC 2) (qB (qC 10) (qB (qC 9) qI)))))
 qK)))))))
theorem qIJ (l : List Int) : PV.cleans (l.map .int) = true := vv fun _ _ => rfl
theorem qSH {e : EC} {p limit : Nat} {j : Int} (hj : j = (limit : Int)) (hl : 0 < limit) (h1 : qC 1 st = some (.fl ((ns.take 31).map .int), st)) (h2 : e st = some (.int p, st)) : ∃ k : Nat, k < limit ∧ qT z8 (qB (qC 1) (qB e (qB (eC (.int j)) qI))) st = some (.int k, st) := by
 subst hj
 obtain ⟨k, hk, hd⟩ := qSY (ns.take 31) p limit hl st.g
 refine ⟨k, hk, ?_⟩
 have hr := zA (f := z8) (st := st) (vs := [.fl ((ns.take 31).map .int), .int p, .int limit]) (qK4 (a := .fl _) (qIJ _) rfl rfl) hd
 exact qD9 h1 h2 x_c hr
theorem qYV {k : Nat} {i : Nat} {j : Int} (hj : j = (i : Int)) (h : qC 5 st = some (.int k, st)) : qY .add (qY .mul (eC (.int 3)) (qC 5)) (eC (.int j)) st = some (.int ((3 * k + i : Nat) : Int), st) := hj ▸ op2 (f := bop .add) (op2 (f := bop .mul) (x := .int (3 : Nat)) x_c h rfl) x_c rfl
theorem uM {T : List Tok} (h : ∀ t ∈ T, j1 t.2.1 = true) : PV.datas (T.map qd) = true := da fun t ht => qWV rfl (qC9 (h t ht)) rfl
theorem uL {l : List yG} : PV.datas (l.map qj) = true := da fun _ _ => rfl
theorem gy {l : List PV} (h : PV.datas l = true) : jC (some (.fl l)) = true := h
noncomputable def dws (w5 w6 w7 w8 w9 w10 w11 w12 w13 : Option PV) : Bool := jC w5 && (jC w6 && (jC w7 && (jC w8 && (jC w9 && (jC w10 && (jC w11 && (jC w12 && jC w13)))))))
theorem qVR {v : PV} (h : e (MX ns text w5 w6 w7 w8 w9 w10 w11 w12 w13 tl L0 L1 g) = some (v, MX ns text w5 w6 w7 w8 w9 w10 w11 w12 w13 tl L0 L1 g)) : qV 6 e (MX ns text w5 w6 w7 w8 w9 w10 w11 w12 w13 tl L0 L1 g) = some (.nxt, MX ns text w5 (some v) w7 w8 w9 w10 w11 w12 w13 tl L0 L1 g) := zE h (wB (by simp))
theorem qXD : qV 10 (zn (qC 2)) (MX ns text w5 w6 w7 w8 w9 w10 w11 w12 w13 tl L0 L1 g) = some (.nxt, MX ns text w5 w6 w7 w8 w9 (some (.int text.length)) w11 w12 w13 tl L0 L1 g) := zE (qHV rfl) (wB (by simp))
theorem qM1 {t : List Nat} (h : e (MX ns text w5 w6 w7 w8 w9 w10 w11 w12 w13 tl L0 L1 g) = some (.str t, MX ns text w5 w6 w7 w8 w9 w10 w11 w12 w13 tl L0 L1 g)) (hn : (text ++ t).length ≤ line) : j3 .add 2 e (MX ns text w5 w6 w7 w8 w9 w10 w11 w12 w13 tl L0 L1 g) = some (.nxt, MX ns (text ++ t) w5 w6 w7 w8 w9 w10 w11 w12 w13 tl L0 L1 g) := qPI (n := text) rfl h (qEE (by rw [← List.length_append]; exact hn)) (wB (by simp))
theorem qVT {P : List Nat} {T : List Tok} {R : List yG} (h : e (MX ns text w5 w6 w7 w8 w9 w10 w11 w12 w13 tl L0 L1 g) = some (jJ P T R, MX ns text w5 w6 w7 w8 w9 w10 w11 w12 w13 tl L0 L1 g)) : zz [7, 8, 9] e (MX ns text w5 w6 w7 w8 w9 w10 w11 w12 w13 tl L0 L1 g) = some (.nxt, MX ns text w5 w6 (some (.str P)) (some (.fl (T.map qd))) (some (.fl (R.map qj))) w10 w11 w12 w13 tl L0 L1 g) := qHS h (dR (wB (by simp)) (dR (wB (by simp)) (dR (wB (by simp)) rfl)))
theorem qXB {T : List Tok} {S' : St} (hT : ∀ t ∈ T, j1 t.2.1 = true) (h : forC (unp [11, 12, 13]) tb (T.map qd) (MX ns text w5 w6 w7 (some (.fl (T.map qd))) w9 w10 w11 w12 w13 tl L0 L1 g) = some (.nxt, S')) : y8 [11, 12, 13] (qC 8) tb (MX ns text w5 w6 w7 (some (.fl (T.map qd))) w9 w10 w11 w12 w13 tl L0 L1 g) = some (.nxt, S') := qVG rfl (gS hT) h
theorem qLN {k i limit : Nat} {j l : Int} (hj : j = (i : Int)) (hl : l = (limit : Int)) (h0 : 0 < limit) : ∃ n : Nat, n < limit ∧ qT z8 (qB (qC 1) (qB (qY .add (qY .mul (eC (.int 3)) (qC 5)) (eC (.int j))) (qB (eC (.int l)) qI))) (MX ns text (some (.int k)) w6 w7 w8 w9 w10 w11 w12 w13 tl L0 L1 g) = some (.int n, MX ns text (some (.int k)) w6 w7 w8 w9 w10 w11 w12 w13 tl L0 L1 g) := qSH (p := 3 * k + i) hl h0 rfl (qYV hj rfl)
theorem qXC {k : Nat} : ∃ G ∈ gapsT, zm (qT yi qI) (qT z8 (qB (qC 1) (qB (qY .add (qY .mul (eC (.int 3)) (qC 5)) (eC (.int 3))) (qB (eC (.int 16)) qI)))) (MX ns text (some (.int k)) w6 w7 w8 w9 w10 w11 w12 w13 tl L0 L1 g) = some (.str G, MX ns text (some (.int k)) w6 w7 w8 w9 w10 w11 w12 w13 tl L0 L1 g) :=
 (qLN (i := 3) (limit := 16) rfl rfl (by decide)).elim fun gi e4 => ⟨gapsT[gi]'(qI6 ▸ e4.1), List.getElem_mem _, (d4 (L := gapsT.map PV.str) (i := gi) (by rw [List.length_map, qI6]; exact e4.1) (qA8 qQJ) e4.2).trans (by rw [List.getElem_map])⟩
theorem qW0 {G : List Nat} (hG : G ∈ gapsT) : G.length ≤ 31 := by
 have hg := List.all_eq_true.mp qE8 G hG
 simp only [Bool.and_eq_true] at hg
 exact of_decide_eq_true hg.2.2.1
theorem qVS {P G : List Nat} {e : EC} (hP : P ≠ []) (hG : G ∈ gapsT) (h : e (MX ns text w5 w6 (some (.str P)) w8 w9 w10 w11 w12 w13 tl L0 L1 g) = some (.str G, MX ns text w5 w6 (some (.str P)) w8 w9 w10 w11 w12 w13 tl L0 L1 g)) : qT yj (qB (qC 2) (qB e (qB (qC 7) qI))) (MX ns text w5 w6 (some (.str P)) w8 w9 w10 w11 w12 w13 tl L0 L1 g) = some (.str (dH text G P), MX ns text w5 w6 (some (.str P)) w8 w9 w10 w11 w12 w13 tl L0 L1 g) :=
 qD9 rfl h rfl (zA (f := yj) (st := MX ns text w5 w6 (some (.str P)) w8 w9 w10 w11 w12 w13 tl L0 L1 g) (vs := [.str text, .str G, .str P]) rfl (qVH text G P hP (qW0 hG)))
theorem qTL {kind n : Nat} {e : EC} {P : List Nat} {T : List Tok} {R : List yG} (h : e (MX ns text w5 (some (.int kind)) w7 w8 w9 w10 w11 w12 w13 tl L0 L1 g) = some (.int n, MX ns text w5 (some (.int kind)) w7 w8 w9 w10 w11 w12 w13 tl L0 L1 g)) (hp : j6 [.int kind, .int n] g = some (.ok (jJ P T R), g)) : qT j6 (qB (qC 6) (qB e qI)) (MX ns text w5 (some (.int kind)) w7 w8 w9 w10 w11 w12 w13 tl L0 L1 g) = some (jJ P T R, MX ns text w5 (some (.int kind)) w7 w8 w9 w10 w11 w12 w13 tl L0 L1 g) :=
 qKN rfl h (zA (f := j6) (st := MX ns text w5 (some (.int kind)) w7 w8 w9 w10 w11 w12 w13 tl L0 L1 g) (vs := [.int kind, .int n]) rfl hp)
structure LW where
 text : List Nat
 toks : List Tok
 rows : List Row
 w5 : Option PV
 w6 : Option PV
 w7 : Option PV
 w8 : Option PV
 w9 : Option PV
 w10 : Option PV
 w11 : Option PV
 w12 : Option PV
 w13 : Option PV
noncomputable def LW.run (x : LW) (ns : List Int) (tl : List (Option PV)) (g : G) : St := MX ns x.text x.w5 x.w6 x.w7 x.w8 x.w9 x.w10 x.w11 x.w12 x.w13 tl (x.toks.map qd) (x.rows.map qf) g
noncomputable def LW.ok (x : LW) (k : Nat) : Prop := LI k x.text x.toks x.rows ∧ dws x.w5 x.w6 x.w7 x.w8 x.w9 x.w10 x.w11 x.w12 x.w13 = true
noncomputable def qPF (ns : List Int) (tl : List (Option PV)) (g : G) (k : Nat) (S : St) : Prop := ∃ x : LW, x.ok (k + 1) ∧ qM0 S = some (.nxt, x.run ns tl g)
theorem qQU {k : Nat} {toks : List Tok} {rows : List Row} (hk : k < 20) (h : LI k text toks rows) (d11 : jC w11 = true) (d12 : jC w12 = true) (d13 : jC w13 = true) :
  qPF ns tl g k (MX ns text (some (.int k)) w6 w7 w8 w9 w10 w11 w12 w13 tl (toks.map qd) (rows.map qf) g) := by
 obtain ⟨kind, hkind, e1⟩ := qLN (ns := ns) (text := text) (k := k) (w6 := w6) (w7 := w7) (w8 := w8) (w9 := w9) (w10 := w10) (w11 := w11) (w12 := w12) (w13 := w13) (tl := tl) (L0 := toks.map qd) (L1 := rows.map qf) (g := g) (i := 1) (limit := 12) rfl rfl (by decide)
 obtain ⟨n, hn, e2⟩ := qLN (ns := ns) (text := text) (k := k) (w6 := some (.int kind)) (w7 := w7) (w8 := w8) (w9 := w9) (w10 := w10) (w11 := w11) (w12 := w12) (w13 := w13) (tl := tl) (L0 := toks.map qd) (L1 := rows.map qf) (g := g) (i := 2) (limit := 1000003) rfl rfl (by decide)
 obtain ⟨P, T, R, hpiece, hP⟩ := qRG kind n hkind g
 obtain ⟨G, hG, e5⟩ := qXC (ns := ns) (text := text) (k := k) (w6 := some (.int kind)) (w7 := some (.str P)) (w8 := some (.fl (T.map qd))) (w9 := some (.fl (R.map qj))) (w10 := w10) (w11 := w11) (w12 := w12) (w13 := w13) (tl := tl) (L0 := toks.map qd) (L1 := rows.map qf) (g := g)
 have hLI := h.next hG hP
 have hl4 : (4000 : Nat) ≤ line := by decide
 have hn2 : (text ++ dH text G P ++ P).length ≤ 4000 := Nat.le_trans hLI.tl (Nat.le_trans (Nat.mul_le_mul_left 96 (Nat.succ_le_of_lt hk)) (by decide))
 have hn1 : (text ++ dH text G P).length ≤ 4000 := Nat.le_trans (by rw [List.length_append (bs := P)]; exact Nat.le_add_right _ _) hn2
 have hkl : (toks.map qd).length + T.length ≤ line := by have := h.kl; have := hP.tl; rw [List.length_map]; lia
 have hrl : (rows.map qf).length + 3 ≤ line := by have := h.rl; rw [List.length_map]; lia
 obtain ⟨v11, v12, v13, hv, hfor⟩ := qD1 (ns := ns) (text := text ++ dH text G P ++ P) (w5 := some (.int k)) (w6 := some (.int kind)) (w7 := some (.str P)) (w8 := some (.fl (T.map qd))) (w9 := some (.fl (R.map qj))) (tl := tl) (L1 := rows.map qf) (g := g) (at_ := (text ++ dH text G P).length) T w11 w12 w13 (toks.map qd) hP.sol hkl d11 d12 d13
 refine ⟨⟨_, _, _, some (.int k), some (.int kind), some (.str P), some (.fl (T.map qd)), some (.fl (R.map qj)), some (.int (text ++ dH text G P).length), v11, v12, v13⟩, ⟨hLI, ?_⟩, ?_⟩
 ·simp only [dws, hv, Bool.and_true]
  simp only [gy (uM hP.sol), gy uL]
  rfl
 refine (qJ (qVR e1)).trans ((qJ (qVT (qTL e2 hpiece))).trans ((qJ (qM1 (qVS hP.ne hG e5) (Nat.le_trans hn1 hl4))).trans ((qJ qXD).trans ((qJ (qM1 (e := qC 7) rfl (Nat.le_trans hn2 hl4))).trans ((qJ (qXB hP.sol hfor)).trans (seq_nil.trans ((qI0 hP.lt hP.pl hP.rl hrl).trans ?_)))))))
 unfold LW.run
 rw [List.map_append, List.map_append, List.map_map, List.map_map]
 rfl
end
section
variable {ns : List Int} {text : List Nat} {w5 w6 w7 w8 w9 w10 w11 w12 w13 : Option PV} {tl : List (Option PV)} {L0 L1 : List PV} {g : G} {st st1 st2 : St} {e a b : EC} {u : PV}
theorem qFD : ∀ (m t : Nat) (x : LW), x.ok t → t + m ≤ 20 → ∃ y : LW, y.ok (t + m) ∧ forC (za 5) qM0 ((List.range' t m).map fun k : Nat => PV.int (k : Int)) (x.run ns tl g) = some (.nxt, y.run ns tl g)
 | 0, t, x, h, ht => ⟨x, h, rfl⟩
 | m + 1, t, x, h, ht => by
  have hd := h.2
  simp only [dws, Bool.and_eq_true] at hd
  have q : qPF ns tl g t (({ x with w5 := some (.int t) } : LW).run ns tl g) := qQU (Nat.lt_of_lt_of_le (Nat.lt_add_of_pos_right (Nat.succ_pos m)) ht) h.1 hd.2.2.2.2.2.2.1 hd.2.2.2.2.2.2.2.1 hd.2.2.2.2.2.2.2.2
  obtain ⟨y, h1, h2⟩ := q
  have e : t + (m + 1) = t + 1 + m := by lia
  obtain ⟨z, h3, h4⟩ := qFD m (t + 1) y h1 (e ▸ ht)
  refine ⟨z, e ▸ h3, ?_⟩
  exact (qCK (st1 := ({ x with w5 := some (.int t) } : LW).run ns tl g) rfl h2).trans h4
end
noncomputable def E4 : List Nat := [E, E, E, E]
theorem qKW : ∀ {m k b : Nat}, qo m k b [] = none
 | 0, _, _ => rfl
 | 1, _, _ => rfl
 | 2, _, _ => rfl
 | 3, _, _ => rfl
 | _ + 4, _, _ => rfl
theorem zh {p : Nat} : ∀ (x : List Nat) (m k b b' : Nat) {br : List Row} {k' : Nat} {y : List Nat}, m ≤ 4 → (m = 2 ∨ m = 3 → b' = p + b) → qo m k b x = some (br, k', y) → qo m (p + k) b' x = some (br.map (shR p), p + k', y)
 | [], m, k, b, b', br, k', y, hm, hb, h => absurd h (qKW ▸ nofun)
 | c :: x, m, k, b, b', br, k', y, hm, hb, h => by
  match m, hm with
  | 0, _ =>
   rw [uh] at h ⊢
   by_cases h1 : z5 c = true
   ·rw [if_pos h1] at h ⊢
    exact zh x 0 (k + 1) 0 0 (by lia) (by lia) h
   ·rw [if_neg h1] at h ⊢
    by_cases h2 : c = 47
    ·rw [if_pos h2] at h ⊢
     cases x with
     | nil => cases h
     | cons d r =>
      dsimp only at h ⊢
      by_cases h3 : d = 47
      ·rw [if_pos h3] at h ⊢
       exact zh (d :: r) 1 (k + 1) 0 0 (by lia) (by lia) h
      ·rw [if_neg h3] at h ⊢
       by_cases h4 : d = 42
       ·rw [if_pos h4] at h ⊢
        exact zh (d :: r) 2 (k + 1) k (p + k) (by lia) (fun _ => rfl) h
       ·rw [if_neg h4] at h ⊢
        cases h
        rfl
    ·rw [if_neg h2] at h ⊢
     cases h
     rfl
  | 1, _ =>
   rw [qF3] at h ⊢
   by_cases h1 : c = E
   ·rw [if_pos h1] at h ⊢
    cases h
    rfl
   ·rw [if_neg h1] at h ⊢
    by_cases h2 : qh c = true
    ·rw [if_pos h2] at h ⊢
     exact zh x 0 (k + 1) 0 0 (by lia) (by lia) h
    ·rw [if_neg h2] at h ⊢
     exact zh x 1 (k + 1) 0 0 (by lia) (by lia) h
  | 2, _ =>
   rw [qF4] at h ⊢
   exact zh x 3 (k + 1) b b' (by lia) (fun _ => hb (.inl rfl)) h
  | 3, _ =>
   rw [qF5] at h ⊢
   by_cases h1 : c = E
   ·rw [if_pos h1] at h ⊢
    cases h
    rw [hb (.inr rfl)]
    rfl
   ·rw [if_neg h1] at h ⊢
    by_cases h2 : c = 42
    ·rw [if_pos h2] at h ⊢
     cases x with
     | nil => cases h
     | cons d r =>
      dsimp only at h ⊢
      by_cases h3 : d = 47
      ·rw [if_pos h3] at h ⊢
       exact zh (d :: r) 4 (k + 1) b b' (by lia) (by lia) h
      ·rw [if_neg h3] at h ⊢
       exact zh (d :: r) 3 (k + 1) b b' (by lia) (fun _ => hb (.inr rfl)) h
    ·rw [if_neg h2] at h ⊢
     exact zh x 3 (k + 1) b b' (by lia) (fun _ => hb (.inr rfl)) h
  | 4, _ =>
   rw [qF6] at h ⊢
   exact zh x 0 (k + 1) 0 0 (by lia) (by lia) h
noncomputable def qYJ : PV → Tok
 | .tup [.int a, v, .int b] => (a, v, b.toNat)
 | _ => (0, .none, 0)
noncomputable def qYI : PV → List Nat × List Tok × List yG × List Nat
 | .tup [.str q, .fl t, f, .str w] => (q, t.map qYJ, qW3 f, w)
 | _ => ([], [], [], [])
noncomputable def endsT : List (List Nat × List Tok × List yG × List Nat) := (qWZ yO).map qYI
theorem qP4 : yO = .fl (endsT.map fun c => .tup [.str c.1, .fl (c.2.1.map qd), .fl (c.2.2.1.map qj), .str c.2.2.2]) := rfl
theorem qP3 : endsT.length = 32 := by decide +kernel
noncomputable def qGH (m : Nat) (S : List Nat) (T : List Tok) (R : List Row) : Bool := match dz m 0 (S ++ E4) with
 | some (t, r, k, y) => (match qo 0 k 0 y with
  | some (br, k', c :: _) => decide (c = E) && (qCH t T && (qCG (r ++ br) R && decide (k' = S.length)))
  | _ => false)
 | none => false
noncomputable def qGP (S w : List Nat) : Bool := jA (S ++ E4) && (match zS 200 (S ++ E4) with
 | some (.left code) => decide (code = w)
 | _ => false)
noncomputable def qUM (c : List Nat × List Tok × List yG × List Nat) : Bool := decide (c.1.length ≤ 32) && (c.1.all (fun x => decide (x < E)) && (decide (c.2.1.length ≤ 3) && (decide (c.2.2.1.length ≤ 3) && (c.2.1.all (fun t => j1 t.2.1) && (c.2.2.1.all (fun r => decide (r.2 < c.1.length)) && (c.2.2.2.all (fun x => decide (x < E)) &&
 (if c.2.2.2 = [] then (List.range 4).any (fun m => qGH m c.1 c.2.1 (c.2.2.1.map (gK c.1))) else decide (c.2.1.length = 0) && (decide (c.2.2.1.length = 0) && qGP c.1 c.2.2.2))))))))
theorem qN6 : endsT.all qUM = true := by decide +kernel
theorem qMU {m : Nat} {S : List Nat} {T : List Tok} {R : List Row} (h : qGH m S T R = true) (N p : Nat) (tk rw) : ji (N + 1 + m) p (S ++ E4) tk rw = some (none, tk ++ T.map (shT p), rw ++ R.map (shR p), p + S.length) := by
 unfold qGH at h
 cases hs : dz m 0 (S ++ E4) with
 | none => rw [hs] at h; cases h
 | some z =>
  obtain ⟨t, r, k, y⟩ := z
  rw [hs] at h
  dsimp only at h
  cases hb : qo 0 k 0 y with
  | none => rw [hb] at h; cases h
  | some z =>
   obtain ⟨br, k', y'⟩ := z
   rw [hb] at h
   cases y' with
   | nil => cases h
   | cons c w =>
    simp only [Bool.and_eq_true] at h
    have h1 := of_decide_eq_true h.1
    have h2 := vZ h.2.1
    have h3 := vY h.2.2.1
    have h4 := of_decide_eq_true h.2.2.2
    subst h1 h2 h3 h4
    have := dp hs (N + 1) p tk rw []
    rw [List.append_nil, List.append_nil] at this
    refine Eq.trans this ?_
    rw [dK, zh y 0 k 0 0 (by lia) (by lia) hb]
    dsimp only
    rw [if_pos rfl, List.map_append, List.append_assoc]
theorem qQW {S w : List Nat} (h : qGP S w = true) (N p : Nat) (tk rw) : ji (N + 1) p (S ++ E4) tk rw = some (some (w, p), tk, rw, p) := by
 unfold qGP at h
 rw [Bool.and_eq_true] at h
 obtain ⟨h1, h2⟩ := h
 obtain ⟨c, r, hx, hc, hb⟩ := ui (p := p) h1
 rw [dK, hb]
 rw [hx] at h2 ⊢
 dsimp only
 rw [if_neg hc]
 cases ho : zS 200 (c :: r) with
 | none => rw [ho] at h2; cases h2
 | some o =>
  rw [ho] at h2
  cases o with
  | ok q => cases h2
  | left code =>
   have := of_decide_eq_true h2
   subst this
   dsimp only
   rw [List.append_nil]
theorem qDW {s : List Nat} (h : (s.all fun c => decide (c < E)) = true) : PyData.strOk ⟨s.toArray⟩ = true := by
 unfold PyData.strOk
 rw [← Array.all_toList]
 exact h
theorem qBG {x : PyData} {l : List PyData} (h : x.canLay0 = true) (k : PyData.canLayAll0 l = true) : PyData.canLayAll0 (x :: l) = true := (jo h k : (x.canLay0 && PyData.canLayAll0 l) = true)
theorem qV6 {x : PV} {l : List PV} (h : x.solid = true) (k : PV.solids l = true) : PV.solids (x :: l) = true := (jo h k : (x.solid && PV.solids l) = true)
theorem qFO {v : PV} (h : j1 v = true) : v.toD.canLay0 = true ∧ v.toD.depth ≤ 1 :=
 okVal_elim (P := fun v => v.toD.canLay0 = true ∧ v.toD.depth ≤ 1) h (fun _ => ⟨rfl, Nat.zero_le _⟩) (fun s h => ⟨qDW h, Nat.zero_le _⟩) fun i s h => ⟨qBG (x := .int _) rfl (qBG (x := .str _) (qDW h) rfl), Nat.le_refl 1⟩
theorem qKK : ∀ {l : List PV}, (∀ v ∈ l, j1 v = true) → PyData.canLayAll0 (PV.toDs l) = true ∧ PyData.depthAll (PV.toDs l) ≤ 1 ∧ PV.solids l = true
 | [], _ => ⟨rfl, Nat.zero_le _, rfl⟩
 | v :: l, h => (qFO (h v (.head _))).elim fun h1 h2 => (qKK (l := l) fun x hx => h x (.tail _ hx)).elim fun h3 x => ⟨qBG h1 h3, Nat.max_le.mpr ⟨h2, x.1⟩, qV6 (vJ (h v (.head _))) x.2⟩
theorem qKI : ∀ {l : List Tok}, (∀ t ∈ l, j1 t.2.1 = true) → PyData.canLayAll0 (PV.toDs (l.map qd)) = true ∧ PyData.depthAll (PV.toDs (l.map qd)) ≤ 2 ∧ PV.solids (l.map qd) = true
 | [], _ => ⟨rfl, Nat.zero_le _, rfl⟩
 | t :: l, h => (qFO (h t (.head _))).elim fun h1 h2 => (qKI (l := l) fun x hx => h x (.tail _ hx)).elim fun h3 x =>
  ⟨qBG (x := .tuple _) (qBG (x := .int _) rfl (qBG h1 (qBG (x := .int _) rfl rfl))) h3, Nat.max_le.mpr ⟨Nat.succ_le_succ (Nat.max_le.mpr ⟨Nat.zero_le _, Nat.max_le.mpr ⟨h2, Nat.zero_le _⟩⟩), x.1⟩, qV6 (u5 rfl (vJ (h t (.head _))) rfl) x.2⟩
theorem qDM : ∀ {l : List Row}, (∀ r ∈ l, ∀ w ∈ r.2.2, j1 w = true) → PyData.canLayAll0 (PV.toDs (l.map qf)) = true ∧ PyData.depthAll (PV.toDs (l.map qf)) ≤ 3 ∧ PV.solids (l.map qf) = true
 | [], _ => ⟨rfl, Nat.zero_le _, rfl⟩
 | r :: l, h => (qKK (h r (.head _))).elim fun h1 y => (qDM (l := l) fun x hx => h x (.tail _ hx)).elim fun h3 x =>
  ⟨qBG (x := .tuple _) (qBG (x := .int _) rfl (qBG (x := .int _) rfl (qBG (x := .tuple _) h1 rfl))) h3, Nat.max_le.mpr ⟨Nat.succ_le_succ (Nat.max_le.mpr ⟨Nat.zero_le _, Nat.max_le.mpr ⟨Nat.zero_le _, Nat.max_le.mpr ⟨Nat.succ_le_succ y.1, Nat.zero_le _⟩⟩⟩), x.1⟩, qV6 (u5 (c := .tup _) rfl rfl y.2) x.2⟩
theorem qBR {x y a : PV} {st : St} (hx : uK x st = some a) (hy : uK y st = some a) (h1 : a.solid = true) (h2 : a.toD.canLay0 = true) (h3 : a.toD.depth ≤ 64) : kh x y st = some true := by
 have hs : SeqAt.shaped a.toD = true := by
  unfold SeqAt.shaped
  rw [h2, decide_eq_true h3]; rfl
 unfold kh
 rw [hx, hy]
 dsimp only
 simp only [h1, hs, Bool.and_self, if_true]
 rw [SeqAt.eqv_refl a.toD h2]
noncomputable def qM7 : SC := (qD (j3 .add 2 (qC 7))
 (qD (y8 [11, 12, 13] (qC 8) tb)
 (qD (kZ 4 (qT ja (qB (qC 2) (qB (qC 10) (qB (qC 9) qI)))))
 (qD (qc (qw (qC 3) (qZ (qB (eC gC) (qB (eC (.str [])) (qB (zn (qC 2)) qI))))))
 (qD (uY 15)
 (qD (zL (qN5 (qEI (qP1 gA (qB (qC 2) (qB (qC 15) qI))) (qC 3)) (qEI (qg (qC 15) .rows) (qC 4))))
 qK))))))
noncomputable def qFP : SC := (sIf (tE (qQ .ne (qC 14) (eC (.str [])))) (qD (uY 15)
 (qD (qV 16 (qZ (qB (eC (.str [])) (qB (eC (.int (-1))) qI))))
 (qD (qRT gA (qB (qY .add (qC 2) (qC 7)) (qB (qC 15) qI)) 17 (qD (qV 16 (qZ (qB (qg (qC 17) .code) (qB (qg (qC 17) .at) qI))))
 qK))
 (qD (sIf (tOr (tE (qIS (qC 16) (qZ (qB (qC 14) (qB (qC 10) qI))))) (tE (qIS (qg (qC 15) .rows) (qC 4)))) (qD (zL (eC (.bool false)))
 qK) qK)
 (qD (qV 7 (eC (.str [])))
 qK))))) qK)
section
variable {ns : List Int} {text S w : List Nat} {T : List Tok} {R : List yG} {toks : List Tok} {rows : List Row} {w5 w6 w7 w8 w9 w10 w11 w12 w13 w15 w16 w17 : Option PV} {tl : List (Option PV)} {L0 L1 : List PV} {g : G} {st st1 st2 : St} {e a b : EC} {u : PV}
theorem qB4 (l : List Int) : PV.datas (l.map .int) = true := da fun _ _ => rfl
theorem kj {x : Option PV} {l : List (Option PV)} (h : jC x = true) (k : l.all jC = true) : (x :: l).all jC = true := (jo h k : (jC x && l.all jC) = true)
theorem qS1 {l : List (Option PV)} (hd : dws w5 w6 w7 w8 w9 w10 w11 w12 w13 = true) (k : l.all jC = true) : (w5 :: w6 :: w7 :: w8 :: w9 :: w10 :: w11 :: w12 :: w13 :: l).all jC = true :=
 have a := wM hd; have b := wM a; have c := wM b; have d := wM c; have e := wM d; have f := wM e; have i := wM f
 kj (wL hd) (kj (wL a) (kj (wL b) (kj (wL c) (kj (wL d) (kj (wL e) (kj (wL f) (kj (wL i) (kj (wM i) k))))))))
theorem qRA {w14 : Option PV} (hd : dws w5 w6 w7 w8 w9 w10 w11 w12 w13 = true) (h14 : jC w14 = true) (h16 : jC w16 = true) (h17 : jC w17 = true) (hl : g.hl = false) :
  uY 15 (MX ns text w5 w6 w7 w8 w9 w10 w11 w12 w13 [w14, w15, w16, w17] L0 L1 g) = some (.nxt, MX ns text w5 w6 w7 w8 w9 w10 w11 w12 w13 [w14, some .dg, w16, w17] L0 L1 { g with rows := [], hd := true }) := by
 have ho : kY 15 (MX ns text w5 w6 w7 w8 w9 w10 w11 w12 w13 [w14, w15, w16, w17] L0 L1 g) = true := by
  exact kj (x := some (.fl _)) (qB4 _) (kj (x := some (.fl _)) (qB4 _) (kj (x := some (.str _)) rfl (kj (x := some (.lst (.loc 0))) rfl (kj (x := some (.lst (.loc 1))) rfl (qS1 hd (kj h14 (kj (x := none) rfl (kj h16 (kj h17 rfl)))))))))
 have hc : (!(MX ns text w5 w6 w7 w8 w9 w10 w11 w12 w13 [w14, w15, w16, w17] L0 L1 g).g.hl && kY 15 (MX ns text w5 w6 w7 w8 w9 w10 w11 w12 w13 [w14, w15, w16, w17] L0 L1 g)) = true := by
  rw [ho]
  show (!g.hl && true) = true
  rw [hl]; rfl
 exact (if_pos hc).trans rfl
theorem qRF {F : Nat} (hd : dws w5 w6 (some (.str S)) (some (.fl (T.map qd))) (some (.fl (R.map qj))) (some (.int text.length)) w11 w12 w13 = true) (h16 : jC w16 = true) (h17 : jC w17 = true) (hl : g.hl = false)
  (ht : text.length ≤ 3000) (hS : S.length ≤ 32) (hk : toks.length ≤ 100) (hr : rows.length ≤ 100) (hT : T.length ≤ 3) (hR : R.length ≤ 3) (hlt : ∀ c ∈ text, c < E) (hSlt : ∀ c ∈ S, c < E)
  (htv : ∀ t ∈ toks, j1 t.2.1 = true) (hTv : ∀ t ∈ T, j1 t.2.1 = true) (hrv : ∀ r ∈ rows, ∀ w ∈ r.2.2, j1 w = true) (hRp : ∀ r ∈ R, r.2 < S.length)
  (hlex : ji F 0 (text ++ S ++ E4) [] [] = some (none, toks ++ T.map (shT text.length), rows ++ R.map fun r => shR text.length (gK S r), text.length + S.length)) :
  ∃ st', qM7 (MX ns text w5 w6 (some (.str S)) (some (.fl (T.map qd))) (some (.fl (R.map qj))) (some (.int text.length)) w11 w12 w13 [some (.str w), w15, w16, w17] (toks.map qd) (rows.map qf) g) = some (.ret (.bool true), st') := by
 have hline : ∀ x, x ≤ 4000 → x ≤ line := fun x hx => Nat.le_trans hx (by decide)
 have hline2 : ∀ x, x ≤ 4000 → x < line := fun x hx => Nat.lt_of_le_of_lt hx (by decide)
 have hd' := hd
 simp only [dws, Bool.and_eq_true] at hd'
 have a1 : j3 .add 2 (qC 7) (MX ns text w5 w6 (some (.str S)) (some (.fl (T.map qd))) (some (.fl (R.map qj))) (some (.int text.length)) w11 w12 w13 [some (.str w), w15, w16, w17] (toks.map qd) (rows.map qf) g) = some (.nxt, MX ns (text ++ S) w5 w6 (some (.str S)) (some (.fl (T.map qd))) (some (.fl (R.map qj))) (some (.int text.length)) w11 w12 w13 [some (.str w), w15, w16, w17] (toks.map qd) (rows.map qf) g) := by
  exact qM1 rfl (hline _ (by rw [List.length_append]; lia))
 obtain ⟨v11, v12, v13, ⟨x11, x12, x13⟩, hfor⟩ := qD1 (ns := ns) (text := text ++ S) (w5 := w5) (w6 := w6) (w7 := some (.str S)) (w8 := some (.fl (T.map qd))) (w9 := some (.fl (R.map qj))) (tl := [some (.str w), w15, w16, w17]) (L1 := rows.map qf) (g := g) (at_ := text.length) T w11 w12 w13 (toks.map qd) hTv (hline _ (by rw [List.length_map]; lia)) hd'.2.2.2.2.2.2.1 hd'.2.2.2.2.2.2.2.1 hd'.2.2.2.2.2.2.2.2
 have a4 : y8 [11, 12, 13] (qC 8) tb (MX ns (text ++ S) w5 w6 (some (.str S)) (some (.fl (T.map qd))) (some (.fl (R.map qj))) (some (.int text.length)) w11 w12 w13 [some (.str w), w15, w16, w17] (toks.map qd) (rows.map qf) g) = some (.nxt, MX ns (text ++ S) w5 w6 (some (.str S)) (some (.fl (T.map qd))) (some (.fl (R.map qj))) (some (.int text.length)) v11 v12 v13 [some (.str w), w15, w16, w17] (toks.map qd ++ T.map fun t => qd (shT text.length t)) (rows.map qf) g) := by
  exact qVG rfl (gS hTv) hfor
 have a5 := qI0 (ns := ns) (w5 := w5) (w6 := w6) (w7 := some (.str S)) (w8 := some (.fl (T.map qd))) (w11 := v11) (w12 := v12) (w13 := v13) (tl := [some (.str w), w15, w16, w17]) (L0 := toks.map qd ++ T.map fun t => qd (shT text.length t)) (L1 := rows.map qf) (g := g) (pre := text) (P := S) (R := R) hSlt hRp hR (hline _ (by rw [List.length_map]; lia))
 obtain ⟨toksA, htA⟩ : ∃ x, x = toks ++ T.map (shT text.length) := ⟨_, rfl⟩
 obtain ⟨rowsA, hrA⟩ : ∃ x, x = rows ++ R.map fun r => shR text.length (gK S r) := ⟨_, rfl⟩
 rw [← htA, ← hrA] at hlex
 have hL0 : toks.map qd ++ T.map (fun t => qd (shT text.length t)) = toksA.map qd := by rw [htA, List.map_append, List.map_map]; rfl
 have hL1 : rows.map qf ++ R.map (fun r => qf (shR text.length (gK S r))) = rowsA.map qf := by rw [hrA, List.map_append, List.map_map]; rfl
 have hkA : toksA.length ≤ 103 := by rw [htA, List.length_append, List.length_map]; lia
 have hrA2 : rowsA.length ≤ 103 := by rw [hrA, List.length_append, List.length_map]; lia
 have htvA : ∀ t ∈ toksA ++ [((0 : Int), PV.str [], (text ++ S).length)], j1 t.2.1 = true := by
  intro t ht
  rcases List.mem_append.mp ht with z | z
  ·rw [htA] at z
   rcases List.mem_append.mp z with z | z
   ·exact htv t z
   ·obtain ⟨t', ht', rfl⟩ := List.mem_map.mp z
    exact hTv t' ht'
  ·rw [List.mem_singleton.mp z]; rfl
 have hrvA : ∀ r ∈ rowsA, ∀ w ∈ r.2.2, j1 w = true := by
  intro r hr
  rw [hrA] at hr
  rcases List.mem_append.mp hr with z | z
  ·exact hrv r z
  ·obtain ⟨r', _, rfl⟩ := List.mem_map.mp z
   exact wz hSlt r'
 rw [hL0] at a4 a5
 rw [hL1] at a5
 have a6 : qc (qw (qC 3) (qZ (qB (eC gC) (qB (eC (.str [])) (qB (zn (qC 2)) qI))))) (MX ns (text ++ S) w5 w6 (some (.str S)) (some (.fl (T.map qd))) (some (.fl (R.map qj))) (some (.int text.length)) v11 v12 v13 [some (.str w), w15, w16, w17] (toksA.map qd) (rowsA.map qf) g) = some (.nxt, MX ns (text ++ S) w5 w6 (some (.str S)) (some (.fl (T.map qd))) (some (.fl (R.map qj))) (some (.int text.length)) v11 v12 v13 [some (.str w), w15, w16, w17] ((toksA ++ [((0 : Int), PV.str [], (text ++ S).length)]).map qd) (rowsA.map qf) g) := by
  rw [qSF (L0 := toksA.map qd) (L1 := rowsA.map qf) (st1 := MX ns (text ++ S) w5 w6 (some (.str S)) (some (.fl (T.map qd))) (some (.fl (R.map qj))) (some (.int text.length)) v11 v12 v13 [some (.str w), w15, w16, w17] (toksA.map qd) (rowsA.map qf) g) rfl (je (x := .int 0) (y := .str []) (z := .int (text ++ S).length) rfl rfl (qHV rfl)) rfl rfl (hline2 _ (by rw [List.length_map]; lia))]
  rw [List.map_append]
  rfl
 have hd2 : dws w5 w6 (some (.str S)) (some (.fl (T.map qd))) (some (.fl (R.map qj))) (some (.int text.length)) v11 v12 v13 = true := by
  simp only [dws, hd'.1, hd'.2.1, x11, x12, x13, Bool.and_true, Bool.true_and]
  simp only [gy (uM hTv), gy uL]
  rfl
 have a7 := qRA (ns := ns) (text := text ++ S) (w15 := w15) (w14 := some (.str w)) (L0 := (toksA ++ [((0 : Int), PV.str [], (text ++ S).length)]).map qd) (L1 := rowsA.map qf) (g := g) hd2 rfl h16 h17 hl
 have hPl : qk (text ++ S) := by
  refine ⟨fun c hc => ?_, ?_⟩
  ·rcases List.mem_append.mp hc with z | z
   ·exact hlt c z
   ·exact hSlt c z
  ·rw [List.length_append]
   exact Nat.lt_of_le_of_lt (show 2 * (text.length + S.length) ≤ 7000 by lia) (by decide)
 obtain ⟨g', l1, l2, l3, l4⟩ := (qQY (g := { g with rows := [], hd := true }) hPl hl rfl rfl (n := F) (by rw [show onX (text ++ S) 0 = text ++ S ++ E4 from rfl]; exact hlex) (hline2 _ (by lia)) (hline _ (by lia))).1 rfl
 obtain ⟨X, hX⟩ : ∃ X : G → St, X = fun g => MX ns (text ++ S) w5 w6 (some (.str S)) (some (.fl (T.map qd))) (some (.fl (R.map qj))) (some (.int text.length)) v11 v12 v13 [some (.str w), some .dg, w16, w17] ((toksA ++ [((0 : Int), PV.str [], (text ++ S).length)]).map qd) (rowsA.map qf) g := ⟨_, rfl⟩
 have hXg : ∀ g, (X g).g = g := fun g => by rw [hX]
 refine ⟨X g', ?_⟩
 have hlexE : qP1 gA (qB (qC 2) (qB (qC 15) qI)) (X { g with rows := [], hd := true }) = some (.fl ((toksA ++ [((0 : Int), PV.str [], (text ++ S).length)]).map qd), X g') := by
  have hr := zA (f := gA) (st := X { g with rows := [], hd := true }) (vs := [.str (text ++ S), .dg]) rfl (by rw [hXg]; exact l1)
  have e2 : qC 2 (X { g with rows := [], hd := true }) = some (.str (text ++ S), X { g with rows := [], hd := true }) := by rw [hX]; rfl
  have e15 : qC 15 (X { g with rows := [], hd := true }) = some (.dg, X { g with rows := [], hd := true }) := by rw [hX]; rfl
  exact (zQ (ze e2 (ze e15 rfl)) hr).trans (by rw [List.map_append, hX]; rfl)
 have e3 : qC 3 (X g') = some (.lst (.loc 0), X g') := by rw [hX]; rfl
 have e4 : qC 4 (X g') = some (.lst (.loc 1), X g') := by rw [hX]; rfl
 obtain ⟨t1, t2, t3⟩ := qKI htvA
 obtain ⟨r1, r2, r3⟩ := qDM hrvA
 have hs1 : kh (.fl ((toksA ++ [((0 : Int), PV.str [], (text ++ S).length)]).map qd)) (.lst (.loc 0)) (X g') = some true := by
  refine qBR (a := .fl ((toksA ++ [((0 : Int), PV.str [], (text ++ S).length)]).map qd)) rfl (by rw [hX]; rfl) ?_ ?_ ?_
  ·exact t3
  ·exact t1
  ·exact Nat.succ_le_succ (Nat.le_trans t2 (by decide))
 have er : qg (qC 15) .rows (X g') = some (.lst .rows, X g') := by
  exact qM8 (by rw [hX]; rfl) (by rw [hXg]; exact l3)
 have hs2 : kh (.lst .rows) (.lst (.loc 1)) (X g') = some true := by
  refine qBR (a := .fl (rowsA.map qf)) ?_ (by rw [hX]; rfl) ?_ ?_ ?_
  ·show (dI .rows (X g')).map PV.fl = _
   rw [show dI .rows (X g') = some (rowsA.map qf) from (if_pos (by rw [hXg]; exact l3)).trans (by rw [hXg, l4])]
   rfl
  ·exact r3
  ·exact r1
  ·exact Nat.succ_le_succ (Nat.le_trans r2 (by decide))
 have f1 : qEI (qP1 gA (qB (qC 2) (qB (qC 15) qI))) (qC 3) (X { g with rows := [], hd := true }) = some (.bool true, X g') := by
  exact qP5 hlexE e3 hs1
 have f2 : qEI (qg (qC 15) .rows) (qC 4) (X g') = some (.bool true, X g') := by
  exact qP5 er e4 hs2
 have f3 : qN5 (qEI (qP1 gA (qB (qC 2) (qB (qC 15) qI))) (qC 3)) (qEI (qg (qC 15) .rows) (qC 4)) (X { g with rows := [], hd := true }) = some (.bool true, X g') := by
  exact qPG f1 f2
 unfold qM7
 rw [qJ a1, qJ a4, qJ a5, qJ a6, qJ a7]
 rw [hX] at f3 ⊢
 exact qz (jI f3)
end
section
variable {ns : List Int} {text S w : List Nat} {toks : List Tok} {rows : List Row} {w5 w6 w8 w9 w11 w12 w13 : Option PV} {L0 L1 : List PV} {g : G} {st st1 st2 : St} {e a b : EC} {u : PV}
theorem qTO {w7 w10 : Option PV} : qFP (MX ns text w5 w6 w7 w8 w9 w10 w11 w12 w13 [some (.str []), none, none, none] L0 L1 g) = some (.nxt, MX ns text w5 w6 w7 w8 w9 w10 w11 w12 w13 [some (.str []), none, none, none] L0 L1 g) := rfl
theorem qV0 {F : Nat} (hw : w ≠ []) (hwlt : ∀ c ∈ w, c < E) (hd : dws w5 w6 (some (.str S)) w8 w9 (some (.int text.length)) w11 w12 w13 = true) (hl : g.hl = false)
  (ht : text.length ≤ 3000) (hS : S.length ≤ 32) (hk : toks.length ≤ 100) (hr : rows.length ≤ 100) (hlt : ∀ c ∈ text, c < E) (hSlt : ∀ c ∈ S, c < E) (hrv : ∀ r ∈ rows, ∀ w ∈ r.2.2, j1 w = true)
  (hlex : ji F 0 (text ++ S ++ E4) [] [] = some (some (w, text.length), toks, rows, text.length)) :
  ∃ g' c16, g'.hl = false ∧ jC c16 = true ∧ qFP (MX ns text w5 w6 (some (.str S)) w8 w9 (some (.int text.length)) w11 w12 w13 [some (.str w), none, none, none] L0 (rows.map qf) g) = some (.nxt, MX ns text w5 w6 (some (.str [])) w8 w9 (some (.int text.length)) w11 w12 w13 [some (.str w), some .dg, c16, none] L0 (rows.map qf) g') := by
 have hline : ∀ x, x ≤ 4000 → x ≤ line := fun x hx => Nat.le_trans hx (by decide)
 have hline2 : ∀ x, x ≤ 4000 → x < line := fun x hx => Nat.lt_of_le_of_lt hx (by decide)
 obtain ⟨X, hX⟩ : ∃ X : Option PV → Option PV → Option PV → Option PV → G → St, X = fun w7 w15 w16 w17 g => MX ns text w5 w6 w7 w8 w9 (some (.int text.length)) w11 w12 w13 [some (.str w), w15, w16, w17] L0 (rows.map qf) g := ⟨_, rfl⟩
 have hXg : ∀ a b c d g, (X a b c d g).g = g := fun a b c d g => by rw [hX]
 have hPl : qk (text ++ S) := by
  refine ⟨fun c hc => ?_, ?_⟩
  ·rcases List.mem_append.mp hc with z | z
   ·exact hlt c z
   ·exact hSlt c z
  ·rw [List.length_append]
   exact Nat.lt_of_le_of_lt (show 2 * (text.length + S.length) ≤ 7000 by lia) (by decide)
 obtain ⟨g', l1, l2, l3, l4⟩ := (qQY (g := { g with rows := [], hd := true }) hPl hl rfl rfl (n := F) (by rw [show onX (text ++ S) 0 = text ++ S ++ E4 from rfl]; exact hlex) (hline2 _ (by lia)) (hline _ (by lia))).2 w text.length rfl
 have t0 : tE (qQ .ne (qC 14) (eC (.str []))) (X (some (.str S)) none none none g) = some (true, X (some (.str S)) none none none g) := by
  refine zl (z0 (x := .str w) (st1 := X (some (.str S)) none none none g) (by rw [hX]; rfl) x_c ?_)
  show some (w != []) = _
  rw [qF7, decide_eq_false hw]; rfl
 have a1 : uY 15 (X (some (.str S)) none none none g) = some (.nxt, X (some (.str S)) (some .dg) none none { g with rows := [], hd := true }) := by
  rw [hX]
  exact qRA hd rfl rfl rfl hl
 have a2 : qV 16 (qZ (qB (eC (.str [])) (qB (eC (.int (-1))) qI))) (X (some (.str S)) (some .dg) none none { g with rows := [], hd := true }) = some (.nxt, X (some (.str S)) (some .dg) (some (.tup [.str [], .int (-1)])) none { g with rows := [], hd := true }) := zE (gR x_c x_c) (by rw [hX]; rfl)
 obtain ⟨c16, hc16⟩ : ∃ c16 : PV, c16 = .tup [.str w, .int text.length] := ⟨_, rfl⟩
 have a3 : qRT gA (qB (qY .add (qC 2) (qC 7)) (qB (qC 15) qI)) 17 (qD (qV 16 (qZ (qB (qg (qC 17) .code) (qB (qg (qC 17) .at) qI)))) qK) (X (some (.str S)) (some .dg) (some (.tup [.str [], .int (-1)])) none { g with rows := [], hd := true }) = some (.nxt, X (some (.str S)) (some .dg) (some c16) none g') := by
  have e2 : qY .add (qC 2) (qC 7) (X (some (.str S)) (some .dg) (some (.tup [.str [], .int (-1)])) none { g with rows := [], hd := true }) = some (.str (text ++ S), X (some (.str S)) (some .dg) (some (.tup [.str [], .int (-1)])) none { g with rows := [], hd := true }) := gQ (by rw [hX]; rfl) (by rw [hX]; rfl) (hline _ (by lia))
  have e15 : qC 15 (X (some (.str S)) (some .dg) (some (.tup [.str [], .int (-1)])) none { g with rows := [], hd := true }) = some (.dg, X (some (.str S)) (some .dg) (some (.tup [.str [], .int (-1)])) none { g with rows := [], hd := true }) := by rw [hX]; rfl
  have hr := zA (f := gA) (st := X (some (.str S)) (some .dg) (some (.tup [.str [], .int (-1)])) none { g with rows := [], hd := true }) (vs := [.str (text ++ S), .dg]) rfl (by rw [hXg]; exact l1)
  exact (qXP (st3 := X (some (.str S)) (some .dg) (some (.tup [.str [], .int (-1)])) (some (.exc w text.length)) g') (st4 := X (some (.str S)) (some .dg) (some c16) (some (.exc w text.length)) g') (ze e2 (ze e15 rfl)) hr (by rw [hX]; rfl) (by rw [hX, hc16]; rfl)).trans (by rw [hX]; rfl)
 have e16 : qC 16 (X (some (.str S)) (some .dg) (some c16) none g') = some (c16, X (some (.str S)) (some .dg) (some c16) none g') := by rw [hX]; rfl
 have e14 : qC 14 (X (some (.str S)) (some .dg) (some c16) none g') = some (.str w, X (some (.str S)) (some .dg) (some c16) none g') := by rw [hX]; rfl
 have e10 : qC 10 (X (some (.str S)) (some .dg) (some c16) none g') = some (.int text.length, X (some (.str S)) (some .dg) (some c16) none g') := by rw [hX]; rfl
 have e4 : qC 4 (X (some (.str S)) (some .dg) (some c16) none g') = some (.lst (.loc 1), X (some (.str S)) (some .dg) (some c16) none g') := by rw [hX]; rfl
 have er : qg (qC 15) .rows (X (some (.str S)) (some .dg) (some c16) none g') = some (.lst .rows, X (some (.str S)) (some .dg) (some c16) none g') := by
  exact qM8 (by rw [hX]; rfl) (by rw [hXg]; exact l3)
 obtain ⟨r1, r2, r3⟩ := qDM hrv
 have hs1 : kh c16 c16 (X (some (.str S)) (some .dg) (some c16) none g') = some true := by
  refine qBR (a := c16) (by rw [hc16]; rfl) (by rw [hc16]; rfl) (by rw [hc16]; rfl) ?_ ?_
  ·rw [hc16]
   have := qDW (s := w) (List.all_eq_true.mpr fun c hc => decide_eq_true (hwlt c hc))
   exact qBG (x := .str _) this rfl
  ·rw [hc16]
   exact (by decide : 1 ≤ 64)
 have hs2 : kh (.lst .rows) (.lst (.loc 1)) (X (some (.str S)) (some .dg) (some c16) none g') = some true := by
  refine qBR (a := .fl (rows.map qf)) ?_ (by rw [hX]; rfl) ?_ ?_ ?_
  ·show (dI .rows (X (some (.str S)) (some .dg) (some c16) none g')).map PV.fl = _
   rw [show dI .rows (X (some (.str S)) (some .dg) (some c16) none g') = some (rows.map qf) from (if_pos (by rw [hXg]; exact l3)).trans (by rw [hXg, l4])]
   rfl
  ·exact r3
  ·exact r1
  ·exact Nat.succ_le_succ (Nat.le_trans r2 (by decide))
 have f1 : tE (qIS (qC 16) (qZ (qB (qC 14) (qB (qC 10) qI)))) (X (some (.str S)) (some .dg) (some c16) none g') = some (false, X (some (.str S)) (some .dg) (some c16) none g') := by
  exact zl (qQ9 e16 (gR e14 e10) (hc16 ▸ hs1))
 have f2 : tE (qIS (qg (qC 15) .rows) (qC 4)) (X (some (.str S)) (some .dg) (some c16) none g') = some (false, X (some (.str S)) (some .dg) (some c16) none g') := by
  exact zl (qQ9 er e4 hs2)
 have a5 : qV 7 (eC (.str [])) (X (some (.str S)) (some .dg) (some c16) none g') = some (.nxt, X (some (.str [])) (some .dg) (some c16) none g') := by rw [hX]; rfl
 refine ⟨g', some c16, l2, by rw [hc16]; rfl, ?_⟩
 have := (show qFP (X (some (.str S)) none none none g) = some (.nxt, X (some (.str [])) (some .dg) (some c16) none g') by
  unfold qFP
  rw [zM t0, qJ a1, qJ a2, qJ a3, qJ ((qr (wK f1 f2)).trans rfl), seq_nil, a5])
 rw [hX] at this
 exact this
theorem LI.zero : LI 0 [] [] [] := ⟨⟨0, fun N y _ => rfl⟩, Nat.le_refl _, Nat.le_refl _, Nat.le_refl _, by simp, by simp, by simp, fun h => absurd h (by decide)⟩
theorem qYK (ns : List Int) : ∃ st', qEV (⟨[some (.fl (ns.map .int))] ++ List.replicate 17 none, [], {}⟩) = some (.ret (.bool true), st') := by
 have hline : ∀ x, x ≤ 4000 → x ≤ line := fun x hx => Nat.le_trans hx (by decide)
 obtain ⟨m, hm⟩ : ∃ m, m = max 1 (((ns.take 31).length + 1) / 3) := ⟨_, rfl⟩
 have hlen : (ns.take 31).length ≤ 31 := by rw [List.length_take]; lia
 have hm1 : 1 ≤ m := by lia
 have hm2 : m ≤ 10 := by lia
 obtain ⟨⟨text, toks, rows, w5, w6, w7, w8, w9, w10, w11, w12, w13⟩, ⟨hLI, hdw⟩, hfor⟩ := qFD (ns := ns) (tl := [none, none, none, none]) (g := {}) m 0 ⟨[], [], [], none, none, none, none, none, none, none, none, none⟩ ⟨LI.zero, rfl⟩ (by lia)
 dsimp only at hLI hdw
 rw [Nat.zero_add] at hLI
 have htl := hLI.tl
 have hkl := hLI.kl
 have hrl := hLI.rl
 have hne := hLI.ne (by lia)
 obtain ⟨M, hM⟩ := hLI.run
 obtain ⟨text1, htext1⟩ : ∃ t, t = text ++ [32] := ⟨_, rfl⟩
 have hlen1 : text1.length = text.length + 1 := by rw [htext1]; simp
 have hlt1 : ∀ c ∈ text1, c < E := by
  intro c hc
  rw [htext1] at hc
  rcases List.mem_append.mp hc with z | z
  ·exact hLI.lt c z
  ·rw [List.mem_singleton.mp z]; decide
 have hrun : ∀ N y, ji (N + 1 + M) 0 (text1 ++ y) [] [] = ji (N + 1) text1.length y toks rows := by
  intro N y
  have := hM N (32 :: y) (fun _ => ⟨32, y, rfl, .inl ⟨by decide, fun h => by cases h.2⟩, by decide⟩)
  rw [htext1, List.append_assoc, List.singleton_append, this, qCY (by decide), List.length_append]
  rfl
 obtain ⟨ei, hei, e1⟩ := qSH (ns := ns) (p := 0) (limit := 32) (j := 32) rfl (by decide) (e := eC (.int 0)) (st := MX ns text1 w5 w6 w7 w8 w9 (some (.int text1.length)) w11 w12 w13 [none, none, none, none] (toks.map qd) (rows.map qf) {}) rfl rfl
 have hei2 : ei < endsT.length := by rw [qP3]; exact hei
 obtain ⟨c, hc⟩ : ∃ c, c = endsT[ei] := ⟨_, rfl⟩
 have hcm : c ∈ endsT := by rw [hc]; exact List.getElem_mem hei2
 obtain ⟨S, T, R, w⟩ := c
 have e2 : zm (eC yO) (qT z8 (qB (qC 1) (qB (eC (.int 0)) (qB (eC (.int 32)) qI)))) (MX ns text1 w5 w6 w7 w8 w9 (some (.int text1.length)) w11 w12 w13 [none, none, none, none] (toks.map qd) (rows.map qf) {}) = some (.tup [.str S, .fl (T.map qd), .fl (R.map qj), .str w], MX ns text1 w5 w6 w7 w8 w9 (some (.int text1.length)) w11 w12 w13 [none, none, none, none] (toks.map qd) (rows.map qf) {}) := by
  have := d4 (a := eC yO) (L := endsT.map fun c => .tup [.str c.1, .fl (c.2.1.map qd), .fl (c.2.2.1.map qj), .str c.2.2.2]) (i := ei) (by rw [List.length_map]; exact hei2) (by rw [← qP4]; rfl) e1
  rw [List.getElem_map, ← hc] at this
  exact this
 have hok := List.all_eq_true.mp qN6 _ hcm
 simp only [qUM, Bool.and_eq_true] at hok
 obtain ⟨o1, o2, o3, o4, o5, o6, o7, o8⟩ := hok
 have r1 : S.length ≤ 32 := of_decide_eq_true o1
 have r2 : ∀ x ∈ S, x < E := fun x hx => of_decide_eq_true (List.all_eq_true.mp o2 x hx)
 have r3 : T.length ≤ 3 := of_decide_eq_true o3
 have r4 : R.length ≤ 3 := of_decide_eq_true o4
 have r5 : ∀ t ∈ T, j1 t.2.1 = true := fun t ht => List.all_eq_true.mp o5 t ht
 have r6 : ∀ r ∈ R, r.2 < S.length := fun r hr => of_decide_eq_true (List.all_eq_true.mp o6 r hr)
 have r7 : ∀ x ∈ w, x < E := fun x hx => of_decide_eq_true (List.all_eq_true.mp o7 x hx)
 have hdw' := hdw
 simp only [dws, Bool.and_eq_true] at hdw'
 obtain ⟨q5, q6, q7, q8, q9, q10, q11, q12, q13⟩ := hdw'
 have hd2 : dws w5 w6 (some (.str S)) (some (.fl (T.map qd))) (some (.fl (R.map qj))) (some (.int text1.length)) w11 w12 w13 = true := by
  simp only [dws, q5, q6, q11, q12, q13, Bool.and_true, Bool.true_and]
  simp only [gy (uM r5), gy uL]
  rfl
 have w1 : qV 1 (vX (qC 0) (eC (.int 31))) ⟨[some (.fl (ns.map .int))] ++ List.replicate 17 none, [], {}⟩ = some (.nxt, ⟨[some (.fl (ns.map .int)), some (.fl ((ns.take 31).map .int))] ++ List.replicate 16 none, [], {}⟩) := by
  refine zE (u := .fl ((ns.take 31).map .int)) (st1 := ⟨[some (.fl (ns.map .int))] ++ List.replicate 17 none, [], {}⟩) ?_ rfl
  have c1 : List.take (zD (ns.map PV.int).length 31) (ns.map PV.int) = (ns.take 31).map .int := by
   unfold zD
   rw [if_neg (by decide), List.map_take, List.take_eq_take_iff]
   show min (min 31 (ns.map PV.int).length) _ = min 31 _
   lia
  show some (PV.fl (List.take (zD (ns.map PV.int).length 31) (ns.map PV.int)), _) = _
  rw [c1]
 have w2 : qV 2 (eC (.str [])) ⟨[some (.fl (ns.map .int)), some (.fl ((ns.take 31).map .int))] ++ List.replicate 16 none, [], {}⟩ = some (.nxt, ⟨[some (.fl (ns.map .int)), some (.fl ((ns.take 31).map .int)), some (.str [])] ++ List.replicate 15 none, [], {}⟩) := rfl
 have w3 : kF 3 ⟨[some (.fl (ns.map .int)), some (.fl ((ns.take 31).map .int)), some (.str [])] ++ List.replicate 15 none, [], {}⟩ = some (.nxt, ⟨[some (.fl (ns.map .int)), some (.fl ((ns.take 31).map .int)), some (.str []), some (.lst (.loc 0))] ++ List.replicate 14 none, [[]], {}⟩) := rfl
 have w4 : kF 4 ⟨[some (.fl (ns.map .int)), some (.fl ((ns.take 31).map .int)), some (.str []), some (.lst (.loc 0))] ++ List.replicate 14 none, [[]], {}⟩ = some (.nxt, MX ns [] none none none none none none none none none [none, none, none, none] [] [] {}) := rfl
 have hcount : qS2 (eC (.int 1)) (qY .fdiv (qY .add (zn (qC 1)) (eC (.int 1))) (eC (.int 3))) (MX ns [] none none none none none none none none none [none, none, none, none] [] [] {}) = some (.int (m : Nat), MX ns [] none none none none none none none none none [none, none, none, none] [] [] {}) := by
  have hadd : qY .add (zn (qC 1)) (eC (.int 1)) (MX ns [] none none none none none none none none none [none, none, none, none] [] [] {}) = some (.int (((ns.take 31).length + 1 : Nat) : Int), MX ns [] none none none none none none none none none [none, none, none, none] [] [] {}) := by
   exact op2 (f := bop .add) (ka (L := (ns.take 31).map PV.int) rfl) x_c (by rw [List.length_map]; rfl)
  have hdiv := ki (k := 3) (j := 3) rfl (by decide) (by decide) hadd
  refine op2 (f := qTM) (x := .int 1) (y := .int _) x_c hdiv (congrArg (fun i => some (PV.int i)) (?_ : (if (((((ns.take 31).length + 1) / 3 : Nat) : Int) > 1) then ((((ns.take 31).length + 1) / 3 : Nat) : Int) else 1) = (m : Nat)))
  by_cases q : (((ns.take 31).length + 1) / 3) > 1
  ·rw [if_pos (by lia), hm]
   lia
  ·rw [if_neg (by lia), hm]
   lia
 have w5' : j4 5 (qS2 (eC (.int 1)) (qY .fdiv (qY .add (zn (qC 1)) (eC (.int 1))) (eC (.int 3)))) qM0 (MX ns [] none none none none none none none none none [none, none, none, none] [] [] {}) = some (.nxt, MX ns text w5 w6 w7 w8 w9 w10 w11 w12 w13 [none, none, none, none] (toks.map qd) (rows.map qf) {}) := by
  exact qVF hcount (hline _ (by lia)) (by unfold jX; rw [Int.toNat_natCast, List.range_eq_range']; exact hfor)
 have w6' : j3 .add 2 (eC (.str [32])) (MX ns text w5 w6 w7 w8 w9 w10 w11 w12 w13 [none, none, none, none] (toks.map qd) (rows.map qf) {}) = some (.nxt, MX ns text1 w5 w6 w7 w8 w9 w10 w11 w12 w13 [none, none, none, none] (toks.map qd) (rows.map qf) {}) := by
  rw [htext1]
  exact qM1 rfl (hline _ (by simp; lia))
 have w7' : qV 10 (zn (qC 2)) (MX ns text1 w5 w6 w7 w8 w9 w10 w11 w12 w13 [none, none, none, none] (toks.map qd) (rows.map qf) {}) = some (.nxt, MX ns text1 w5 w6 w7 w8 w9 (some (.int text1.length)) w11 w12 w13 [none, none, none, none] (toks.map qd) (rows.map qf) {}) := zE (qHV rfl) rfl
 have w8' : zz [7, 8, 9, 14] (zm (eC yO) (qT z8 (qB (qC 1) (qB (eC (.int 0)) (qB (eC (.int 32)) qI))))) (MX ns text1 w5 w6 w7 w8 w9 (some (.int text1.length)) w11 w12 w13 [none, none, none, none] (toks.map qd) (rows.map qf) {}) = some (.nxt, MX ns text1 w5 w6 (some (.str S)) (some (.fl (T.map qd))) (some (.fl (R.map qj))) (some (.int text1.length)) w11 w12 w13 [some (.str w), none, none, none] (toks.map qd) (rows.map qf) {}) := by
  exact qHS e2 rfl
 have whole : ∀ st', qD qFP qM7 (MX ns text1 w5 w6 (some (.str S)) (some (.fl (T.map qd))) (some (.fl (R.map qj))) (some (.int text1.length)) w11 w12 w13 [some (.str w), none, none, none] (toks.map qd) (rows.map qf) {}) = some (.ret (.bool true), st') → qEV ⟨[some (.fl (ns.map .int))] ++ List.replicate 17 none, [], {}⟩ = some (.ret (.bool true), st') := by
  intro st' h
  show qD _ (qD _ (qD _ (qD _ (qD (j4 5 _ qM0) (qD _ (qD _ (qD _ (qD qFP qM7)))))))) _ = _
  rw [qJ w1, qJ w2, qJ w3, qJ w4, qJ w5', qJ w6', qJ w7', qJ w8']
  exact h
 by_cases hw : w = []
 ·subst hw
  rw [if_pos rfl, List.any_eq_true] at o8
  obtain ⟨me, _, o8⟩ := o8
  have hend := qMU o8 0 text1.length toks rows
  have hlex : ji (me + 1 + M) 0 (text1 ++ S ++ E4) [] [] = some (none, toks ++ T.map (shT text1.length), rows ++ R.map fun r => shR text1.length (gK S r), text1.length + S.length) := by
   rw [List.append_assoc, hrun, show me + 1 = 0 + 1 + me by lia, hend, List.map_map]
   rfl
  obtain ⟨st', hB⟩ := qRF (ns := ns) (w := []) (w15 := none) (w16 := none) (w17 := none) (g := {}) hd2 rfl rfl rfl (by lia) r1 (by lia) (by lia) r3 r4 hlt1 r2 hLI.tv r5 hLI.rv r6 hlex
  exact ⟨st', whole st' ((qJ qTO).trans hB)⟩
 ·rw [if_neg hw] at o8
  simp only [Bool.and_eq_true] at o8
  have oT : T = [] := List.eq_nil_of_length_eq_zero (of_decide_eq_true o8.1)
  have oR : R = [] := List.eq_nil_of_length_eq_zero (of_decide_eq_true o8.2.1)
  have hleft := qQW o8.2.2 0 text1.length toks rows
  have hlex : ji (0 + 1 + M) 0 (text1 ++ S ++ E4) [] [] = some (some (w, text1.length), toks, rows, text1.length) := by
   rw [List.append_assoc, hrun, hleft]
  obtain ⟨g', c16, l1, l2, hL⟩ := qV0 (L0 := toks.map qd) (g := {}) hw r7 hd2 rfl (by lia) r1 (by lia) (by lia) hlt1 r2 hLI.rv hlex
  have hchk : qGH 0 [] [] [] = true := by decide +kernel
  have hend := qMU hchk 0 text1.length toks rows
  have hlex2 : ji (0 + 1 + M) 0 (text1 ++ [] ++ E4) [] [] = some (none, toks ++ T.map (shT text1.length), rows ++ R.map fun r => shR text1.length (gK [] r), text1.length + ([] : List Nat).length) := by
   have hend : ji (0 + 1) text1.length E4 toks rows = _ := hend
   rw [List.append_nil, hrun, hend, oT, oR]
   rfl
  have hd3 : dws w5 w6 (some (.str [])) (some (.fl (T.map qd))) (some (.fl (R.map qj))) (some (.int text1.length)) w11 w12 w13 = true := hd2
  obtain ⟨st', hB⟩ := qRF (ns := ns) (S := []) (w := w) (w15 := some .dg) (w16 := c16) (w17 := none) (g := g') hd3 l2 rfl l1 (by lia) (by decide) (by lia) (by lia) r3 r4 hlt1 (by simp) hLI.tv r5 hLI.rv (by rw [oR]; simp) hlex2
  exact ⟨st', whole st' ((qJ hL).trans hB)⟩
end
end Mine
end
namespace Mine
theorem lawTrue : LawTrue := fun ns _ => qYK ns
end Mine
open PySem PySem.W PyProof.Rows
set_option maxRecDepth 100000 in
set_option maxHeartbeats 8000000 in
theorem PySem.Challenge.cw_qd0034_01_holds : PySem.Challenge.rw_qd0034_01.Holds := by
 exact Mine.hd (by
  k_go0
  all_goals try k_fold
  rename Top _ _ _ _ _ _ => T
  rename Frag.In _ _ => KX
  rename Fr _ _ _ _ => F
  rename IntsAre _ _ => hI
  rename Heap.IsList _ _ _ => hL
  rename _ = #[] => hg
  rename ¬ (_ < _) => hc
  refine Mine.law_join Mine.lawTrue ⟨KX, T.g, T.b, T.nolimit, T.builtins⟩ (by kernel_rfl) F hL hI (by lia) rfl hg (Nat.succ_pos _) fun s' hk' ho' hg' => ?_
  refine ⟨.inl ⟨.bool true, .bool true, [], rfl, fun cls => by kernel_rfl, ?_, ?_, fun _ => ⟨.nil, fun a ha => by cases ha⟩⟩, hk', ho', hg'⟩
  ·constructor
  ·kernel_rfl)
