import PyProof.Rows.All
import Wide.All
import OpenK.AllK
import Wide.FinOn
import Lean
import PySem.Challenge.RW_xw0229_01
open PySem PySem.W PyProof.Rows
open PySem.Spec PySem.Calls
set_option Elab.async false
set_option maxRecDepth 100000
set_option maxHeartbeats 8000000
namespace Mine
theorem top.tw10001883323181062329 : True := trivial
theorem top.tw10005945817407372193 : True := trivial
theorem top.tw10006222313960134694 : True := trivial
theorem top.tw10008474027749305400 : True := trivial
theorem top.tw10079171474624433434 : True := trivial
theorem top.tw10134937180695548359 : True := trivial
theorem top.tw1015095060342052635 : True := trivial
theorem top.tw1016984595167383106 : True := trivial
theorem top.tw10187264123177260123 : True := trivial
theorem top.tw10195997230039290492 : True := trivial
theorem top.tw10242591131026960117 : True := trivial
theorem top.tw10276331973627342096 : True := trivial
theorem top.tw10296497611174029103 : True := trivial
theorem top.tw10341860258655708415 : True := trivial
theorem top.tw10361075674979980167 : True := trivial
theorem top.tw10362775142378211054 : True := trivial
theorem top.tw10399464001100048223 : True := trivial
theorem top.tw10404823597219466188 : True := trivial
theorem top.tw1040915598704419856 : True := trivial
theorem top.tw10414433010598505635 : True := trivial
theorem top.tw10448899703829047738 : True := trivial
theorem top.tw10467260515200827399 : True := trivial
theorem top.tw105208000716104510 : True := trivial
theorem top.tw10532379378090395621 : True := trivial
theorem top.tw10548783162686979305 : True := trivial
theorem top.tw10567129059001840431 : True := trivial
theorem top.tw10574840078274726829 : True := trivial
theorem top.tw10577272966987657301 : True := trivial
theorem top.tw10579768621468169598 : True := trivial
theorem top.tw10617020205504526918 : True := trivial
theorem top.tw10648311167861321448 : True := trivial
theorem top.tw10657950659306570408 : True := trivial
theorem top.tw10694878333477680388 : True := trivial
theorem top.tw10751250942693970866 : True := trivial
theorem top.tw10773188271377071773 : True := trivial
theorem top.tw10774637447528242797 : True := trivial
theorem top.tw10783980745131425670 : True := trivial
theorem top.tw10797620697341660853 : True := trivial
theorem top.tw10801874191123338550 : True := trivial
theorem top.tw10864713392326063847 : True := trivial
theorem top.tw10871174231137468428 : True := trivial
theorem top.tw1088946173253831356 : True := trivial
theorem top.tw10915162052029792233 : True := trivial
theorem top.tw10936122117785486979 : True := trivial
theorem top.tw10956490626425055710 : True := trivial
theorem top.tw10996937224433265937 : True := trivial
theorem top.tw11045010717311733409 : True := trivial
theorem top.tw11053662475850362967 : True := trivial
theorem top.tw11072019736110318841 : True := trivial
theorem top.tw1108800333578037850 : True := trivial
theorem top.tw11116745826364501430 : True := trivial
theorem top.tw1112988674713690477 : True := trivial
theorem top.tw11133666699803404755 : True := trivial
theorem top.tw11141966352661209427 : True := trivial
theorem top.tw11145643937294416527 : True := trivial
theorem top.tw11159431927160009238 : True := trivial
theorem top.tw11173010173815179391 : True := trivial
theorem top.tw11189890337720088615 : True := trivial
theorem top.tw11199532085631943738 : True := trivial
theorem top.tw11199710921928265848 : True := trivial
theorem top.tw11240886729373846589 : True := trivial
theorem top.tw11279390925490393535 : True := trivial
theorem top.tw11281007319442060611 : True := trivial
theorem top.tw11334203419191126389 : True := trivial
theorem top.tw11334350811105764591 : True := trivial
theorem top.tw11334415319851112604 : True := trivial
theorem top.tw11377482038585738817 : True := trivial
theorem top.tw11383000496634168614 : True := trivial
theorem top.tw1139600151236580504 : True := trivial
theorem top.tw1142415686869020238 : True := trivial
theorem top.tw1142465760834251562 : True := trivial
theorem top.tw11430207588045935325 : True := trivial
theorem top.tw11443710868159068359 : True := trivial
theorem top.tw11457754044182789617 : True := trivial
theorem top.tw11459358961799972967 : True := trivial
theorem top.tw11466170419677230873 : True := trivial
theorem top.tw114735475811551136 : True := trivial
theorem top.tw1147548669246485465 : True := trivial
theorem top.tw11520865232209809239 : True := trivial
theorem top.tw11546936639936008217 : True := trivial
theorem top.tw11577829705659331004 : True := trivial
theorem top.tw11582926029173025856 : True := trivial
theorem top.tw11593399256984752444 : True := trivial
theorem top.tw11613256710310857696 : True := trivial
theorem top.tw11616952265938772053 : True := trivial
theorem top.tw11620634932572840514 : True := trivial
theorem top.tw11628880297764322445 : True := trivial
theorem top.tw11760055953109336660 : True := trivial
theorem top.tw11779653239440661071 : True := trivial
theorem top.tw11845233108574324481 : True := trivial
theorem top.tw11858546649754279707 : True := trivial
theorem top.tw1186331607622873149 : True := trivial
theorem top.tw11922380849998532372 : True := trivial
theorem top.tw1195175773429642966 : True := trivial
theorem top.tw11960245374511038805 : True := trivial
theorem top.tw11982747722937265360 : True := trivial
theorem top.tw11994683656316670133 : True := trivial
theorem top.tw12094960947251128927 : True := trivial
theorem top.tw1209819496270969543 : True := trivial
theorem top.tw12105128591322288922 : True := trivial
theorem top.tw12117888159696746259 : True := trivial
theorem top.tw1212798325632107971 : True := trivial
theorem top.tw12166907935582030026 : True := trivial
theorem top.tw12209182163369298222 : True := trivial
theorem top.tw12256363837256957063 : True := trivial
theorem top.tw12287887523310495049 : True := trivial
theorem top.tw12294689066310865016 : True := trivial
theorem top.tw12317137736924338119 : True := trivial
theorem top.tw12318557346453588183 : True := trivial
theorem top.tw12342655685612074800 : True := trivial
theorem top.tw12376051458212225564 : True := trivial
theorem top.tw12379415707883124570 : True := trivial
theorem top.tw12385144161495827662 : True := trivial
theorem top.tw12425085872883035938 : True := trivial
theorem top.tw12427389293880184781 : True := trivial
theorem top.tw1245559373397905713 : True := trivial
theorem top.tw12483720753089274532 : True := trivial
theorem top.tw12507017104952529904 : True := trivial
theorem top.tw12540527436937284434 : True := trivial
theorem top.tw12545222027267286695 : True := trivial
theorem top.tw12559286593441436923 : True := trivial
theorem top.tw12564220515667953714 : True := trivial
theorem top.tw12643491718579748851 : True := trivial
theorem top.tw12718909917080609646 : True := trivial
theorem top.tw12764151676501842404 : True := trivial
theorem top.tw12783364522390391256 : True := trivial
theorem top.tw12787338502077490372 : True := trivial
theorem top.tw1284575025550258836 : True := trivial
theorem top.tw12887107875299966611 : True := trivial
theorem top.tw12894197372075662830 : True := trivial
theorem top.tw12904532413392791838 : True := trivial
theorem top.tw1291508964198565346 : True := trivial
theorem top.tw1294077662247117797 : True := trivial
theorem top.tw12958502747184954254 : True := trivial
theorem top.tw12958664272152378060 : True := trivial
theorem top.tw13001836021917841797 : True := trivial
theorem top.tw13044034144603486326 : True := trivial
theorem top.tw13047834502658803893 : True := trivial
theorem top.tw13068111086705522682 : True := trivial
theorem top.tw13090165191389475591 : True := trivial
theorem top.tw13134186033006778460 : True := trivial
theorem top.tw13167462122316868159 : True := trivial
theorem top.tw13177472732611162249 : True := trivial
theorem top.tw13187519465064655849 : True := trivial
theorem top.tw13191473780850816973 : True := trivial
theorem top.tw1321871150748368714 : True := trivial
theorem top.tw13261893007816960818 : True := trivial
theorem top.tw13264354339760550358 : True := trivial
theorem top.tw13290321428070320777 : True := trivial
theorem top.tw13303987763403120937 : True := trivial
theorem top.tw13305523845174962083 : True := trivial
theorem top.tw13318506193475082254 : True := trivial
theorem top.tw13326734554550294991 : True := trivial
theorem top.tw13359135706311490777 : True := trivial
theorem top.tw13369591340354186047 : True := trivial
theorem top.tw13370185576492129568 : True := trivial
theorem top.tw13370750898655102155 : True := trivial
theorem top.tw13385244156195431271 : True := trivial
theorem top.tw13420762306968818387 : True := trivial
theorem top.tw13432635357386499347 : True := trivial
theorem top.tw13486290882257350879 : True := trivial
theorem top.tw13500427573557490136 : True := trivial
theorem top.tw1353657120722975067 : True := trivial
theorem top.tw13549259019975226677 : True := trivial
theorem top.tw13710211086531791108 : True := trivial
theorem top.tw13713866747541496747 : True := trivial
theorem top.tw13802547742096326172 : True := trivial
theorem top.tw1381835654847214879 : True := trivial
theorem top.tw13822267516522204269 : True := trivial
theorem top.tw13852830345959847167 : True := trivial
theorem top.tw13864677062968915208 : True := trivial
theorem top.tw13889309363888878346 : True := trivial
theorem top.tw13889484949932952446 : True := trivial
theorem top.tw13890846271309207196 : True := trivial
theorem top.tw13899568491130100285 : True := trivial
theorem top.tw13922054642007902626 : True := trivial
theorem top.tw1394568958698188020 : True := trivial
theorem top.tw13968125046926948103 : True := trivial
theorem top.tw13975414291046593716 : True := trivial
theorem top.tw13983857475226248213 : True := trivial
theorem top.tw13987285891283452908 : True := trivial
theorem top.tw13994475860397038760 : True := trivial
theorem top.tw14042817526060737062 : True := trivial
theorem top.tw14071197739269178328 : True := trivial
theorem top.tw14142502885225118848 : True := trivial
theorem top.tw14145802354927516647 : True := trivial
theorem top.tw14235281626263879747 : True := trivial
theorem top.tw14282377253939248939 : True := trivial
theorem top.tw14317375437502057738 : True := trivial
theorem top.tw14349089067433371257 : True := trivial
theorem top.tw14371913498598963198 : True := trivial
theorem top.tw14372152842798730730 : True := trivial
theorem top.tw14399976873020721970 : True := trivial
theorem top.tw14402358008270493973 : True := trivial
theorem top.tw14450715343900746980 : True := trivial
theorem top.tw14453841093610474573 : True := trivial
theorem top.tw14459580976405569124 : True := trivial
theorem top.tw14466935161476858967 : True := trivial
theorem top.tw14502225709538309166 : True := trivial
theorem top.tw14608685727046917156 : True := trivial
theorem top.tw14615657086365298920 : True := trivial
theorem top.tw14657780768301432306 : True := trivial
theorem top.tw14671331368771545958 : True := trivial
theorem top.tw146815374380898660 : True := trivial
theorem top.tw14697636140705633519 : True := trivial
theorem top.tw14724332232928298890 : True := trivial
theorem top.tw14747140909534839006 : True := trivial
theorem top.tw14771320824794740959 : True := trivial
theorem top.tw14789260269991461300 : True := trivial
theorem top.tw14796646475526232899 : True := trivial
theorem top.tw14823308797102314842 : True := trivial
theorem top.tw14826035006057030972 : True := trivial
theorem top.tw1483126911874232274 : True := trivial
theorem top.tw14861896470697024400 : True := trivial
theorem top.tw1486479319815781832 : True := trivial
theorem top.tw14901070454687303710 : True := trivial
theorem top.tw1492452104121835379 : True := trivial
theorem top.tw14956818847003223146 : True := trivial
theorem top.tw14983691940233647259 : True := trivial
theorem top.tw14987219478266130788 : True := trivial
theorem top.tw15058813355848621054 : True := trivial
theorem top.tw15073315481182737699 : True := trivial
theorem top.tw15095372191486117680 : True := trivial
theorem top.tw1516213087968936877 : True := trivial
theorem top.tw15169761463676818070 : True := trivial
theorem top.tw15212760480394562756 : True := trivial
theorem top.tw1522322319653140107 : True := trivial
theorem top.tw15237440571239942016 : True := trivial
theorem top.tw15240379268576122478 : True := trivial
theorem top.tw15254643099363442306 : True := trivial
theorem top.tw15271675978053873483 : True := trivial
theorem top.tw15286249088069653756 : True := trivial
theorem top.tw15299407806266782574 : True := trivial
theorem top.tw15346330546999012534 : True := trivial
theorem top.tw15349318334595610263 : True := trivial
theorem top.tw15361541807878343388 : True := trivial
theorem top.tw15362295582089109014 : True := trivial
theorem top.tw15375627381283404121 : True := trivial
theorem top.tw15383718091736126541 : True := trivial
theorem top.tw15451780782824253742 : True := trivial
theorem top.tw15503665604740900718 : True := trivial
theorem top.tw15508944514630427714 : True := trivial
theorem top.tw15525995667512963556 : True := trivial
theorem top.tw15542334942015070624 : True := trivial
theorem top.tw15548470053897091947 : True := trivial
theorem top.tw15569959144833144457 : True := trivial
theorem top.tw15638586536077026902 : True := trivial
theorem top.tw15646934709686841381 : True := trivial
theorem top.tw15687709949711836451 : True := trivial
theorem top.tw15696354942287192291 : True := trivial
theorem top.tw15722756333993289495 : True := trivial
theorem top.tw15744752440731449612 : True := trivial
theorem top.tw15799541711010589177 : True := trivial
theorem top.tw1584292188352093569 : True := trivial
theorem top.tw1585457916280141200 : True := trivial
theorem top.tw15860264024139754761 : True := trivial
theorem top.tw15874363893724204672 : True := trivial
theorem top.tw15878805988109762761 : True := trivial
theorem top.tw15911569825323301435 : True := trivial
theorem top.tw15918733279669447828 : True := trivial
theorem top.tw15937251751513688862 : True := trivial
theorem top.tw15976228082101565994 : True := trivial
theorem top.tw16004416686337608138 : True := trivial
theorem top.tw1601500998369573665 : True := trivial
theorem top.tw16034636559557993077 : True := trivial
theorem top.tw16044733080236030384 : True := trivial
theorem top.tw16054190913257422852 : True := trivial
theorem top.tw16058212318047004132 : True := trivial
theorem top.tw16068562728529669930 : True := trivial
theorem top.tw16104615914030681952 : True := trivial
theorem top.tw16123964013534891561 : True := trivial
theorem top.tw16155163154822807229 : True := trivial
theorem top.tw1617357707322924660 : True := trivial
theorem top.tw16174758807025615021 : True := trivial
theorem top.tw16196420915677631385 : True := trivial
theorem top.tw16240068400928781132 : True := trivial
theorem top.tw16262243036561855896 : True := trivial
theorem top.tw16325430554902658873 : True := trivial
theorem top.tw16352630495959832749 : True := trivial
theorem top.tw1638113669730673903 : True := trivial
theorem top.tw16398254142604309570 : True := trivial
theorem top.tw16414630628198896168 : True := trivial
theorem top.tw16415559393655328363 : True := trivial
theorem top.tw16439428074185983240 : True := trivial
theorem top.tw16453443671601555132 : True := trivial
theorem top.tw16509065781470453940 : True := trivial
theorem top.tw16541100652227675460 : True := trivial
theorem top.tw16542028095416433903 : True := trivial
theorem top.tw16550210197400561554 : True := trivial
theorem top.tw1655259298481077034 : True := trivial
theorem top.tw16580785732701462914 : True := trivial
theorem top.tw16597617366809209970 : True := trivial
theorem top.tw16609787132528783808 : True := trivial
theorem top.tw16612331741718818515 : True := trivial
theorem top.tw16674975167109581930 : True := trivial
theorem top.tw16713831800681072344 : True := trivial
theorem top.tw16719718919923625709 : True := trivial
theorem top.tw16734371015571099844 : True := trivial
theorem top.tw16759092144687519636 : True := trivial
theorem top.tw1676862907878916244 : True := trivial
theorem top.tw16795567611416646642 : True := trivial
theorem top.tw16821654228018055803 : True := trivial
theorem top.tw16839680983989633610 : True := trivial
theorem top.tw16885616592811714743 : True := trivial
theorem top.tw16896751376397280635 : True := trivial
theorem top.tw16900427199656544559 : True := trivial
theorem top.tw1697544655201012999 : True := trivial
theorem top.tw16982378080980825192 : True := trivial
theorem top.tw17009415399725018624 : True := trivial
theorem top.tw17022078359063049780 : True := trivial
theorem top.tw17030962893124633753 : True := trivial
theorem top.tw17046948494117081484 : True := trivial
theorem top.tw17050326753033342646 : True := trivial
theorem top.tw1706793611546318481 : True := trivial
theorem top.tw17085176360113175178 : True := trivial
theorem top.tw17089494485692210459 : True := trivial
theorem top.tw17103177528636943170 : True := trivial
theorem top.tw17103585973383926153 : True := trivial
theorem top.tw17176029603704830031 : True := trivial
theorem top.tw17177869089781658578 : True := trivial
theorem top.tw17268329233802347805 : True := trivial
theorem top.tw17315540178315561739 : True := trivial
theorem top.tw1732150942055357024 : True := trivial
theorem top.tw17342085116792181814 : True := trivial
theorem top.tw17346259052997144950 : True := trivial
theorem top.tw17355269125676882429 : True := trivial
theorem top.tw1736530178072539846 : True := trivial
theorem top.tw17428532607074087071 : True := trivial
theorem top.tw17469865338272021226 : True := trivial
theorem top.tw17470836177267949868 : True := trivial
theorem top.tw17474498911051797155 : True := trivial
theorem top.tw17486766287000646611 : True := trivial
theorem top.tw17492772389151264855 : True := trivial
theorem top.tw17542608870123051758 : True := trivial
theorem top.tw17545328352263074274 : True := trivial
theorem top.tw17555251805378815213 : True := trivial
theorem top.tw17565814175750979855 : True := trivial
theorem top.tw17576949682797635024 : True := trivial
theorem top.tw17594962761535629368 : True := trivial
theorem top.tw17620759639134147866 : True := trivial
theorem top.tw17741875731164886585 : True := trivial
theorem top.tw17781115878593249900 : True := trivial
theorem top.tw17783859843131274014 : True := trivial
theorem top.tw17788931634197215145 : True := trivial
theorem top.tw17795014544551873601 : True := trivial
theorem top.tw17807222030613408314 : True := trivial
theorem top.tw17810072253543177317 : True := trivial
theorem top.tw17812086959565133684 : True := trivial
theorem top.tw17828378304095215089 : True := trivial
theorem top.tw17932348672471429727 : True := trivial
theorem top.tw17953806662267207243 : True := trivial
theorem top.tw17964300760807480141 : True := trivial
theorem top.tw17981982808018919739 : True := trivial
theorem top.tw1803303928475200142 : True := trivial
theorem top.tw18034075008235765660 : True := trivial
theorem top.tw18063644159110109576 : True := trivial
theorem top.tw18064794426631996164 : True := trivial
theorem top.tw18085771088847121727 : True := trivial
theorem top.tw18086089286151905521 : True := trivial
theorem top.tw18121752080927795069 : True := trivial
theorem top.tw18134043772397237400 : True := trivial
theorem top.tw1814787853859245837 : True := trivial
theorem top.tw1815572437527451979 : True := trivial
theorem top.tw18164388396756303480 : True := trivial
theorem top.tw18177719399980262173 : True := trivial
theorem top.tw18185382058313985135 : True := trivial
theorem top.tw18186074749648716422 : True := trivial
theorem top.tw18200808041648558556 : True := trivial
theorem top.tw18237780215024852062 : True := trivial
theorem top.tw18245740138792012028 : True := trivial
theorem top.tw18326957874037197240 : True := trivial
theorem top.tw1833847959688406909 : True := trivial
theorem top.tw18367679650794681301 : True := trivial
theorem top.tw18371284783138465269 : True := trivial
theorem top.tw18374746225686918389 : True := trivial
theorem top.tw18394268562011335289 : True := trivial
theorem top.tw1843344800811705456 : True := trivial
theorem top.tw1869187583165140508 : True := trivial
theorem top.tw1886144042066472794 : True := trivial
theorem top.tw196536941598035525 : True := trivial
theorem top.tw1988063486488863061 : True := trivial
theorem top.tw2047080938173012442 : True := trivial
theorem top.tw207392147570674490 : True := trivial
theorem top.tw2103985501979894447 : True := trivial
theorem top.tw2126296398998916975 : True := trivial
theorem top.tw2145171640123136144 : True := trivial
theorem top.tw2165817408578904141 : True := trivial
theorem top.tw2220570432770164149 : True := trivial
theorem top.tw2249405535684624136 : True := trivial
theorem top.tw2267912224990424062 : True := trivial
theorem top.tw2287362676942042354 : True := trivial
theorem top.tw2312856594315299383 : True := trivial
theorem top.tw2329457986368946861 : True := trivial
theorem top.tw2365566498512967660 : True := trivial
theorem top.tw2377541652452675900 : True := trivial
theorem top.tw2405475915293451298 : True := trivial
theorem top.tw2417791160451022400 : True := trivial
theorem top.tw243287103678006315 : True := trivial
theorem top.tw2443449257678562572 : True := trivial
theorem top.tw2446451932059125521 : True := trivial
theorem top.tw2462062305354472974 : True := trivial
theorem top.tw2464713573024523455 : True := trivial
theorem top.tw2502181453436431679 : True := trivial
theorem top.tw2506305409684761478 : True := trivial
theorem top.tw2514443458684651071 : True := trivial
theorem top.tw2543606523685570607 : True := trivial
theorem top.tw2544169868661182894 : True := trivial
theorem top.tw2555065506035805374 : True := trivial
theorem top.tw2580922434103091657 : True := trivial
theorem top.tw2595359151204422185 : True := trivial
theorem top.tw2596539476470345881 : True := trivial
theorem top.tw2601027998652028288 : True := trivial
theorem top.tw2601905985415302144 : True := trivial
theorem top.tw2617181576586992344 : True := trivial
theorem top.tw2617719716777270872 : True := trivial
theorem top.tw2619622883677149074 : True := trivial
theorem top.tw2665807947273092163 : True := trivial
theorem top.tw2675166985342186458 : True := trivial
theorem top.tw2683898200743741643 : True := trivial
theorem top.tw2685012915969955173 : True := trivial
theorem top.tw2686433634493928565 : True := trivial
theorem top.tw2727672472851901052 : True := trivial
theorem top.tw2731995056826638727 : True := trivial
theorem top.tw2732273902793177162 : True := trivial
theorem top.tw2770239361232196585 : True := trivial
theorem top.tw2770563814800254177 : True := trivial
theorem top.tw2782073688633401757 : True := trivial
theorem top.tw2812155379371279736 : True := trivial
theorem top.tw2847958352784047137 : True := trivial
theorem top.tw2859833716702649255 : True := trivial
theorem top.tw2867133514656366558 : True := trivial
theorem top.tw2907113945770861938 : True := trivial
theorem top.tw2924597203103170677 : True := trivial
theorem top.tw2926424126403749041 : True := trivial
theorem top.tw2968346561183084112 : True := trivial
theorem top.tw297971269722091814 : True := trivial
theorem top.tw2985252069258134486 : True := trivial
theorem top.tw3002795768020413707 : True := trivial
theorem top.tw3012798349882047937 : True := trivial
theorem top.tw3120133295221510679 : True := trivial
theorem top.tw3140898538269762758 : True := trivial
theorem top.tw3195522803047326042 : True := trivial
theorem top.tw3195968871104189447 : True := trivial
theorem top.tw3254097082911018636 : True := trivial
theorem top.tw3261557481417251176 : True := trivial
theorem top.tw3315250197877816394 : True := trivial
theorem top.tw3330193361107606904 : True := trivial
theorem top.tw3331421620988305804 : True := trivial
theorem top.tw3357215229441099570 : True := trivial
theorem top.tw3358723557356789334 : True := trivial
theorem top.tw339143206060000330 : True := trivial
theorem top.tw3422688185749166683 : True := trivial
theorem top.tw342308947776675178 : True := trivial
theorem top.tw3453223234828964814 : True := trivial
theorem top.tw3465488137227279516 : True := trivial
theorem top.tw3479634599624807885 : True := trivial
theorem top.tw3486219094355674750 : True := trivial
theorem top.tw352232786441526191 : True := trivial
theorem top.tw3548060758652744671 : True := trivial
theorem top.tw3584897518013459382 : True := trivial
theorem top.tw3664424711883983056 : True := trivial
theorem top.tw3669314199184481253 : True := trivial
theorem top.tw3686270052255827929 : True := trivial
theorem top.tw3696473221133414273 : True := trivial
theorem top.tw370947364307004932 : True := trivial
theorem top.tw3712731000106771831 : True := trivial
theorem top.tw3730354652608582461 : True := trivial
theorem top.tw3739144386018749749 : True := trivial
theorem top.tw3796891538752321733 : True := trivial
theorem top.tw381845443943030031 : True := trivial
theorem top.tw3820434133910038737 : True := trivial
theorem top.tw3846862658102513837 : True := trivial
theorem top.tw3855276242980373810 : True := trivial
theorem top.tw3871027444623705763 : True := trivial
theorem top.tw3874152929960365753 : True := trivial
theorem top.tw3909029901177050473 : True := trivial
theorem top.tw390997316461189296 : True := trivial
theorem top.tw3969286963782609292 : True := trivial
theorem top.tw4010397242664982755 : True := trivial
theorem top.tw401921906979044612 : True := trivial
theorem top.tw4046864289407762814 : True := trivial
theorem top.tw4047667213573674445 : True := trivial
theorem top.tw4058662728301269685 : True := trivial
theorem top.tw4076138812419527698 : True := trivial
theorem top.tw4134505453457115739 : True := trivial
theorem top.tw4159251561096739476 : True := trivial
theorem top.tw4166218997396506358 : True := trivial
theorem top.tw4177254973167742082 : True := trivial
theorem top.tw4186445540838780016 : True := trivial
theorem top.tw4205137553216949640 : True := trivial
theorem top.tw4213018616267185653 : True := trivial
theorem top.tw427269002284569659 : True := trivial
theorem top.tw4299629679881509495 : True := trivial
theorem top.tw4321519831107876412 : True := trivial
theorem top.tw4331257952254489624 : True := trivial
theorem top.tw4392038535549328194 : True := trivial
theorem top.tw4468942710605802240 : True := trivial
theorem top.tw4498253355057717688 : True := trivial
theorem top.tw4526881389914513428 : True := trivial
theorem top.tw453181688931711583 : True := trivial
theorem top.tw4547018644641229820 : True := trivial
theorem top.tw4551080515912023512 : True := trivial
theorem top.tw4555866861457887817 : True := trivial
theorem top.tw4571971715460732019 : True := trivial
theorem top.tw4597200072644226624 : True := trivial
theorem top.tw4655869559712951663 : True := trivial
theorem top.tw4671429814451907529 : True := trivial
theorem top.tw4695670854781333657 : True := trivial
theorem top.tw46980244435833615 : True := trivial
theorem top.tw4699463449715708850 : True := trivial
theorem top.tw47109162367338493 : True := trivial
theorem top.tw4713442408853163898 : True := trivial
theorem top.tw4736427724481360342 : True := trivial
theorem top.tw4773702212245658779 : True := trivial
theorem top.tw4784893810139332661 : True := trivial
theorem top.tw4796303294375832693 : True := trivial
theorem top.tw4828031223510198475 : True := trivial
theorem top.tw4835499133494076262 : True := trivial
theorem top.tw4840481374290595910 : True := trivial
theorem top.tw4856909995586565122 : True := trivial
theorem top.tw4859757453598101857 : True := trivial
theorem top.tw4916261283513009128 : True := trivial
theorem top.tw4940147422707163885 : True := trivial
theorem top.tw501154541418245514 : True := trivial
theorem top.tw5058314954733539658 : True := trivial
theorem top.tw5105846836358774362 : True := trivial
theorem top.tw5118827330378232414 : True := trivial
theorem top.tw5155950481276406077 : True := trivial
theorem top.tw516228168201391017 : True := trivial
theorem top.tw5186299589460371103 : True := trivial
theorem top.tw5187335452993679001 : True := trivial
theorem top.tw5196900775432865589 : True := trivial
theorem top.tw5225916559131626549 : True := trivial
theorem top.tw5240762971458559404 : True := trivial
theorem top.tw5244899138074338376 : True := trivial
theorem top.tw5278709424875269971 : True := trivial
theorem top.tw53344730913325255 : True := trivial
theorem top.tw5398424786039705171 : True := trivial
theorem top.tw5476889619067714990 : True := trivial
theorem top.tw5507162329139097715 : True := trivial
theorem top.tw5523086135645875356 : True := trivial
theorem top.tw5581607755468803823 : True := trivial
theorem top.tw5596365628329696591 : True := trivial
theorem top.tw5597187220613765494 : True := trivial
theorem top.tw5609151216138764652 : True := trivial
theorem top.tw5639618056041163616 : True := trivial
theorem top.tw5648408011753718230 : True := trivial
theorem top.tw5667650583090716360 : True := trivial
theorem top.tw5692499903750754813 : True := trivial
theorem top.tw5724797396398055869 : True := trivial
theorem top.tw5726952390250391837 : True := trivial
theorem top.tw5738303106652476479 : True := trivial
theorem top.tw5766051744304087583 : True := trivial
theorem top.tw5839659824258004927 : True := trivial
theorem top.tw5860347150701562758 : True := trivial
theorem top.tw5868845118606482295 : True := trivial
theorem top.tw5889316905344633881 : True := trivial
theorem top.tw5915399644114372684 : True := trivial
theorem top.tw594810645892935528 : True := trivial
theorem top.tw5969682004907312646 : True := trivial
theorem top.tw5983031951866500094 : True := trivial
theorem top.tw602653604445443664 : True := trivial
theorem top.tw6042063481754889096 : True := trivial
theorem top.tw6075534854705499898 : True := trivial
theorem top.tw6124053682588569230 : True := trivial
theorem top.tw6127594578889010139 : True := trivial
theorem top.tw6187478851450931391 : True := trivial
theorem top.tw6196800358849779857 : True := trivial
theorem top.tw6203543418390704334 : True := trivial
theorem top.tw6211089042160764376 : True := trivial
theorem top.tw6240723676877644813 : True := trivial
theorem top.tw6286779285267259847 : True := trivial
theorem top.tw6292954644110606532 : True := trivial
theorem top.tw6333448901615975916 : True := trivial
theorem top.tw6370870915552960936 : True := trivial
theorem top.tw6381231289166406305 : True := trivial
theorem top.tw6383614241601562808 : True := trivial
theorem top.tw6430265229019958763 : True := trivial
theorem top.tw6438537300738474071 : True := trivial
theorem top.tw6446987485191755631 : True := trivial
theorem top.tw6448850889433096767 : True := trivial
theorem top.tw6487610083215253720 : True := trivial
theorem top.tw6491118196486620199 : True := trivial
theorem top.tw649594095290182367 : True := trivial
theorem top.tw6503730183909636620 : True := trivial
theorem top.tw6505410396798821541 : True := trivial
theorem top.tw6520327441239513222 : True := trivial
theorem top.tw6572447435987645144 : True := trivial
theorem top.tw6583040956863952856 : True := trivial
theorem top.tw661290744650703789 : True := trivial
theorem top.tw6623532728838073528 : True := trivial
theorem top.tw6624316729101989866 : True := trivial
theorem top.tw6659320528611288953 : True := trivial
theorem top.tw6662652255960138227 : True := trivial
theorem top.tw6664487174759623829 : True := trivial
theorem top.tw6694047246710070196 : True := trivial
theorem top.tw672699306608606093 : True := trivial
theorem top.tw6746510453823603384 : True := trivial
theorem top.tw6749217079512962374 : True := trivial
theorem top.tw6756868429301003459 : True := trivial
theorem top.tw677510077624354748 : True := trivial
theorem top.tw6786057226368545225 : True := trivial
theorem top.tw6812286434817487243 : True := trivial
theorem top.tw681777741448182936 : True := trivial
theorem top.tw6859976401760118174 : True := trivial
theorem top.tw6883741973766446791 : True := trivial
theorem top.tw6885214360128481674 : True := trivial
theorem top.tw6893477703608230032 : True := trivial
theorem top.tw6898770573198911631 : True := trivial
theorem top.tw6906291655842520137 : True := trivial
theorem top.tw6908635100366463001 : True := trivial
theorem top.tw6912233166142098652 : True := trivial
theorem top.tw6919701780365589675 : True := trivial
theorem top.tw6973401727384321114 : True := trivial
theorem top.tw7008692893051332821 : True := trivial
theorem top.tw7033079012710635876 : True := trivial
theorem top.tw705360758644809490 : True := trivial
theorem top.tw7059692629156357883 : True := trivial
theorem top.tw7079599612431449588 : True := trivial
theorem top.tw708234853630380328 : True := trivial
theorem top.tw7160873610591055699 : True := trivial
theorem top.tw7198060816514059695 : True := trivial
theorem top.tw7204493036743257322 : True := trivial
theorem top.tw7204998973626084599 : True := trivial
theorem top.tw7213333562754528385 : True := trivial
theorem top.tw7215319984434753242 : True := trivial
theorem top.tw72247145696351765 : True := trivial
theorem top.tw7250933059871147345 : True := trivial
theorem top.tw7273676953221729872 : True := trivial
theorem top.tw729201693064108563 : True := trivial
theorem top.tw7386116660499605909 : True := trivial
theorem top.tw7458633546980236471 : True := trivial
theorem top.tw7527032243904285869 : True := trivial
theorem top.tw7538252964068480738 : True := trivial
theorem top.tw7587601194962177611 : True := trivial
theorem top.tw7600245330811189008 : True := trivial
theorem top.tw76412952228603488 : True := trivial
theorem top.tw7657828476027519975 : True := trivial
theorem top.tw7671549972530922468 : True := trivial
theorem top.tw7673058066778466091 : True := trivial
theorem top.tw7681529838311687354 : True := trivial
theorem top.tw7715697345341360870 : True := trivial
theorem top.tw7717162694582976202 : True := trivial
theorem top.tw7743179893348639699 : True := trivial
theorem top.tw7744093853086628109 : True := trivial
theorem top.tw775762912060472103 : True := trivial
theorem top.tw7761843605638006849 : True := trivial
theorem top.tw7829887443442302667 : True := trivial
theorem top.tw7830913209206220567 : True := trivial
theorem top.tw7847352863974893604 : True := trivial
theorem top.tw7847650389618582240 : True := trivial
theorem top.tw7855079511596107753 : True := trivial
theorem top.tw788273225186049534 : True := trivial
theorem top.tw7913636548009798097 : True := trivial
theorem top.tw795583310449317561 : True := trivial
theorem top.tw7973188991228987537 : True := trivial
theorem top.tw8043003576528973991 : True := trivial
theorem top.tw8054331753737935190 : True := trivial
theorem top.tw8107780213005350392 : True := trivial
theorem top.tw8139039716903228087 : True := trivial
theorem top.tw814325599930780420 : True := trivial
theorem top.tw8143265674769528471 : True := trivial
theorem top.tw8148004212497801138 : True := trivial
theorem top.tw81815255157605957 : True := trivial
theorem top.tw8184561461823581802 : True := trivial
theorem top.tw8204474986945543665 : True := trivial
theorem top.tw8265191368974092141 : True := trivial
theorem top.tw8265311939077410998 : True := trivial
theorem top.tw8281120267493503204 : True := trivial
theorem top.tw8297286125493194097 : True := trivial
theorem top.tw8311017846404947139 : True := trivial
theorem top.tw8327351992414209593 : True := trivial
theorem top.tw83393220934416808 : True := trivial
theorem top.tw8345894832289464959 : True := trivial
theorem top.tw8354448999615933189 : True := trivial
theorem top.tw8369368087495890639 : True := trivial
theorem top.tw8393700709775954928 : True := trivial
theorem top.tw8410488445778877200 : True := trivial
theorem top.tw84136930442132756 : True := trivial
theorem top.tw8435561252592420358 : True := trivial
theorem top.tw8443935842833279946 : True := trivial
theorem top.tw8472579005086612782 : True := trivial
theorem top.tw8507776931139520737 : True := trivial
theorem top.tw8531415777343470585 : True := trivial
theorem top.tw860223938195835975 : True := trivial
theorem top.tw8622502720953521162 : True := trivial
theorem top.tw8637452081102412489 : True := trivial
theorem top.tw8640399195822439974 : True := trivial
theorem top.tw8645369167282567922 : True := trivial
theorem top.tw864819663365544661 : True := trivial
theorem top.tw8657480035899644758 : True := trivial
theorem top.tw8679839319945467846 : True := trivial
theorem top.tw8689318265317240412 : True := trivial
theorem top.tw8729362747519067210 : True := trivial
theorem top.tw8735323631387419056 : True := trivial
theorem top.tw877433047237710547 : True := trivial
theorem top.tw8800459187187324500 : True := trivial
theorem top.tw8810280945414196856 : True := trivial
theorem top.tw8813761850579938390 : True := trivial
theorem top.tw8816837023261945244 : True := trivial
theorem top.tw8817415213059835157 : True := trivial
theorem top.tw8823455108540655025 : True := trivial
theorem top.tw8874702517807110003 : True := trivial
theorem top.tw887695700811335699 : True := trivial
theorem top.tw8892184565913893157 : True := trivial
theorem top.tw8910380819239827191 : True := trivial
theorem top.tw8912170899635468890 : True := trivial
theorem top.tw8965418945004540065 : True := trivial
theorem top.tw8968299171318014206 : True := trivial
theorem top.tw8974921116410688616 : True := trivial
theorem top.tw9016798869158615873 : True := trivial
theorem top.tw9059832203979395877 : True := trivial
theorem top.tw9063741608606530840 : True := trivial
theorem top.tw908825868028484722 : True := trivial
theorem top.tw9165953624949470791 : True := trivial
theorem top.tw9178861053002065721 : True := trivial
theorem top.tw9195894827357321740 : True := trivial
theorem top.tw9227541089923242437 : True := trivial
theorem top.tw9229161468869434483 : True := trivial
theorem top.tw9233335307524088747 : True := trivial
theorem top.tw9233715247699887402 : True := trivial
theorem top.tw9238823003894178615 : True := trivial
theorem top.tw9259421805112917234 : True := trivial
theorem top.tw9272544492142499777 : True := trivial
theorem top.tw9305691244287143441 : True := trivial
theorem top.tw9326722878772556681 : True := trivial
theorem top.tw9328819404386307858 : True := trivial
theorem top.tw9335426496214029073 : True := trivial
theorem top.tw9361663168868926718 : True := trivial
theorem top.tw9366391650621772374 : True := trivial
theorem top.tw9378254376102152143 : True := trivial
theorem top.tw9382581127745807760 : True := trivial
theorem top.tw9403446381161628825 : True := trivial
theorem top.tw9407396174263392564 : True := trivial
theorem top.tw9442318146202087700 : True := trivial
theorem top.tw9503340733035011235 : True := trivial
theorem top.tw9516688046558066552 : True := trivial
theorem top.tw953821971998124167 : True := trivial
theorem top.tw956089473029861405 : True := trivial
theorem top.tw956942650209027819 : True := trivial
theorem top.tw9576743257966636567 : True := trivial
theorem top.tw9589608677651300831 : True := trivial
theorem top.tw9590735534726013551 : True := trivial
theorem top.tw9601329371697537090 : True := trivial
theorem top.tw9614876229902214918 : True := trivial
theorem top.tw9631074621892390191 : True := trivial
theorem top.tw9673933992889287130 : True := trivial
theorem top.tw9685713192446186341 : True := trivial
theorem top.tw9739860059890490050 : True := trivial
theorem top.tw9743097575036673082 : True := trivial
theorem top.tw9759319705405543751 : True := trivial
theorem top.tw9768079942903668216 : True := trivial
theorem top.tw9800703332001039478 : True := trivial
theorem top.tw9843447840031818808 : True := trivial
theorem top.tw984902984118615328 : True := trivial
theorem top.tw9851269098105209369 : True := trivial
theorem top.tw9854310039474760501 : True := trivial
theorem top.tw9859876126280508607 : True := trivial
theorem top.tw987869383939708018 : True := trivial
theorem top.tw9913501989792142831 : True := trivial
theorem top.tw9919435345466941130 : True := trivial
theorem top.tw9951221954081769418 : True := trivial
theorem top.tw9953747333497923681 : True := trivial
theorem top.tw9961057766049560675 : True := trivial
theorem top.tw9962302188120564619 : True := trivial
theorem top.tw9990226795618131978 : True := trivial
theorem dup {A G : Prop} (_h : A) (_hc : A) (main : G) : G := main
set_option Elab.async true in
theorem top : True := trivial
where
  pack : { T : Prop // T → PySem.Challenge.rw_xw0229_01.Holds } := ⟨_, fun h => by
    refine dup h ?hc ?main
    case main =>
      w_on
      o_law
      k_head
      case hw => w_witness2
    exact h⟩
local macro_rules | `(tactic| walk_at $s:str) => do
  let t := Lean.Syntax.mkStrLit ("@" ++ s.getString)
  `(tactic| k_extra $t)
theorem fill (P : Params) : PySem.Challenge.rw_xw0229_01.Holds → top.heap_1_39 P = top.heap_1_39 P := by
  w_top off
  k_fill
  intro _; rfl
abbrev Lst := List (Addr × Obj)
abbrev src (x y : Int) (tx ty : Tok) (n : Nat) : Obj := { cls := .type "list", data := .seq #[.int x tx, .int y ty] n }
/-- the pool's two ints -/
structure PoolOk (x y : Int) : Prop where
  x0 : 0 ≤ x
  y0 : 0 ≤ y
  y1 : y < 2147483647
/-- what a call makes lies apart from what stood -/
def Far (tl rest : Lst) : Prop := ∀ q ∈ tl, ∀ e ∈ rest, e.1 ≠ q.1
theorem Far.ne {tl rest : Lst} (h : Far tl rest) {d : Addr} {o : Obj} (hm : (d, o) ∈ rest) : ∀ q ∈ tl, q.1 ≠ d := fun q hq e => h q hq _ hm e.symm
theorem Far.nil {rest : Lst} : Far [] rest := fun _ h => nomatch h
theorem Far.cons {tl rest : Lst} {q : Addr × Obj} (h : ∀ e ∈ rest, e.1 ≠ q.1) (k : Far tl rest) : Far (q :: tl) rest := fun p hp e he => by
  rcases List.mem_cons.mp hp with rfl | hp
  · exact h e he
  · exact k p hp e he
theorem Far.append {tl tl' rest : Lst} (h : Far tl rest) (k : Far tl' rest) : Far (tl ++ tl') rest := fun p hp => (List.mem_append.mp hp).elim (h p) (k p)
theorem Far.sub {tl rest rest' : Lst} (h : Far tl rest) (k : ∀ p ∈ rest', p ∈ rest) : Far tl rest' := fun p hp e he => h p hp e (k e he)
theorem mem_via {q : Addr × Obj} {l l' : Lst} (h : q ∈ l) (hs : ∀ p ∈ l, p ∈ l') : q ∈ l' := hs q h
theorem all_sub {l l' : Lst} {d : Addr} (h : ∀ p ∈ l, p.1 ≠ d) (hs : ∀ p ∈ l', p ∈ l) : ∀ p ∈ l', p.1 ≠ d := fun p hp => h p (hs p hp)
theorem off3_1 {I C D : Addr} {l l' : Lst} (h : LCg.Off3 I C D l) (hs : ∀ p ∈ l', p ∈ l) : ∀ p ∈ l', p.1 ≠ I := fun p hp => (h.mem p (hs p hp)).1
theorem off3_2 {I C D : Addr} {l l' : Lst} (h : LCg.Off3 I C D l) (hs : ∀ p ∈ l', p ∈ l) : ∀ p ∈ l', p.1 ≠ C := fun p hp => (h.mem p (hs p hp)).2.1
theorem off3_3 {I C D : Addr} {l l' : Lst} (h : LCg.Off3 I C D l) (hs : ∀ p ∈ l', p ∈ l) : ∀ p ∈ l', p.1 ≠ D := fun p hp => (h.mem p (hs p hp)).2.2
theorem off1_all {D : Addr} : ∀ {l : Lst}, LCg.Off1 D l → ∀ p ∈ l, p.1 ≠ D
  | [], _, _, h => nomatch h
  | _ :: _, x, p, h => by
    rcases List.mem_cons.mp h with rfl | h
    · exact x.1
    · exact off1_all x.2 p h
theorem off3_e1 {I C D d : Addr} {o : Obj} {l : Lst} (h : LCg.Off3 I C D l) (hm : (d, o) ∈ l) : @Ne Nat d I := (h.mem _ hm).1
theorem off3_e2 {I C D d : Addr} {o : Obj} {l : Lst} (h : LCg.Off3 I C D l) (hm : (d, o) ∈ l) : @Ne Nat d C := (h.mem _ hm).2.1
theorem off3_e3 {I C D d : Addr} {o : Obj} {l : Lst} (h : LCg.Off3 I C D l) (hm : (d, o) ∈ l) : @Ne Nat d D := (h.mem _ hm).2.2
theorem at_ne {D d : Addr} {o : Obj} {l : Lst} (h : ∀ p ∈ l, p.1 ≠ D) (hm : (d, o) ∈ l) : @Ne Nat d D := h _ hm
structure Ne3 (I C D : Addr) : Prop where
  a : @Ne Nat I C
  b : @Ne Nat I D
  c : @Ne Nat C D
theorem ne3_of {I C D : Addr} (h : (@Ne Nat I C) ∧ (@Ne Nat I D) ∧ (@Ne Nat C D)) : Ne3 I C D := ⟨h.1, h.2.1, h.2.2⟩
theorem off3_of {I C D : Addr} {l : Lst} (h1 : ∀ p ∈ l, p.1 ≠ I) (h2 : ∀ p ∈ l, p.1 ≠ C) (h3 : ∀ p ∈ l, p.1 ≠ D) : LCg.Off3 I C D l := LCg.Off3.of fun p hp => ⟨h1 p hp, h2 p hp, h3 p hp⟩
theorem allLt_app {d : Addr} : ∀ {a b : Lst}, AllLt d a → AllLt d b → AllLt d (a ++ b)
  | [], _, _, h => h
  | _ :: _, _, h, k => ⟨h.1, allLt_app h.2 k⟩
theorem allLt_appR {d : Addr} : ∀ {a b : Lst}, AllLt d (a ++ b) → AllLt d b
  | [], _, h => h
  | _ :: _, _, h => allLt_appR h.2
theorem allLt_appL {d : Addr} : ∀ {a b : Lst}, AllLt d (a ++ b) → AllLt d a
  | [], _, _ => trivial
  | _ :: _, _, h => ⟨h.1, allLt_appL h.2⟩

theorem allLt_mem {d : Addr} : ∀ {l : Lst}, AllLt d l → ∀ q ∈ l, @LT.lt Nat _ q.1 d
  | [], _, _, h => nomatch h
  | _ :: _, x, q, h => by
    rcases List.mem_cons.mp h with rfl | h
    · exact x.1
    · exact allLt_mem x.2 q h
theorem ltneA {a b : Addr} {o : Obj} {led : Lst} (h : AllLt a led) (hm : (b, o) ∈ led) : @Ne Nat a b := Ne.symm (Nat.ne_of_lt (allLt_mem h _ hm))
theorem ltneB {a b d : Addr} {o : Obj} {led : Lst} (l : @LT.lt Nat _ d a) (h : AllLt d led) (hm : (b, o) ∈ led) : @Ne Nat a b := Ne.symm (Nat.ne_of_lt (Nat.lt_trans (allLt_mem h _ hm) l))
theorem allLt_ne {d : Addr} {led tl : Lst} (h : AllLt d led) (hs : ∀ q ∈ tl, q ∈ led) : ∀ q ∈ tl, q.1 ≠ d := fun q hq => Nat.ne_of_lt (allLt_mem h q (hs q hq))
theorem allLt_ne2 {d x : Addr} {led tl : Lst} (l : @LT.lt Nat _ d x) (h : AllLt d led) (hs : ∀ q ∈ tl, q ∈ led) : ∀ q ∈ tl, q.1 ≠ x := fun q hq => Nat.ne_of_lt (Nat.lt_trans (allLt_mem h q (hs q hq)) l)
theorem Far.consL {tl rest led : Lst} {q : Addr × Obj} (h : AllLt q.1 led) (hs : ∀ e ∈ rest, e ∈ led) (k : Far tl rest) : Far (q :: tl) rest := .cons (fun e he => Nat.ne_of_lt (allLt_mem h e (hs e he))) k
theorem allLt_add {d k : Nat} : ∀ {l : Lst}, AllLt d l → AllLt (d + k) l
  | [], _ => trivial
  | _ :: _, h => ⟨Nat.lt_of_lt_of_le h.1 (Nat.le_add_right _ _), allLt_add h.2⟩
/-- one entry taken out of a ledger -/
inductive Pull (pa : Addr) (o : Obj) : Lst → Lst → Prop
  | head {r} : Pull pa o ((pa, o) :: r) r
  | tail {e r r'} : Pull pa o r r' → Pull pa o (e :: r) (e :: r')
  | app {t r r'} : Pull pa o r r' → Pull pa o (t ++ r) (t ++ r')
theorem Pull.sub {pa : Addr} {o : Obj} {l r : Lst} (h : Pull pa o l r) : ∀ p ∈ (pa, o) :: r, p ∈ l := by
  induction h with
  | head => exact fun _ h => h
  | tail _ ih =>
    intro p hp
    rcases List.mem_cons.mp hp with rfl | hp
    · exact .tail _ (ih _ (.head _))
    · rcases List.mem_cons.mp hp with rfl | hp
      · exact .head _
      · exact .tail _ (ih _ (.tail _ hp))
  | app _ ih =>
    intro p hp
    rcases List.mem_cons.mp hp with rfl | hp
    · exact List.mem_append.mpr (.inr (ih _ (.head _)))
    · rcases List.mem_append.mp hp with hp | hp
      · exact List.mem_append.mpr (.inl hp)
      · exact List.mem_append.mpr (.inr (ih _ (.tail _ hp)))
theorem compEnd_of {h₀ : Heap} {L I C D : Addr} {m : Str → Option Value} {s₁ : Shared} {oI oC oD : Obj} {S : Lst → Prop} {rest : Value → Lst → Prop} {y : Value} {h' : Heap} {tk : Nat} {all r1 r2 news' : Lst}
    (F : Fr h₀ L h' m) (N : News h₀ L h' all) (p1 : Pull I oI all r1) (p2 : Pull C oC r1 r2) (p3 : Pull D oD r2 news') (off : LCg.Off3 I C D news') (hS : S news') (r : rest y news') :
    LCg.CompEnd h₀ L m s₁ I oI C oC D oD S rest y { s₁ with heap := h', toks := tk } :=
  LCg.CompEnd.intro F N news' (fun p hp => by
    rcases List.mem_cons.mp hp with rfl | hp
    · exact p1.sub _ (.head _)
    · rcases List.mem_cons.mp hp with rfl | hp
      · exact p1.sub _ (.tail _ (p2.sub _ (.head _)))
      · rcases List.mem_cons.mp hp with rfl | hp
        · exact p1.sub _ (.tail _ (p2.sub _ (.tail _ (p3.sub _ (.head _)))))
        · exact p1.sub _ (.tail _ (p2.sub _ (.tail _ (p3.sub _ (.tail _ hp)))))) off hS r
/-- what a call made goes behind the written head -/
inductive Sift (tl : Lst) : Lst → Lst → Prop
  | stop {r} : Sift tl r (tl ++ r)
  | step {e r o} : Sift tl r o → Sift tl (e :: r) (e :: o)
theorem Sift.sub {tl r o : Lst} (h : Sift tl r o) : ∀ p ∈ o, p ∈ tl ++ r := by
  induction h with
  | stop => exact fun _ h => h
  | step _ ih =>
    intro p hp
    rcases List.mem_cons.mp hp with rfl | hp
    · exact List.mem_append.mpr (.inr (.head _))
    · exact (List.mem_append.mp (ih p hp)).elim (fun h => List.mem_append.mpr (.inl h)) fun h => List.mem_append.mpr (.inr (.tail _ h))

section
variable (prog : Program) (w : World) (p : Program) (loose : List Str) (mean : ExcName → Option Value) (mg mb : Str → Option Value)
/-- a call that may turn the pool, reads `nw`, makes new things -/
def PoolC (D : Nat) (f : Addr) (vs : Addr → List Value) (nw : Lst) (Out : Lst → Value → Prop) : Prop :=
  ∀ (dp un : Nat) (gd : Option (List Code)) (cn : Str) (cs : Scope) (a : Addr) (ccd : Value) (cl : List (Str × Addr)) (outer : List Env) (A₀ : Around) (base h₀ : Heap) (L : Addr) (m : Str → Option Value) (news : Lst) (s : Shared)
    (pa : Addr) (x y : Int) (tx ty : Tok) (n : Nat) (Q E : Value → Shared → Prop),
    Below A₀ base outer h₀ → Fr h₀ L s.heap m → (top.heap_1_39 w.params).In h₀ → News h₀ L s.heap ((pa, src x y tx ty n) :: news) → (∀ q ∈ news, q.1 ≠ pa) → Top p loose mean mg mb h₀ → cs.kind = .function →
    PoolOk x y → dp < D → un < 5 * D → (∀ q ∈ nw, q ∈ news) →
    (∀ r tl x' y' tx' ty' n' h' tk', PoolOk x' y' → Fr h₀ L h' m → News h₀ L h' ((pa, src x' y' tx' ty' n') :: (tl ++ news)) → (∀ q ∈ tl, q.1 ≠ pa) → Far tl news → Out (tl ++ nw) r → Q r { s with heap := h', toks := tk' }) →
    wpAny (model prog w) (ktrTop dp un gd cn cs L a ccd cl outer) (call (.ref f) (vs pa)) Q E s
/-- a call that reads `nw`, makes new things -/
def ReadC (D : Nat) (f : Addr) (vs : List Value) (nw : Lst) (Out : Lst → Value → Prop) : Prop :=
  ∀ (dp un : Nat) (gd : Option (List Code)) (cn : Str) (cs : Scope) (a : Addr) (ccd : Value) (cl : List (Str × Addr)) (outer : List Env) (A₀ : Around) (base h₀ : Heap) (L : Addr) (m : Str → Option Value) (news : Lst) (s : Shared)
    (Q E : Value → Shared → Prop),
    Below A₀ base outer h₀ → Fr h₀ L s.heap m → (top.heap_1_39 w.params).In h₀ → News h₀ L s.heap news → Top p loose mean mg mb h₀ → cs.kind = .function →
    dp < D → un < 5 * D → (∀ q ∈ nw, q ∈ news) →
    (∀ r tl h' tk', Fr h₀ L h' m → News h₀ L h' (tl ++ news) → Far tl news → Out (tl ++ nw) r → Q r { s with heap := h', toks := tk' }) →
    wpAny (model prog w) (ktrTop dp un gd cn cs L a ccd cl outer) (call (.ref f) vs) Q E s
end
section
variable {prog : Program} {w : World} {p : Program} {loose : List Str} {mean : ExcName → Option Value} {mg mb : Str → Option Value}
theorem PoolC.use {D : Nat} {f : Addr} {vs : Addr → List Value} {nw : Lst} {Out : Lst → Value → Prop} {dp un : Nat} {gd : Option (List Code)} {cn : Str} {cs : Scope} {a : Addr} {ccd : Value} {cl : List (Str × Addr)} {outer : List Env} {A₀ : Around} {base h₀ : Heap} {L : Addr} {m : Str → Option Value} {led rest : Lst} {out : Lst → Lst} {hp₀ : Heap} {gs₀ : Array GenState} {dr₀ : Drawn} {tk₀ : Nat} {os₀ : OsState}
    {pa : Addr} {x y : Int} {tx ty : Tok} {n : Nat} {Q E : Value → Shared → Prop} (C : PoolC prog w p loose mean mg mb D f vs nw Out)
    (B : Below A₀ base outer h₀) (F : Fr h₀ L hp₀ m) (X : (top.heap_1_39 w.params).In h₀) (N : News h₀ L hp₀ led) (hp : Pull pa (src x y tx ty n) led rest) (ha : ∀ q ∈ rest, q.1 ≠ pa) (T : Top p loose mean mg mb h₀) (hk : cs.kind = .function)
    (ok : PoolOk x y) (hdp : dp < D) (hun : un < 5 * D) (hn : ∀ q ∈ nw, q ∈ rest) (hs : ∀ tl, Sift tl rest (out tl))
    (ret : ∀ r tl x' y' tx' ty' n' h' tk', PoolOk x' y' → Fr h₀ L h' m → News h₀ L h' ((pa, src x' y' tx' ty' n') :: out tl) → (∀ q ∈ tl, q.1 ≠ pa) → Far tl rest → Out (tl ++ nw) r → Q r ⟨h', gs₀, dr₀, tk', os₀⟩) :
    wpAny (model prog w) (ktrTop dp un gd cn cs L a ccd cl outer) (call (.ref f) (vs pa)) Q E ⟨hp₀, gs₀, dr₀, tk₀, os₀⟩ :=
  C _ _ _ _ _ _ _ _ _ _ _ _ _ _ _ _ _ _ _ _ _ _ _ _ B F X (fun q hq => N q (hp.sub q hq)) ha T hk ok hdp hun hn fun r tl x' y' tx' ty' n' h' tk' o F' N' a' f' r' =>
    ret r tl x' y' tx' ty' n' h' tk' o F' (fun q hq => N' q (by
      rcases List.mem_cons.mp hq with rfl | hq
      · exact .head _
      · exact .tail _ ((hs tl).sub q hq))) a' f' r'
theorem ReadC.use {D : Nat} {f : Addr} {vs : List Value} {nw : Lst} {Out : Lst → Value → Prop} {dp un : Nat} {gd : Option (List Code)} {cn : Str} {cs : Scope} {a : Addr} {ccd : Value} {cl : List (Str × Addr)} {outer : List Env} {A₀ : Around} {base h₀ : Heap} {L : Addr} {m : Str → Option Value} {led : Lst} {out : Lst → Lst} {hp₀ : Heap} {gs₀ : Array GenState} {dr₀ : Drawn} {tk₀ : Nat} {os₀ : OsState}
    {Q E : Value → Shared → Prop} (C : ReadC prog w p loose mean mg mb D f vs nw Out)
    (B : Below A₀ base outer h₀) (F : Fr h₀ L hp₀ m) (X : (top.heap_1_39 w.params).In h₀) (N : News h₀ L hp₀ led) (T : Top p loose mean mg mb h₀) (hk : cs.kind = .function)
    (hdp : dp < D) (hun : un < 5 * D) (hn : ∀ q ∈ nw, q ∈ led) (hs : ∀ tl, Sift tl led (out tl))
    (ret : ∀ r tl h' tk', Fr h₀ L h' m → News h₀ L h' (out tl) → Far tl led → Out (tl ++ nw) r → Q r ⟨h', gs₀, dr₀, tk', os₀⟩) :
    wpAny (model prog w) (ktrTop dp un gd cn cs L a ccd cl outer) (call (.ref f) vs) Q E ⟨hp₀, gs₀, dr₀, tk₀, os₀⟩ :=
  C _ _ _ _ _ _ _ _ _ _ _ _ _ _ _ _ _ _ B F X N T hk hdp hun hn fun r tl h' tk' F' N' f' r' =>
    ret r tl h' tk' F' (fun q hq => N' q ((hs tl).sub q hq)) f' r'
end

theorem sub_nil {led : Lst} : ∀ p ∈ ([] : Lst), p ∈ led := fun _ h => nomatch h
theorem sub_cons {q : Addr × Obj} {l led : Lst} (h : q ∈ led) (k : ∀ p ∈ l, p ∈ led) : ∀ p ∈ q :: l, p ∈ led := List.forall_mem_cons.mpr ⟨h, k⟩
theorem sub_app {l l' led : Lst} (h : ∀ p ∈ l, p ∈ led) (k : ∀ p ∈ l', p ∈ led) : ∀ p ∈ l ++ l', p ∈ led := List.forall_mem_append.mpr ⟨h, k⟩
theorem sub_tail {q : Addr × Obj} {l led : Lst} (h : ∀ p ∈ l, p ∈ led) : ∀ p ∈ l, p ∈ q :: led := fun p hp => .tail _ (h p hp)
theorem sub_right {t l led : Lst} (h : ∀ p ∈ l, p ∈ led) : ∀ p ∈ l, p ∈ t ++ led := fun p hp => List.mem_append_right _ (h p hp)
theorem sub_left {t l led : Lst} (h : ∀ p ∈ l, p ∈ t) : ∀ p ∈ l, p ∈ t ++ led := fun p hp => List.mem_append_left _ (h p hp)
theorem sub_refl {l : Lst} : ∀ p ∈ l, p ∈ l := fun _ h => h
theorem off_nil {d : Addr} : ∀ p ∈ ([] : Lst), p.1 ≠ d := fun _ h => nomatch h
theorem off_cons {a d : Addr} {o : Obj} {l : Lst} (h : @Ne Nat a d) (k : ∀ p ∈ l, p.1 ≠ d) : ∀ p ∈ (a, o) :: l, p.1 ≠ d := List.forall_mem_cons.mpr ⟨h, k⟩
theorem off_app {d : Addr} {l l' : Lst} (h : ∀ p ∈ l, p.1 ≠ d) (k : ∀ p ∈ l', p.1 ≠ d) : ∀ p ∈ l ++ l', p.1 ≠ d := List.forall_mem_append.mpr ⟨h, k⟩
theorem mem_right {q : Addr × Obj} {t l : Lst} (h : q ∈ l) : q ∈ t ++ l := List.mem_append_right _ h
theorem mem_left {q : Addr × Obj} {t l : Lst} (h : q ∈ t) : q ∈ t ++ l := List.mem_append_left _ h
theorem roomN {d a k b : Nat} (h : d < a) (hk : Nat.ble (a + k) b = true) : d + k < b := Nat.lt_of_lt_of_le (Nat.add_lt_add_right h k) (Nat.le_of_ble_eq_true hk)
theorem roomZ {d a c b : Nat} (h : d < a - c) (hk : Nat.ble a b = true) : d < b := Nat.lt_of_lt_of_le h (Nat.le_trans (Nat.sub_le a c) (Nat.le_of_ble_eq_true hk))
theorem roomL {d a x y : Nat} (h : d < a - (max x y + 1)) : d + 1 < a - x := by omega
theorem roomR {d a x y : Nat} (h : d < a - (max x y + 1)) : d + 1 < a - y := by omega
theorem roomLU {d a x y : Nat} (h : d < 5 * (a - (max x y + 1))) : d + 3 < 5 * (a - x) := by omega
theorem roomRU {d a x y : Nat} (h : d < 5 * (a - (max x y + 1))) : d + 3 < 5 * (a - y) := by omega
theorem roomS {d a c k b : Nat} (h : d < a - c) (hk : Nat.ble (a + k) b = true) : d + k < b := roomN (Nat.lt_of_lt_of_le h (Nat.sub_le a c)) hk
theorem roomSU {d a c k b : Nat} (h : d < 5 * (a - c)) (hk : Nat.ble (5 * a + k) b = true) : d + k < b := roomN (Nat.lt_of_lt_of_le h (Nat.mul_le_mul_left 5 (Nat.sub_le a c))) hk
theorem roomN2 {d a k l b : Nat} (h : d < a) (hk : Nat.ble (a + k + l) b = true) : d + k + l < b := roomN (roomN h (Nat.ble_eq_true_of_le (Nat.le_refl (a + k)))) hk
theorem allLt_iff {d : Addr} {a b : Lst} : AllLt d (a ++ b) ↔ (AllLt d a ∧ AllLt d b) := ⟨fun h => ⟨allLt_appL h, allLt_appR h⟩, fun h => allLt_app h.1 h.2⟩
def TbD (d : Dat) : Prop := d = .none ∨ d = .str (Str.ofString "t")
theorem pick_tb {prog : Program} {w : World} {A : Around} {E : Value → Shared → Prop} {s : Shared} {value slice : PySem.Expr} {l : Addr} {k : Int} {u t0 : Tok} {Q : Value → Shared → Prop} (hl : s.heap.IsList l [Value.none, .str (Str.ofString "t") t0].toArray) (h0 : 0 ≤ k) (h2 : k < 2)
    (h : ∀ v d, DatIn [] v d → TbD d → Q v s) (hs : subscripted slice false (.ref l) (.int k u) = operate [.ref l, .int k u] (getItem (.ref l) (.int k u)) := by with_unfolding_all rfl) :
    wpAny (model prog w) A (subscriptTail value slice (.ref l) (.int k u)) Q E s := by
  rcases (by omega : k = 0 ∨ k = 1) with rfl | rfl
  · exact item_litK hl (by decide) (by decide) rfl (h _ _ DatIn.none (.inl rfl)) hs
  · exact item_litK hl (by decide) (by decide) rfl (h _ _ (DatIn.str _ _) (.inr rfl)) hs
inductive Ex
  | lit (v : Int)
  | name (tb : Dat) (c : Str) (num pl : Int)
  | bin (op : Str) (l r : Ex)
  | scal (e : Ex)
abbrev ent (P : Params) (k : Str) (t : Tok) (v : Value) : DictEntry := ⟨PyData.keyHash P k, .str k t, v⟩
/-- a tree of the program's nodes, as the ledger bears it -/
inductive ExprAt (P : Params) (nw : Lst) : Value → Ex → Prop
  | lit {x dx : Addr} {v : Int} {tv t1 : Tok} {n : Nat} : (x, instObj 122 dx) ∈ nw → (dx, dictOf [ent P (Str.ofString "value") t1 (.int v tv)] n) ∈ nw → ExprAt P nw (.ref x) (.lit v)
  | name {x dx : Addr} {tv : Value} {td : Dat} {c : Str} {num pl : Int} {t1 t2 t3 t4 t5 tc tn tp t0 : Tok} {n : Nat} : (x, instObj 148 dx) ∈ nw →
      (dx, dictOf [ent P (Str.ofString "table") t1 tv, ent P (Str.ofString "column") t2 (.str c tc), ent P (Str.ofString "source") t3 (.int num tn), ent P (Str.ofString "place") t4 (.int pl tp), ent P (Str.ofString "depth") t5 (.int 0 t0)] n) ∈ nw →
      DatIn nw tv td → TbD td → PyData.strOk c = true → ExprAt P nw (.ref x) (.name td c num pl)
  | bin {x dx : Addr} {lv rv : Value} {op : Str} {l r : Ex} {t1 t2 t3 tp : Tok} {n : Nat} : (x, instObj 200 dx) ∈ nw →
      (dx, dictOf [ent P (Str.ofString "op") t1 (.str op tp), ent P (Str.ofString "left") t2 lv, ent P (Str.ofString "right") t3 rv] n) ∈ nw → PyData.strOk op = true → ExprAt P nw lv l → ExprAt P nw rv r → ExprAt P nw (.ref x) (.bin op l r)
  | scal {x dx : Addr} {v : Value} {e : Ex} {t1 : Tok} {n : Nat} : (x, instObj 330 dx) ∈ nw → (dx, dictOf [ent P (Str.ofString "select") t1 v] n) ∈ nw → ExprAt P nw v e → ExprAt P nw (.ref x) (.scal e)
theorem ExprAt.mono {P : Params} {nw nw' : Lst} {v : Value} {e : Ex} (h : ExprAt P nw v e) (hs : ∀ p ∈ nw, p ∈ nw') : ExprAt P nw' v e := by
  induction h with
  | lit a b => exact .lit (hs _ a) (hs _ b)
  | name a b c d e => exact .name (hs _ a) (hs _ b) (c.mono hs) d e
  | bin a b o _ _ ih1 ih2 => exact .bin (hs _ a) (hs _ b) o ih1 ih2
  | scal a b _ ih => exact .scal (hs _ a) (hs _ b) ih
theorem ExprAt.ref {P : Params} {nw : Lst} {v : Value} {e : Ex} (h : ExprAt P nw v e) : ∃ a, v = .ref a := by cases h <;> exact ⟨_, rfl⟩
/-- the terms that the law draws, with the trees beside them -/
inductive Plain : Ex → Dat → Prop
  | lit (v : Int) : Plain (.lit v) (.tuple [.str (Str.ofString "literal"), .int v])
  | name {tb : Dat} {c : Str} (n p : Int) : TbD tb → PyData.strOk c = true → Plain (.name tb c n p) (.tuple [.str (Str.ofString "name"), tb, .str c, .int n, .int p])
  | sum {tb : Dat} {c : Str} (n p : Int) : TbD tb → PyData.strOk c = true → Plain (.bin (Str.ofString "+") (.name tb c n p) (.lit 1)) (.tuple [.str (Str.ofString "sum"), tb, .str c, .int n, .int p])
/-- an item [node, tree] -/
def ItemAt (P : Params) (nw : Lst) (r : Value) (e : Ex) (d : Dat) : Prop := ∃ (a : Addr) (vn vt : Value) (n : Nat), r = .ref a ∧ (a, listOf #[vn, vt] n) ∈ nw ∧ ExprAt P nw vn e ∧ DatIn nw vt d ∧ Plain e d
theorem ItemAt.mono {P : Params} {nw nw' : Lst} {r : Value} {e : Ex} {d : Dat} (h : ItemAt P nw r e d) (hs : ∀ p ∈ nw, p ∈ nw') : ItemAt P nw' r e d := by
  obtain ⟨a, vn, vt, n, h1, h2, h3, h4, h5⟩ := h
  exact ⟨a, vn, vt, n, h1, hs _ h2, h3.mono hs, h4.mono hs, h5⟩
theorem ab_ok {k : Int} (h0 : 0 ≤ k) (h2 : k < 2) : PyData.strOk (Txt.item (Str.ofString "ab") k) = true := by
  rcases (by omega : k = 0 ∨ k = 1) with rfl | rfl <;> decide +kernel
/-- the ledger's end, less the pool and what stood -/
inductive Split (pa : Addr) (news : Lst) : Lst → Lst → Prop
  | done : Split pa news news []
  | pool {o r tl} : Split pa news r tl → Split pa news ((pa, o) :: r) tl
  | cons {e r tl} : Split pa news r tl → Split pa news (e :: r) (e :: tl)
  | app {t r tl} : Split pa news r tl → Split pa news (t ++ r) (t ++ tl)
theorem Split.sub {pa : Addr} {news led tl : Lst} (h : Split pa news led tl) : ∀ p ∈ tl ++ news, p ∈ led := by
  induction h with
  | done => exact fun _ h => h
  | pool _ ih => exact fun p h => .tail _ (ih p h)
  | cons _ ih =>
    intro p h
    rcases List.mem_cons.mp h with rfl | h
    · exact .head _
    · exact .tail _ (ih p h)
  | app _ ih =>
    intro p h
    rw [List.append_assoc] at h
    exact (List.mem_append.mp h).elim (fun h => List.mem_append.mpr (.inl h)) fun h => List.mem_append.mpr (.inr (ih p h))
theorem fin_pool {h₀ h : Heap} {L pa : Addr} {o : Obj} {news led tl : Lst} (N : News h₀ L h led) (hm : (pa, o) ∈ led) (hs : Split pa news led tl) : News h₀ L h ((pa, o) :: (tl ++ news)) := fun p hp => by
  rcases List.mem_cons.mp hp with rfl | hp
  · exact N _ hm
  · exact N _ (hs.sub p hp)
theorem item_mk {P : Params} {nw : Lst} {a : Addr} {vn vt : Value} {n : Nat} {e : Ex} {d : Dat} (h1 : (a, listOf #[vn, vt] n) ∈ nw) (h2 : ExprAt P nw vn e) (h3 : DatIn nw vt d) (h4 : Plain e d) : ∃ e d, ItemAt P nw (.ref a) e d := ⟨e, d, a, vn, vt, n, rfl, h1, h2, h3, h4⟩
theorem sq_ok {a b : Int} : IntMulOk (a.fmod 2147483647) b :=
  IntMulOk.of_left (PySem.intBits_le_64 (by have := fmod_lo a (n := 2147483647) (by decide); omega) (by have := fmod_hi a (n := 2147483647) (by decide); omega))

section
variable {prog : Program} {w : World} {A A₀ : Around} {s : Shared} {K : Frag} {L : Addr} {h₀ base : Heap} {m mg mb : Str → Option Value} {news : List (Addr × Obj)} {p : Program} {loose : List Str} {mean : ExcName → Option Value}
theorem enter {env : Env} {outer : List Env} {R : Result → Shared → Prop} {name qual : Str} {params : Arguments} {body : List Stmt} {scope : Scope} {dV kV doc pm cdv ct oc : Value} {an od : Option Addr} {osl : Array (Option Value)} {f : Addr} {args : Args} (binds : List (Str × Value))
    (B : Below A₀ base outer h₀) (F : Fr h₀ L s.heap m) (X₀ : K.In h₀) (N : News h₀ L s.heap news) (T : Top p loose mean mg mb h₀) (hA : A.frames = some (env :: outer)) (hf : env.frame = some L) (hke : env.scope.kind = .function)
    (ho : K.lookup f = some ⟨oc, od, .func (fnOf name qual params body scope dV kV doc pm an cdv ct), osl⟩) (hcd : codeIn K cdv qual = true) (hroom : A.depth < recursionLimit)
    (hbind : BindsTo s (fnOf name qual params body scope dV kV doc pm an cdv ct) args binds) (hloc : ∀ y ∈ binds, scope.names.lookup y.1 = some .local)
    (h : ∀ g L' h₁, Fr h₀ L g m → Fr g L' h₁ (fun y => binds.reverse.lookup y) → News g L' h₁ news → Below A base (env :: outer) g → K.In g → Top p loose mean mg mb g →
      wpAny (model prog w) (A.deeper (envOf qual scope L' f cdv)) (execs body (envOf qual scope L' f cdv))
        (fun fl s' => LeaveK h₀ L m g R (match fl with | .ret v => v | _ => .none) s')
        (fun e s' => wpAny (model prog w) (A.deeper (envOf qual scope L' f cdv)) (leaving (envOf qual scope L' f cdv) e) (fun _ s'' => R (.error e) s'') (fun e' s'' => R (.error e') s'') s')
        { s with heap := h₁, toks := s.toks + binds.length })
    (hco : scope.isCoroutine = false) (hgen : scope.isGenerator = false) (hk : scope.kind = .function)
    (hcell : ∀ x ∈ scope.names, x.2 ≠ .cell) : codeAny (model prog w) A (.call (.ref f) args) R s :=
  code_def B F X₀ N T hA hf hke ho hcd hroom hbind hloc h hco hgen hk hcell
end
/-! where a call stands: all of it as one datum, and one such datum at which a claim fails if it fails at any -/
structure Cx where
  prog : Program
  w : World
  p : Program
  loose : List Str
  mean : ExcName → Option Value
  mg : Str → Option Value
  mb : Str → Option Value
  dp : Nat
  un : Nat
  gd : Option (List Code)
  cn : Str
  cs : Scope
  a : Addr
  ccd : Value
  cl : List (Str × Addr)
  outer : List Env
  A₀ : Around
  base : Heap
  h₀ : Heap
  L : Addr
  m : Str → Option Value
  news : Lst
  s : Shared
  pa : Addr
  x : Int
  y : Int
  tx : Tok
  ty : Tok
  n : Nat
  Q : Value → Shared → Prop
  E : Value → Shared → Prop
  g' : Heap
  L' : Addr
  h' : Heap
  tk' : Nat
  o1 : Obj
  o2 : Obj
abbrev CxP := Program → World → Program → List Str → (ExcName → Option Value) → (Str → Option Value) → (Str → Option Value) → Nat → Nat → Option (List Code) → Str → Scope → Addr → Value → List (Str × Addr) → List Env → Around → Heap → Heap → Addr → (Str → Option Value) → Lst → Shared → Addr → Int → Int → Tok → Tok → Nat → (Value → Shared → Prop) → (Value → Shared → Prop) → Heap → Addr → Heap → Nat → Obj → Obj → Prop
def CxAt (P : CxP) (c : Cx) : Prop := P c.prog c.w c.p c.loose c.mean c.mg c.mb c.dp c.un c.gd c.cn c.cs c.a c.ccd c.cl c.outer c.A₀ c.base c.h₀ c.L c.m c.news c.s c.pa c.x c.y c.tx c.ty c.n c.Q c.E c.g' c.L' c.h' c.tk' c.o1 c.o2
theorem cx_any : Nonempty Cx := ⟨{ prog := default, w := ⟨fun _ _ => 0, { strHash := fun _ => 0, shareClass := fun _ => 0, mergeTok := fun t => t, idOf := fun _ => 0, idOfShared := fun _ _ => 0, followText := fun _ => false, idOfImm := fun _ => 0 }⟩, p := default, loose := default, mean := fun _ => none, mg := fun _ => none, mb := fun _ => none, dp := default, un := default, gd := default, cn := default, cs := default, a := default, ccd := default, cl := default, outer := default, A₀ := {}, base := default, h₀ := default, L := default, m := fun _ => none, news := default, s := {}, pa := default, x := default, y := default, tx := default, ty := default, n := default, Q := fun _ _ => True, E := fun _ _ => True, g' := default, L' := default, h' := default, tk' := default, o1 := default, o2 := default }⟩
theorem bad_ex (P : CxP) : Nonempty { c : Cx // CxAt P c → ∀ c', CxAt P c' } := by
  by_cases h : ∃ c, ¬ CxAt P c
  · obtain ⟨c, hc⟩ := h
    exact ⟨⟨c, fun q => absurd q hc⟩⟩
  · obtain ⟨c⟩ := cx_any
    exact ⟨⟨c, fun _ c' => Classical.byContradiction fun q => h ⟨c', q⟩⟩⟩
noncomputable def bad (P : CxP) : Cx := (Classical.choice (bad_ex P)).1
theorem of_bad {P : CxP} (h : CxAt P (bad P)) : ∀ prog w p loose mean mg mb dp un gd cn cs a ccd cl outer A₀ base h₀ L m news s pa x y tx ty n Q E g' L' h' tk' o1 o2, P prog w p loose mean mg mb dp un gd cn cs a ccd cl outer A₀ base h₀ L m news s pa x y tx ty n Q E g' L' h' tk' o1 o2 := fun prog w p loose mean mg mb dp un gd cn cs a ccd cl outer A₀ base h₀ L m news s pa x y tx ty n Q E g' L' h' tk' o1 o2 => (Classical.choice (bad_ex P)).2 h ⟨prog, w, p, loose, mean, mg, mb, dp, un, gd, cn, cs, a, ccd, cl, outer, A₀, base, h₀, L, m, news, s, pa, x, y, tx, ty, n, Q, E, g', L', h', tk', o1, o2⟩

set_option hygiene false in
local macro_rules | `(tactic| ktr_room) => `(tactic| first | exact roomN hdp rfl | exact roomN2 hdp rfl | exact hdp | exact roomS hdp rfl | exact roomZ hdp rfl | exact roomL hdp | exact roomR hdp)
set_option hygiene false in
local macro_rules | `(tactic| ktr_units) => `(tactic| first | exact roomN hun rfl | exact roomN2 hun rfl | exact hun | exact roomSU hun rfl | exact roomLU hun | exact roomRU hun)
local macro_rules | `(tactic| k_room) => `(tactic| ktr_room)
local macro_rules | `(tactic| k_units) => `(tactic| ktr_units)
local macro_rules | `(tactic| k_mem) => `(tactic| (show (_ : Addr × Obj) ∈ (_ : List (Addr × Obj)); first | ktr_member | exact mem_via (by with_reducible assumption) (by walk_at "m_sub") | ((with_reducible refine mem_right ?_); k_mem) | ((with_reducible refine mem_left ?_); k_mem)))
local macro_rules | `(tactic| k_lt $h) => `(tactic| (replace $h := allLt_of $h))
local macro_rules | `(tactic| k_ne) => `(tactic| ((try dsimp only); first
  | with_reducible assumption
  | exact Ne.symm (by with_reducible assumption)
  | exact ltneA (by with_reducible assumption) (by k_mem)
  | exact Ne.symm (ltneA (by with_reducible assumption) (by k_mem))
  | exact ltneB (by with_reducible assumption) (by with_reducible assumption) (by k_mem)
  | exact Ne.symm (ltneB (by with_reducible assumption) (by with_reducible assumption) (by k_mem))
  | (refine neN ?_; omega)
  | exact ltneA (allLt_add (by with_reducible assumption)) (by k_mem)
  | exact Ne.symm (ltneA (allLt_add (by with_reducible assumption)) (by k_mem))
  | exact at_ne (by with_reducible assumption) (by k_mem)
  | exact Ne.symm (at_ne (by with_reducible assumption) (by k_mem))
  | exact off3_e1 (by with_reducible assumption) (by k_mem)
  | exact off3_e2 (by with_reducible assumption) (by k_mem)
  | exact off3_e3 (by with_reducible assumption) (by k_mem)
  | exact Ne.symm (off3_e1 (by with_reducible assumption) (by k_mem))
  | exact Ne.symm (off3_e2 (by with_reducible assumption) (by k_mem))
  | exact Ne.symm (off3_e3 (by with_reducible assumption) (by k_mem))
  | exact Ne3.a (by with_reducible assumption) | exact Ne3.b (by with_reducible assumption) | exact Ne3.c (by with_reducible assumption)
  | exact Ne.symm (Ne3.a (by with_reducible assumption)) | exact Ne.symm (Ne3.b (by with_reducible assumption)) | exact Ne.symm (Ne3.c (by with_reducible assumption))))
set_option hygiene false in
local macro_rules | `(tactic| k_all) => `(tactic| first
  | with_reducible assumption
  | with_reducible exact off_nil
  | ((with_reducible refine off_app ?_ ?_) <;> k_all)
  | ((with_reducible refine off_cons ?_ ?_); k_ne; k_all)
  | with_reducible exact List.forall_mem_nil _
  | ((with_reducible refine List.forall_mem_append.mpr ⟨?_, ?_⟩) <;> k_all)
  | ((with_reducible refine List.forall_mem_cons.mpr ⟨?_, ?_⟩); k_ne; k_all)
  | (tbn_letter; first
    | exact Far.ne (by with_reducible assumption) (by k_mem)
    | (refine allLt_ne (by with_reducible assumption) ?_; walk_at "m_sub")
    | (refine allLt_ne2 (by with_reducible assumption) (by with_reducible assumption) ?_; walk_at "m_sub")
    | (refine allLt_ne (allLt_add (by with_reducible assumption)) ?_; walk_at "m_sub")
    | (refine off3_1 (by with_reducible assumption) ?_; walk_at "m_sub")
    | (refine off3_2 (by with_reducible assumption) ?_; walk_at "m_sub")
    | (refine off3_3 (by with_reducible assumption) ?_; walk_at "m_sub")
    | (refine all_sub (by with_reducible assumption) ?_; walk_at "m_sub")))
theorem words01_1 : True := by
  k_with "@m_pull" => first | with_reducible exact Pull.head | ((with_reducible apply Pull.tail); walk_at "m_pull") | ((with_reducible apply Pull.app); walk_at "m_pull")
  k_with "@m_sift" => first | ((with_reducible apply Sift.step); walk_at "m_sift") | with_reducible exact Sift.stop
  k_with "@m_sub" => first
      | with_reducible exact sub_nil
      | with_reducible exact sub_refl
      | with_reducible assumption
      | ((with_reducible refine sub_cons ?_ ?_); k_mem; walk_at "m_sub")
      | ((with_reducible refine sub_app ?_ ?_) <;> walk_at "m_sub")
      | ((with_reducible refine sub_tail ?_); walk_at "m_sub")
      | ((with_reducible refine sub_right ?_); walk_at "m_sub")
      | ((with_reducible refine sub_left ?_); walk_at "m_sub")
  k_with "@m_pool" => (
      (case B => k_asm); (case F => k_asm); (case X => k_asm); (case N => k_asm); (case P => walk_at "m_pull"); (case A => k_all); (case T => k_asm); (case K => first | exact rfl | assumption); (case O => with_reducible assumption);
      (case D => first | ktr_room | omega); (case U => first | ktr_units | omega); (case S => walk_at "m_sub"); (case Z => intro tl; walk_at "m_sift");
      intro r9 tl9 x9 y9 tx9 ty9 n9 h9 tk9 o9 F9 N9 a9 f9 q9)
  k_with "@m_split" => first | with_reducible exact Split.done | ((with_reducible apply Split.pool); walk_at "m_split") | ((with_reducible apply Split.cons); walk_at "m_split") | ((with_reducible apply Split.app); walk_at "m_split")
  k_with "@m_off" => ((repeat (refine Eq.trans (if_neg (by with_reducible assumption)) ?_)); rfl)
  k_with "@m_far" => first
      | with_reducible exact Far.nil
      | with_reducible assumption
      | ((with_reducible refine Far.consL (by with_reducible assumption) ?_ ?_); walk_at "m_sub"; walk_at "m_far")
      | ((with_reducible refine Far.cons ?_ ?_); k_all; walk_at "m_far")
      | ((with_reducible refine Far.append ?_ ?_) <;> walk_at "m_far")
      | (refine Far.sub (by with_reducible assumption) ?_; walk_at "m_sub")
  k_with "@CompRest" => (
      with_unfolding_all first
      | (refine LCg.CompRest.succ ?_; intro v' I' oI' C' oC' D' m' h' tk' E' hv' hC' hx' F' N' off' ne'; (first | lcg_open hv' | (obtain ⟨t9', hv9'⟩ := hv'; subst hv9')); replace ne' := ne3_of ne')
      | refine LCg.CompRest.zero ?_)
  k_with "@CompEnd" => (
      refine' compEnd_of ?mF ?mN ?mA ?mB ?mC ?mO ?mS ?_
      (case mF => k_asm); (case mN => k_asm); (case mA => walk_at "m_pull"); (case mB => walk_at "m_pull"); (case mC => walk_at "m_pull")
      (case mO => exact off3_of (by k_all) (by k_all) (by k_all)); (case mS => lcg_src))
  k_with "@FinE" => ((unfold LCg.FinE); intro D' h' tk' F' N' o1'; replace o1' := off1_all o1'; (try dsimp only))
  k_with "@FinA" => ((unfold LCg.FinA); intro D' h' tk' F' N' o1'; replace o1' := off1_all o1'; (try dsimp only))
  k_with "@m_dat" => first
      | exact DatIn.none | exact DatIn.int _ _ | exact DatIn.str _ _
      | (refine DatIn.mono ?_ (by with_reducible assumption); walk_at "m_sub")
      | ((with_reducible apply DatIn.tuple); k_mem; walk_at "m_dats")
      | ((with_reducible apply DatIn.list); k_mem; walk_at "m_dats")
  k_with "@m_dats" => first
      | exact DatAll.nil
      | ((with_reducible apply DatAll.cons); walk_at "m_dat"; walk_at "m_dats")
  k_with "@m_expr" => first
      | (refine ExprAt.mono (by with_reducible assumption) ?_; walk_at "m_sub")
      | exact ExprAt.lit (by k_mem) (by k_mem)
      | exact ExprAt.name (by k_mem) (by k_mem) (by walk_at "m_dat") (by with_reducible assumption) (by first | with_reducible assumption | exact ab_ok (by assumption) (by assumption))
      | exact ExprAt.bin (by k_mem) (by k_mem) (by first | with_reducible assumption | decide +kernel) (by walk_at "m_expr") (by walk_at "m_expr")
      | exact ExprAt.scal (by k_mem) (by k_mem) (by walk_at "m_expr")
  k_with "@binaryOp Mult int int" => (k_here; (refine mul_int ?_ ?hm); (case hm => (dsimp only [List.getD, Int.toNat, Option.getD, List.getElem?_cons_zero, List.getElem?_cons_succ]; with_reducible exact sq_ok)))
  k_with "@m_enter" => (
      (case kA => exact rfl); (case kF => exact rfl); (case kK => assumption); (case k1 => k_asm); (case k2 => k_asm); (case k3 => k_asm); (case k4 => k_asm); (case k5 => k_asm); (case k6 => k_is); (case k7 => k_is); (case k8 => ktr_room); (case k9 => first | exact BindsTo.of_eq rfl | exact binds_K (by k_in) rfl (by k_is) rfl rfl rfl); (case c5 => decide); (case kB => exact locs rfl); (case c2 => exact rfl); (case c3 => exact rfl); (case c4 => exact rfl); k_whole; intro g' L' h' FG' F' N' B' X' T'; (try dsimp only); (try k_fold))
  k_with "@m_enterE" => (
      (case kA => exact rfl); (case kF => exact rfl); (case kK => assumption); (case k1 => k_asm); (case k2 => k_asm); (case k3 => k_asm); (case k4 => k_asm); (case k5 => k_asm); (case k6 => k_is); (case k7 => k_is); (case k8 => ktr_room); (case k9 => first | exact BindsTo.of_eq rfl | exact binds_K (by k_in) rfl (by k_is) rfl rfl rfl); (case c5 => decide); (case kB => exact locs rfl); (case c2 => exact rfl); (case c3 => exact rfl); (case c4 => exact rfl); k_whole; intro g' L' h' FG' F' N' B' X' T')
  trivial
section
variable {prog : Program} {w : World} {p : Program} {loose : List Str} {mean : ExcName → Option Value} {mg mb : Str → Option Value}
theorem take_ok {tp : Int} {tt : Tok} {dp un : Nat} {gd : Option (List Code)} {cn : Str} {cs : Scope} {a : Addr} {ccd : Value} {cl : List (Str × Addr)} {outer : List Env} {A₀ : Around} {base h₀ : Heap} {L : Addr} {m : Str → Option Value} {led rest : Lst} {hp₀ : Heap} {gs₀ : Array GenState} {dr₀ : Drawn} {tk₀ : Nat} {os₀ : OsState}
    {pa : Addr} {x y : Int} {tx ty : Tok} {n : Nat} {Q E : Value → Shared → Prop} (ht : 1 ≤ tp) (ht2 : tp ≤ 8)
    (B : Below A₀ base outer h₀) (F : Fr h₀ L hp₀ m) (X : (top.heap_1_39 w.params).In h₀) (N₀ : News h₀ L hp₀ led) (hp : Pull pa (src x y tx ty n) led rest) (ha : ∀ q ∈ rest, q.1 ≠ pa) (T : Top p loose mean mg mb h₀) (hk : cs.kind = .function)
    (ok : PoolOk x y) (hdp : dp < 900) (hun : un < 5 * 900)
    (ret : ∀ r t x' y' tx' ty' n' h' tk', 0 ≤ r → r < tp → PoolOk x' y' → Fr h₀ L h' m → News h₀ L h' ((pa, src x' y' tx' ty' n') :: rest) → Q (.int r t) ⟨h', gs₀, dr₀, tk', os₀⟩) :
    wpAny (model prog w) (ktrTop dp un gd cn cs L a ccd cl outer) (call (.ref 720) [.ref pa, .int tp tt]) Q E ⟨hp₀, gs₀, dr₀, tk₀, os₀⟩ := by
  have hx := ok.x0
  have hy := ok.y0
  have hy2 := ok.y1
  have N : News h₀ L hp₀ ((pa, src x y tx ty n) :: rest) := fun q hq => N₀ q (hp.sub q hq)
  clear N₀ hp
  refine wpAny_call ?_
  k_dflt (refine' enter [(Str.ofString "source", .ref pa), (Str.ofString "top", .int tp tt)] ?k1 ?k2 ?k3 ?k4 ?k5 ?kA ?kF ?kK ?k6 ?k7 ?k8 ?k9 ?kB ?_ ?c2 ?c3 ?c4 ?c5; walk_at "m_enter")
  k_steps
  all_goals (
    dsimp only [List.getD, Int.toNat, Option.getD, List.getElem?_cons_zero, List.getElem?_cons_succ] at *
    refine ret _ _ _ _ _ _ _ _ _ ?_ ?_ ⟨?_, ?_, ?_⟩ (by with_reducible assumption) (by assumption)
    all_goals first | assumption | exact fmod_lo _ (by omega) | exact fmod_hi _ (by omega) | exact Int.fdiv_nonneg (by omega) (by omega) | omega)
end
local macro_rules | `(tactic| k_handed) => `(tactic| with_reducible assumption)
/-! the program's nodes, made by their classes -/
def tks (l : List Nat) (i : Nat) : Tok := l.getD i 0
section
variable (prog : Program) (w : World) (p : Program) (loose : List Str) (mean : ExcName → Option Value) (mg mb : Str → Option Value)
def NewC (C : Addr) (vs : List Value) (od : (Nat → Tok) → Obj) : Prop :=
  ∀ (dp un : Nat) (gd : Option (List Code)) (cn : Str) (cs : Scope) (a : Addr) (ccd : Value) (cl : List (Str × Addr)) (outer : List Env) (A₀ : Around) (base h₀ : Heap) (L : Addr) (m : Str → Option Value) (news : Lst) (s : Shared)
    (Q E : Value → Shared → Prop),
    Below A₀ base outer h₀ → Fr h₀ L s.heap m → (top.heap_1_39 w.params).In h₀ → News h₀ L s.heap news → Top p loose mean mg mb h₀ → cs.kind = .function →
    dp < 900 → un < 5 * 900 →
    (∀ (x d : Addr) (τ : Nat → Tok) h' tk', Fr h₀ L h' m → News h₀ L h' ((x, instObj C d) :: (d, od τ) :: news) → (∀ p ∈ news, p.1 < d) → @LT.lt Nat _ d x → Q (.ref x) { s with heap := h', toks := tk' }) →
    wpAny (model prog w) (ktrTop dp un gd cn cs L a ccd cl outer) (call (.ref C) vs) Q E s
end
section
variable {prog : Program} {w : World} {p : Program} {loose : List Str} {mean : ExcName → Option Value} {mg mb : Str → Option Value}
theorem NewC.use {C : Addr} {vs : List Value} {od : (Nat → Tok) → Obj} {dp un : Nat} {gd : Option (List Code)} {cn : Str} {cs : Scope} {a : Addr} {ccd : Value} {cl : List (Str × Addr)} {outer : List Env} {A₀ : Around} {base h₀ : Heap} {L : Addr} {m : Str → Option Value} {news : Lst} {hp₀ : Heap} {gs₀ : Array GenState} {dr₀ : Drawn} {tk₀ : Nat} {os₀ : OsState} {Q E : Value → Shared → Prop}
    (c : NewC prog w p loose mean mg mb C vs od) (B : Below A₀ base outer h₀) (F : Fr h₀ L hp₀ m) (X : (top.heap_1_39 w.params).In h₀) (N : News h₀ L hp₀ news) (T : Top p loose mean mg mb h₀) (hk : cs.kind = .function) (hdp : dp < 900) (hun : un < 5 * 900)
    (ret : ∀ (x d : Addr) (τ : Nat → Tok) h' tk', Fr h₀ L h' m → News h₀ L h' ((x, instObj C d) :: (d, od τ) :: news) → (∀ p ∈ news, p.1 < d) → @LT.lt Nat _ d x → Q (.ref x) ⟨h', gs₀, dr₀, tk', os₀⟩) :
    wpAny (model prog w) (ktrTop dp un gd cn cs L a ccd cl outer) (call (.ref C) vs) Q E ⟨hp₀, gs₀, dr₀, tk₀, os₀⟩ := c _ _ _ _ _ _ _ _ _ _ _ _ _ _ _ _ _ _ B F X N T hk hdp hun ret
theorem lit_new (v : Int) (tv : Tok) : NewC prog w p loose mean mg mb 122 [.int v tv] (fun τ => dictOf [ent w.params (Str.ofString "value") (τ 1) (.int v tv)] 1) := by
  unfold NewC
  intro dp un gd cn cs a ccd cl outer A₀ base h₀ L m news s Q E B F X N T hk hdp hun ret
  k_dflt (refine' call_cls ?k1 ?k2 ?k3 ?k4 ?k5 ?k6 ?_; (case k1 => k_asm); (case k2 => k_asm); (case k3 => k_asm); (case k4 => k_is); (case k5 => k_is); (case k6 => k_is); k_whole; intro x' d' h' F' N' l1 l2)
  have l0 := l1
  have l3 := allLt_of l1
  k_lt2 l2
  k_dflt (refine' enter [(Str.ofString "self", .ref x'), (Str.ofString "value", .int v tv)] ?k1 ?k2 ?k3 ?k4 ?k5 ?kA ?kF ?kK ?k6 ?k7 ?k8 ?k9 ?kB ?_ ?c2 ?c3 ?c4 ?c5; walk_at "m_enter")
  k_steps
  exact ret _ _ (tks [0, _]) _ _ (by k_asm) (by k_asm) (by assumption) (by assumption)
theorem name_new (tb : Value) (c : Str) (tc : Tok) (ht : handedIn tb = true) : NewC prog w p loose mean mg mb 148 [tb, .str c tc] (fun τ => dictOf [ent w.params (Str.ofString "table") (τ 1) tb, ent w.params (Str.ofString "column") (τ 2) (.str c tc), ent w.params (Str.ofString "source") (τ 3) .none, ent w.params (Str.ofString "place") (τ 4) .none, ent w.params (Str.ofString "depth") (τ 5) (.int 0 (τ 6))] 5) := by
  unfold NewC
  intro dp un gd cn cs a ccd cl outer A₀ base h₀ L m news s Q E B F X N T hk hdp hun ret
  k_dflt (refine' call_cls ?k1 ?k2 ?k3 ?k4 ?k5 ?k6 ?_; (case k1 => k_asm); (case k2 => k_asm); (case k3 => k_asm); (case k4 => k_is); (case k5 => k_is); (case k6 => k_is); k_whole; intro x' d' h' F' N' l1 l2)
  have l0 := l1
  have l3 := allLt_of l1
  k_lt2 l2
  k_dflt (refine' enter [(Str.ofString "self", .ref x'), (Str.ofString "table", tb), (Str.ofString "column", .str c tc)] ?k1 ?k2 ?k3 ?k4 ?k5 ?kA ?kF ?kK ?k6 ?k7 ?k8 ?k9 ?kB ?_ ?c2 ?c3 ?c4 ?c5; walk_at "m_enter")
  k_steps
  exact ret _ _ (tks [0, _, _, _, _, _, _]) _ _ (by k_asm) (by k_asm) (by assumption) (by assumption)
theorem bin_new (op : Str) (to : Tok) (l r : Addr) : NewC prog w p loose mean mg mb 200 [.str op to, .ref l, .ref r] (fun τ => dictOf [ent w.params (Str.ofString "op") (τ 1) (.str op to), ent w.params (Str.ofString "left") (τ 2) (.ref l), ent w.params (Str.ofString "right") (τ 3) (.ref r)] 3) := by
  unfold NewC
  intro dp un gd cn cs a ccd cl outer A₀ base h₀ L m news s Q E B F X N T hk hdp hun ret
  k_dflt (refine' call_cls ?k1 ?k2 ?k3 ?k4 ?k5 ?k6 ?_; (case k1 => k_asm); (case k2 => k_asm); (case k3 => k_asm); (case k4 => k_is); (case k5 => k_is); (case k6 => k_is); k_whole; intro x' d' h' F' N' l1 l2)
  have l0 := l1
  have l3 := allLt_of l1
  k_lt2 l2
  k_dflt (refine' enter [(Str.ofString "self", .ref x'), (Str.ofString "op", .str op to), (Str.ofString "left", .ref l), (Str.ofString "right", .ref r)] ?k1 ?k2 ?k3 ?k4 ?k5 ?kA ?kF ?kK ?k6 ?k7 ?k8 ?k9 ?kB ?_ ?c2 ?c3 ?c4 ?c5; walk_at "m_enter")
  k_steps
  exact ret _ _ (tks [0, _, _, _]) _ _ (by k_asm) (by k_asm) (by assumption) (by assumption)
theorem scal_new (l : Addr) : NewC prog w p loose mean mg mb 330 [.ref l] (fun τ => dictOf [ent w.params (Str.ofString "select") (τ 1) (.ref l)] 1) := by
  unfold NewC
  intro dp un gd cn cs a ccd cl outer A₀ base h₀ L m news s Q E B F X N T hk hdp hun ret
  k_dflt (refine' call_cls ?k1 ?k2 ?k3 ?k4 ?k5 ?k6 ?_; (case k1 => k_asm); (case k2 => k_asm); (case k3 => k_asm); (case k4 => k_is); (case k5 => k_is); (case k6 => k_is); k_whole; intro x' d' h' F' N' l1 l2)
  have l0 := l1
  have l3 := allLt_of l1
  k_lt2 l2
  k_dflt (refine' enter [(Str.ofString "self", .ref x'), (Str.ofString "select", .ref l)] ?k1 ?k2 ?k3 ?k4 ?k5 ?kA ?kF ?kK ?k6 ?k7 ?k8 ?k9 ?kB ?_ ?c2 ?c3 ?c4 ?c5; walk_at "m_enter")
  k_steps
  exact ret _ _ (tks [0, _]) _ _ (by k_asm) (by k_asm) (by assumption) (by assumption)
theorem tabs_new (c : Str) (tc : Tok) : NewC prog w p loose mean mg mb 536 [.str c tc, .none, .none] (fun τ => dictOf [ent w.params (Str.ofString "name") (τ 1) (.str c tc), ent w.params (Str.ofString "alias") (τ 2) .none, ent w.params (Str.ofString "hint") (τ 3) .none] 3) := by
  unfold NewC
  intro dp un gd cn cs a ccd cl outer A₀ base h₀ L m news s Q E B F X N T hk hdp hun ret
  k_dflt (refine' call_cls ?k1 ?k2 ?k3 ?k4 ?k5 ?k6 ?_; (case k1 => k_asm); (case k2 => k_asm); (case k3 => k_asm); (case k4 => k_is); (case k5 => k_is); (case k6 => k_is); k_whole; intro x' d' h' F' N' l1 l2)
  have l0 := l1
  have l3 := allLt_of l1
  k_lt2 l2
  k_dflt (refine' enter [(Str.ofString "self", .ref x'), (Str.ofString "name", .str c tc), (Str.ofString "alias", .none), (Str.ofString "hint", .none)] ?k1 ?k2 ?k3 ?k4 ?k5 ?kA ?kF ?kK ?k6 ?k7 ?k8 ?k9 ?kB ?_ ?c2 ?c3 ?c4 ?c5; walk_at "m_enter")
  k_steps
  exact ret _ _ (tks [0, _, _, _]) _ _ (by k_asm) (by k_asm) (by assumption) (by assumption)
theorem join_new (kd : Str) (tk : Tok) (l r ov : Value) (u : Addr) (hl : handedIn l = true) (hr : handedIn r = true) (ho : handedIn ov = true) : NewC prog w p loose mean mg mb 562 [.str kd tk, l, r, ov, .ref u] (fun τ => dictOf [ent w.params (Str.ofString "kind") (τ 1) (.str kd tk), ent w.params (Str.ofString "left") (τ 2) l, ent w.params (Str.ofString "right") (τ 3) r, ent w.params (Str.ofString "on") (τ 4) ov, ent w.params (Str.ofString "using") (τ 5) (.ref u)] 5) := by
  unfold NewC
  intro dp un gd cn cs a ccd cl outer A₀ base h₀ L m news s Q E B F X N T hk hdp hun ret
  k_dflt (refine' call_cls ?k1 ?k2 ?k3 ?k4 ?k5 ?k6 ?_; (case k1 => k_asm); (case k2 => k_asm); (case k3 => k_asm); (case k4 => k_is); (case k5 => k_is); (case k6 => k_is); k_whole; intro x' d' h' F' N' l1 l2)
  have l0 := l1
  have l3 := allLt_of l1
  k_lt2 l2
  k_dflt (refine' enter [(Str.ofString "self", .ref x'), (Str.ofString "kind", .str kd tk), (Str.ofString "left", l), (Str.ofString "right", r), (Str.ofString "on", ov), (Str.ofString "using", .ref u)] ?k1 ?k2 ?k3 ?k4 ?k5 ?kA ?kF ?kK ?k6 ?k7 ?k8 ?k9 ?kB ?_ ?c2 ?c3 ?c4 ?c5; walk_at "m_enter")
  k_steps
  exact ret _ _ (tks [0, _, _, _, _, _]) _ _ (by k_asm) (by k_asm) (by assumption) (by assumption)
end
theorem words01_3 : True := by
  k_with "@call ref" => (
      k_here; (with_reducible show wpAny _ _ (call (Value.ref _) _) _ _ _);
      k_dflt (refine' NewC.use ?c ?B ?F ?X ?N ?T ?K ?D ?U ?_; (case B => k_asm); (case F => k_asm); (case X => k_asm); (case N => k_asm); (case T => k_asm); (case c => first | exact lit_new _ _ | exact bin_new _ _ _ _ | exact name_new _ _ _ (by first | rfl | exact DatIn.handed (by with_reducible assumption)) | exact scal_new _ | exact join_new _ _ _ _ _ _ (by first | rfl | with_reducible assumption) (by first | rfl | with_reducible assumption) (by first | rfl | with_reducible assumption) | exact tabs_new _ _); (case K => first | exact rfl | assumption); (case D => first | ktr_room | omega); (case U => first | ktr_units | omega))
      intro x' d' τ' h' tk' F' N' l1 l2; (try k_lt l1); (try k_lt2 l2); (try dsimp only); (try k_fold))
  trivial
theorem words01_4 : True := by
  k_with "@m_take" => (
      (case t1 => first | decide | omega); (case t2 => first | decide | omega);
      (case B => k_asm); (case F => k_asm); (case X => k_asm); (case N => k_asm); (case P => walk_at "m_pull"); (case A => k_all); (case T => k_asm); (case K => first | exact rfl | assumption); (case O => with_reducible assumption);
      (case D => first | ktr_room | omega); (case U => first | ktr_units | omega);
      intro v9 t9 x9 y9 tx9 ty9 n9 h9 tk9 b9 c9 o9 F9 N9)
  k_with "@call ref" => (
      k_here; (with_reducible show wpAny _ _ (call (Value.ref 720) [Value.ref _, Value.int _ _]) _ _ _);
      k_dflt (refine' take_ok ?t1 ?t2 ?B ?F ?X ?N ?P ?A ?T ?K ?O ?D ?U ?_; walk_at "m_take"); (try dsimp only); (try k_fold))
  trivial
section
variable {M : Model} {A : Around} {E : Value → Shared → Prop} {h₀ : Heap} {L : Addr} {m : Str → Option Value} {news : Lst} {hp₀ : Heap} {gs₀ : Array GenState} {dr₀ : Drawn} {tk₀ : Nat} {os₀ : OsState}
theorem newList_M {vs : List Value} {Q : Value → Shared → Prop} (F : Fr h₀ L hp₀ m) (N : News h₀ L hp₀ news) (hz : Nat.ble vs.length sizeLine = true)
    (h : ∀ l h', AllLt l news → Fr h₀ L h' m → News h₀ L h' ((l, listOf vs.toArray 0) :: news) → Q (.ref l) ⟨h', gs₀, dr₀, tk₀, os₀⟩) : wpAny M A (newList vs) Q E ⟨hp₀, gs₀, dr₀, tk₀, os₀⟩ :=
  newList_K F N (fun l h' F' N' l1 => h l h' (allLt_of l1) F' N') (Nat.le_of_ble_eq_true hz)
theorem newTuple_M {vs : List Value} {Q : Value → Shared → Prop} (F : Fr h₀ L hp₀ m) (N : News h₀ L hp₀ news) (hz : Nat.ble vs.length sizeLine = true)
    (h : ∀ D h', AllLt D news → Fr h₀ L h' m → News h₀ L h' ((D, ({ cls := .type "tuple", data := .seq vs.toArray } : Obj)) :: news) → Q (.ref D) ⟨h', gs₀, dr₀, tk₀, os₀⟩) : wpAny M A (newTuple vs) Q E ⟨hp₀, gs₀, dr₀, tk₀, os₀⟩ :=
  kup_newTuple F N (fun l h' F' N' l1 => h l h' (allLt_of l1) F' N') (Nat.le_of_ble_eq_true hz)
end
theorem words01_5 : True := by
  k_with "@newList" => (
      k_here; k_dflt (refine' newList_M ?gF ?gN ?gz ?_; (case gF => k_asm); (case gN => k_asm); (case gz => rfl); k_whole); intro lq9 hq9 aq9 Fq9 Nq9; (try k_sweep))
  k_with "@newTuple" => (
      k_here; kup_bare; k_dflt (refine' newTuple_M ?gF ?gN ?gz ?_; (case gF => k_asm); (case gN => k_asm); (case gz => rfl)); intro lq9 hq9 aq9 Fq9 Nq9; (try k_sweep))
  trivial

theorem words02_6 : True := by
  k_with "@subscriptTail" => (
      k_here; (with_reducible show wpAny _ _ (subscriptTail _ _ (Value.ref _) (Value.int _ _)) _ _ _)
      (with_unfolding_all refine' pick_tb ?k1 ?k2 ?k3 ?_ ?k6; (case k1 => is_list); (case k2 => omega); (case k3 => omega); (case k6 => with_unfolding_all rfl); k_whole)
      intro v8 d8 i8 b8)
  trivial
def Cexpr_ok.pack : { P : CxP // (∀ prog w p loose mean mg mb dp un gd cn cs a ccd cl outer A₀ base h₀ L m news s pa x y tx ty n Q E g' L' h' tk' o1 o2, P prog w p loose mean mg mb dp un gd cn cs a ccd cl outer A₀ base h₀ L m news s pa x y tx ty n Q E g' L' h' tk' o1 o2) → ∀ (prog : Program) (w : World) (p : Program) (loose : List Str) (mean : ExcName → Option Value) (mg mb : Str → Option Value), PoolC prog w p loose mean mg mb 850 749 (fun pa => [.ref pa]) [] (fun nw v => ∃ e d, ItemAt w.params nw v e d) } := ⟨_, fun h prog w p loose mean mg mb => by
  unfold PoolC
  intro dp un gd cn cs a ccd cl outer A₀ base h₀ L m news s pa x y tx ty n Q E B F X N hoff T hk ok hdp hun hsub ret
  refine wpAny_call ?_
  k_dflt (refine' enter [(Str.ofString "source", .ref pa)] ?k1 ?k2 ?k3 ?k4 ?k5 ?kA ?kF ?kK ?k6 ?k7 ?k8 ?k9 ?kB ?_ ?c2 ?c3 ?c4 ?c5; walk_at "m_enterE")
  obtain ⟨tk', -⟩ : ∃ z : Nat, True := ⟨default, trivial⟩
  obtain ⟨o1, -⟩ : ∃ z : Obj, True := ⟨default, trivial⟩
  obtain ⟨o2, -⟩ : ∃ z : Obj, True := ⟨default, trivial⟩
  revert T'
  revert X'
  revert B'
  revert N'
  revert F'
  revert FG'
  revert ret
  revert hsub
  revert hun
  revert hdp
  revert ok
  revert hk
  revert T
  revert hoff
  revert N
  revert X
  revert F
  revert B
  exact h prog w p loose mean mg mb dp un gd cn cs a ccd cl outer A₀ base h₀ L m news s pa x y tx ty n Q E g' L' h' tk' o1 o2⟩
noncomputable def Cexpr_ok.c : Cx := bad Cexpr_ok.pack.1
noncomputable def Cexpr_ok.prog : Program := Cexpr_ok.c.prog
noncomputable def Cexpr_ok.w : World := Cexpr_ok.c.w
noncomputable def Cexpr_ok.p : Program := Cexpr_ok.c.p
noncomputable def Cexpr_ok.loose : List Str := Cexpr_ok.c.loose
noncomputable def Cexpr_ok.mean : ExcName → Option Value := Cexpr_ok.c.mean
noncomputable def Cexpr_ok.mg : Str → Option Value := Cexpr_ok.c.mg
noncomputable def Cexpr_ok.mb : Str → Option Value := Cexpr_ok.c.mb
noncomputable def Cexpr_ok.dp : Nat := Cexpr_ok.c.dp
noncomputable def Cexpr_ok.un : Nat := Cexpr_ok.c.un
noncomputable def Cexpr_ok.gd : Option (List Code) := Cexpr_ok.c.gd
noncomputable def Cexpr_ok.cn : Str := Cexpr_ok.c.cn
noncomputable def Cexpr_ok.cs : Scope := Cexpr_ok.c.cs
noncomputable def Cexpr_ok.a : Addr := Cexpr_ok.c.a
noncomputable def Cexpr_ok.ccd : Value := Cexpr_ok.c.ccd
noncomputable def Cexpr_ok.cl : List (Str × Addr) := Cexpr_ok.c.cl
noncomputable def Cexpr_ok.outer : List Env := Cexpr_ok.c.outer
noncomputable def Cexpr_ok.A₀ : Around := Cexpr_ok.c.A₀
noncomputable def Cexpr_ok.base : Heap := Cexpr_ok.c.base
noncomputable def Cexpr_ok.h₀ : Heap := Cexpr_ok.c.h₀
noncomputable def Cexpr_ok.L : Addr := Cexpr_ok.c.L
noncomputable def Cexpr_ok.m : Str → Option Value := Cexpr_ok.c.m
noncomputable def Cexpr_ok.news : Lst := Cexpr_ok.c.news
noncomputable def Cexpr_ok.s : Shared := Cexpr_ok.c.s
noncomputable def Cexpr_ok.pa : Addr := Cexpr_ok.c.pa
noncomputable def Cexpr_ok.x : Int := Cexpr_ok.c.x
noncomputable def Cexpr_ok.y : Int := Cexpr_ok.c.y
noncomputable def Cexpr_ok.tx : Tok := Cexpr_ok.c.tx
noncomputable def Cexpr_ok.ty : Tok := Cexpr_ok.c.ty
noncomputable def Cexpr_ok.n : Nat := Cexpr_ok.c.n
noncomputable def Cexpr_ok.Q : Value → Shared → Prop := Cexpr_ok.c.Q
noncomputable def Cexpr_ok.E : Value → Shared → Prop := Cexpr_ok.c.E
noncomputable def Cexpr_ok.g' : Heap := Cexpr_ok.c.g'
noncomputable def Cexpr_ok.L' : Addr := Cexpr_ok.c.L'
noncomputable def Cexpr_ok.h' : Heap := Cexpr_ok.c.h'
noncomputable def Cexpr_ok.tk' : Nat := Cexpr_ok.c.tk'
noncomputable def Cexpr_ok.o1 : Obj := Cexpr_ok.c.o1
noncomputable def Cexpr_ok.o2 : Obj := Cexpr_ok.c.o2
open Cexpr_ok in
theorem Cexpr_ok.core : Cexpr_ok.pack.1 Cexpr_ok.prog Cexpr_ok.w Cexpr_ok.p Cexpr_ok.loose Cexpr_ok.mean Cexpr_ok.mg Cexpr_ok.mb Cexpr_ok.dp Cexpr_ok.un Cexpr_ok.gd Cexpr_ok.cn Cexpr_ok.cs Cexpr_ok.a Cexpr_ok.ccd Cexpr_ok.cl Cexpr_ok.outer Cexpr_ok.A₀ Cexpr_ok.base Cexpr_ok.h₀ Cexpr_ok.L Cexpr_ok.m Cexpr_ok.news Cexpr_ok.s Cexpr_ok.pa Cexpr_ok.x Cexpr_ok.y Cexpr_ok.tx Cexpr_ok.ty Cexpr_ok.n Cexpr_ok.Q Cexpr_ok.E Cexpr_ok.g' Cexpr_ok.L' Cexpr_ok.h' Cexpr_ok.tk' Cexpr_ok.o1 Cexpr_ok.o2 := by
  dsimp only [Cexpr_ok.pack]
  intro B F X N hoff T hk ok hdp hun hsub ret FG' F' N' B' X' T'
  (try dsimp only); (try k_fold)
  k_steps
  all_goals (refine ret _ _ _ _ _ _ _ _ _ (by with_reducible assumption) (by k_asm) (fin_pool (by k_asm) (by k_mem) (by walk_at "m_split")) (by k_all) (by walk_at "m_far") ?_)
  all_goals (exact item_mk (by k_mem) (by walk_at "m_expr") (by walk_at "m_dat") (by first | with_reducible exact Plain.lit _ | with_reducible exact Plain.name _ _ (by assumption) (ab_ok (by assumption) (by assumption)) | with_reducible exact Plain.sum _ _ (by assumption) (ab_ok (by assumption) (by assumption))))
theorem expr_ok {prog : Program} {w : World} {p : Program} {loose : List Str} {mean : ExcName → Option Value} {mg mb : Str → Option Value} : PoolC prog w p loose mean mg mb 850 749 (fun pa => [.ref pa]) [] (fun nw v => ∃ e d, ItemAt w.params nw v e d) := Cexpr_ok.pack.2 (of_bad (by with_unfolding_all exact Cexpr_ok.core)) prog w p loose mean mg mb

/-- the children -/
def kids : Ex → List Ex
  | .bin _ l r => [l, r]
  | _ => []
inductive Exprs (P : Params) (nw : Lst) : List Value → List Ex → Prop
  | nil : Exprs P nw [] []
  | cons {v : Value} {vs : List Value} {e : Ex} {es : List Ex} : ExprAt P nw v e → Exprs P nw vs es → Exprs P nw (v :: vs) (e :: es)
theorem Exprs.mono {P : Params} {nw nw' : Lst} {vs : List Value} {es : List Ex} (h : Exprs P nw vs es) (hs : ∀ p ∈ nw, p ∈ nw') : Exprs P nw' vs es := by
  induction h with
  | nil => exact .nil
  | cons a _ ih => exact .cons (a.mono hs) ih
theorem Exprs.append {P : Params} {nw : Lst} {vs ws : List Value} {es fs : List Ex} (h : Exprs P nw vs es) (k : Exprs P nw ws fs) : Exprs P nw (vs ++ ws) (es ++ fs) := by
  induction h with
  | nil => exact k
  | cons a _ ih => exact .cons a ih
theorem Exprs.length {P : Params} {nw : Lst} {vs : List Value} {es : List Ex} (h : Exprs P nw vs es) : vs.length = es.length := by
  induction h with
  | nil => rfl
  | cons _ _ ih => rw [List.length_cons, List.length_cons, ih]
/-- a list of nodes -/
def ListOfEx (P : Params) (nw : Lst) (r : Value) (es : List Ex) : Prop := ∃ (a : Addr) (vs : List Value) (n : Nat), r = .ref a ∧ (a, listOf vs.toArray n) ∈ nw ∧ Exprs P nw vs es
theorem loe_mk {P : Params} {nw : Lst} {a : Addr} {vs : List Value} {n : Nat} {es : List Ex} (h1 : (a, listOf vs.toArray n) ∈ nw) (h2 : Exprs P nw vs es) : ListOfEx P nw (.ref a) es := ⟨a, vs, n, rfl, h1, h2⟩
inductive SplitR (news : Lst) : Lst → Lst → Prop
  | done : SplitR news news []
  | cons {e r tl} : SplitR news r tl → SplitR news (e :: r) (e :: tl)
  | app {t r tl} : SplitR news r tl → SplitR news (t ++ r) (t ++ tl)
theorem SplitR.sub {news led tl : Lst} (h : SplitR news led tl) : ∀ p ∈ tl ++ news, p ∈ led := by
  induction h with
  | done => exact fun _ h => h
  | cons _ ih =>
    intro p h
    rcases List.mem_cons.mp h with rfl | h
    · exact .head _
    · exact .tail _ (ih p h)
  | app _ ih =>
    intro p h
    rw [List.append_assoc] at h
    exact (List.mem_append.mp h).elim (fun h => List.mem_append.mpr (.inl h)) fun h => List.mem_append.mpr (.inr (ih p h))
theorem fin_read {h₀ h : Heap} {L : Addr} {news led tl : Lst} (N : News h₀ L h led) (hs : SplitR news led tl) : News h₀ L h (tl ++ news) := fun p hp => N _ (hs.sub p hp)
theorem words03_7 : True := by
  k_with "@m_splitR" => first | with_reducible exact SplitR.done | ((with_reducible apply SplitR.cons); walk_at "m_splitR") | ((with_reducible apply SplitR.app); walk_at "m_splitR")
  k_with "@m_exprs" => first
      | exact Exprs.nil
      | (refine Exprs.mono (by with_reducible assumption) ?_; walk_at "m_sub")
      | ((with_reducible apply Exprs.cons); walk_at "m_expr"; walk_at "m_exprs")
  k_with "@m_read" => (
      (case B => k_asm); (case F => k_asm); (case X => k_asm); (case N => k_asm); (case T => k_asm); (case K => first | exact rfl | assumption);
      (case D => first | ktr_room | omega); (case U => first | ktr_units | omega); (case S => walk_at "m_sub"); (case Z => intro tl; walk_at "m_sift");
      intro r9 tl9 h9 tk9 F9 N9 f9 q9)
  trivial
section
variable {prog : Program} {w : World} {p : Program} {loose : List Str} {mean : ExcName → Option Value} {mg mb : Str → Option Value}
theorem children_ok {nw : Lst} {v : Value} {e : Ex} (h : ExprAt w.params nw v e) (hs : ∀ e', e ≠ .scal e') : ReadC prog w p loose mean mg mb 900 576 [v] nw (fun nw r => ListOfEx w.params nw r (kids e)) := by
  unfold ReadC
  intro dp un gd cn cs a ccd cl outer A₀ base h₀ L m news s Q E B F X N T hk hdp hun hsub ret
  refine wpAny_call ?_
  k_dflt (refine' enter [(Str.ofString "expr", v)] ?k1 ?k2 ?k3 ?k4 ?k5 ?kA ?kF ?kK ?k6 ?k7 ?k8 ?k9 ?kB ?_ ?c2 ?c3 ?c4 ?c5; walk_at "m_enter")
  cases h with
  | lit m1 m2 =>
    have m3 := hsub _ m1
    have m4 := hsub _ m2
    k_steps
    all_goals (exact ret _ _ _ _ (by k_asm) (fin_read (by k_asm) (by walk_at "m_splitR")) (by walk_at "m_far") (loe_mk (vs := []) (by k_mem) .nil))
  | name m1 m2 i1 i2 i3 =>
    have m3 := hsub _ m1
    have m4 := hsub _ m2
    k_steps
    all_goals (exact ret _ _ _ _ (by k_asm) (fin_read (by k_asm) (by walk_at "m_splitR")) (by walk_at "m_far") (loe_mk (vs := []) (by k_mem) .nil))
  | bin m1 m2 i1 i2 i3 =>
    have m3 := hsub _ m1
    have m4 := hsub _ m2
    k_steps
    all_goals (exact ret _ _ _ _ (by k_asm) (fin_read (by k_asm) (by walk_at "m_splitR")) (by walk_at "m_far") (loe_mk (vs := [_, _]) (es := [_, _]) (by k_mem) (by walk_at "m_exprs")))
  | scal m1 m2 _ => exact absurd rfl (hs _)
end

def hasSub : Ex → Bool
  | .lit _ => false
  | .name _ _ _ _ => false
  | .bin _ l r => hasSub l || hasSub r
  | .scal _ => true
def dep : Ex → Nat
  | .lit _ => 0
  | .name _ _ _ _ => 0
  | .bin _ l r => max (dep l) (dep r) + 1
  | .scal e => dep e + 1
inductive Loe0 (nw : Lst) (r : Value) : Prop
  | mk (a : Addr) (n : Nat) : r = .ref a → (a, listOf #[] n) ∈ nw → Loe0 nw r
inductive Loe2 (P : Params) (nw : Lst) (r : Value) (e1 e2 : Ex) : Prop
  | mk (a : Addr) (v1 v2 : Value) (n : Nat) : r = .ref a → (a, listOf #[v1, v2] n) ∈ nw → ExprAt P nw v1 e1 → ExprAt P nw v2 e2 → Loe2 P nw r e1 e2
theorem loe_nil {P : Params} {nw : Lst} {r : Value} {e : Ex} (h : ListOfEx P nw r (kids e)) (hk : kids e = []) : Loe0 nw r := by
  obtain ⟨a, vs, n, rfl, hm, hx⟩ := h
  rw [hk] at hx
  cases hx
  exact ⟨a, n, rfl, hm⟩
theorem loe_two {P : Params} {nw : Lst} {r : Value} {e e1 e2 : Ex} (h : ListOfEx P nw r (kids e)) (hk : kids e = [e1, e2]) : Loe2 P nw r e1 e2 := by
  obtain ⟨a, vs, n, rfl, hm, hx⟩ := h
  rw [hk] at hx
  cases hx with
  | cons h1 hx =>
    cases hx with
    | cons h2 hx =>
      cases hx
      exact ⟨a, _, _, n, rfl, hm, h1, h2⟩
theorem words04_8 : True := by
  k_with "@call ref" => (
      k_here; (with_reducible show wpAny _ _ (call (Value.ref 576) [_]) _ _ _)
      k_dflt (refine' ReadC.use (children_ok ?h ?ns) ?B ?F ?X ?N ?T ?K ?D ?U ?S ?Z ?_; (case h => with_reducible assumption); (case ns => intro _ hh; cases hh); walk_at "m_read")
      first
      | (obtain ⟨l9, c9, e9, i9⟩ := loe_nil q9 rfl; subst e9; (try dsimp only); (try k_fold))
      | (obtain ⟨l9, u9, v9, c9, e9, i9, j9, k9⟩ := loe_two q9 rfl; subst e9; (try dsimp only); (try k_fold)))
  trivial
theorem words04_9 : True := by
  k_with "@m_hs" => (
      unfold ReadC
      intro dp un gd cn cs a ccd cl outer A₀ base h₀ L m news s Q E B F X N T hk hdp hun hsub ret
      refine wpAny_call ?_
      simp only [dep] at hdp hun
      k_dflt (refine' enter [(Str.ofString "expr", v)] ?k1 ?k2 ?k3 ?k4 ?k5 ?kA ?kF ?kK ?k6 ?k7 ?k8 ?k9 ?kB ?_ ?c2 ?c3 ?c4 ?c5; walk_at "m_enter")
      have h1 := h.mono hsub
      have h0 := h)
  trivial
section
variable {prog : Program} {w : World} {p : Program} {loose : List Str} {mean : ExcName → Option Value} {mg mb : Str → Option Value}
theorem hasSub_ok : ∀ (e : Ex) {nw : Lst} {v : Value}, ExprAt w.params nw v e → ReadC prog w p loose mean mg mb (880 - dep e) 581 [v] nw (fun _ r => r = .bool (hasSub e)) := by
  intro e
  induction e with
  | lit i =>
    intro nw v h
    walk_at "m_hs"
    cases h with
    | lit m1 m2 =>
      have m3 := hsub _ m1
      have m4 := hsub _ m2
      k_steps
      all_goals (exact ret _ _ _ _ (by k_asm) (fin_read (by k_asm) (by walk_at "m_splitR")) (by walk_at "m_far") rfl)
  | name _ _ _ _ =>
    intro nw v h
    walk_at "m_hs"
    cases h with
    | name m1 m2 _ _ _ =>
      have m3 := hsub _ m1
      have m4 := hsub _ m2
      k_steps
      all_goals (exact ret _ _ _ _ (by k_asm) (fin_read (by k_asm) (by walk_at "m_splitR")) (by walk_at "m_far") rfl)
  | bin _ l r ihl ihr =>
    intro nw v h
    walk_at "m_hs"
    cases h with
    | bin m1 m2 _ _ _ =>
      have m3 := hsub _ m1
      have m4 := hsub _ m2
      k_with "call ref" => ((with_reducible show wpAny _ _ (call (Value.ref 581) [_]) _ _ _); k_dflt (refine' ReadC.use ?C ?B ?F ?X ?N ?T ?K ?D ?U ?S ?Z ?_; (case C => first | exact ihl (by with_reducible assumption) | exact ihr (by with_reducible assumption)); walk_at "m_read"); subst q9; (try dsimp only); (try k_fold))
      k_steps
      all_goals (exact ret _ _ _ _ (by k_asm) (fin_read (by k_asm) (by walk_at "m_splitR")) (by walk_at "m_far") rfl)
  | scal e _ =>
    intro nw v h
    walk_at "m_hs"
    cases h with
    | scal m1 m2 _ =>
      have m3 := hsub _ m1
      have m4 := hsub _ m2
      k_steps
      all_goals (exact ret _ _ _ _ (by k_asm) (fin_read (by k_asm) (by walk_at "m_splitR")) (by walk_at "m_far") rfl)
end

/-! a list comprehension over any source, its turn by an invariant -/
open PyProof.Rows.LCg in
def Tst (prog : Program) (w : World) (A : Around) (ifs : List PySem.Expr) (env : Env) (Y Z : Shared → Prop) (E : Value → Shared → Prop) (s : Shared) : Prop := match ifs with
  | [] => Y s
  | c :: _ => wpAny (model prog w) A (isTrue c env (eval c env)) (fun ok s₃ => if ok = true then Y s₃ else Z s₃) E s
section
open PyProof.Rows.LCg
variable {prog : Program} {w : World} {A : Around} {E : Value → Shared → Prop} {s : Shared} {env : Env}
theorem Tst.mono {ifs : List PySem.Expr} {Y Y' Z Z' : Shared → Prop} (h : Tst prog w A ifs env Y Z E s) (hY : ∀ s, Y s → Y' s) (hZ : ∀ s, Z s → Z' s) : Tst prog w A ifs env Y' Z' E s := by
  match ifs, h with
  | [], h => exact hY _ h
  | c :: _, h =>
    refine wpAny_mono h (fun ok s₃ h₃ => ?_) fun _ _ e => e
    cases ok with
    | true => exact hY _ h₃
    | false => exact hZ _ h₃
theorem jc_loop {elt target iter : PySem.Expr} {ifs : List PySem.Expr} (hifs : ifs.length ≤ 1) {scope : Scope} {pos : Pos} {it acc : Value} {env : Env} {R : Result → Shared → Prop} (I : Nat → Shared → Prop)
    (turn : ∀ n s, I n s → wpAny (model prog w) A (pyNext it) (fun r s₁ => match r with
      | none => R (.ok .next) s₁
      | some v => wpAny (model prog w) A (letOwnedTupleGo target it v) (fun _ s₀ => wpAny (model prog w) A (assign target env v) (fun _ s₂ =>
          Tst prog w A ifs env (fun s₃ => wpAny (model prog w) A (eval elt env) (fun x s₄ =>
            wpAny (model prog w) A (call (.builtin "list.append") [acc, x]) (fun _ s₅ => ∃ m, m < n ∧ I m s₅) (notedBy (model prog w) A env fun e s' => R (.error e) s') s₄) (notedBy (model prog w) A env fun e s' => R (.error e) s') s₃)
            (fun s₃ => ∃ m, m < n ∧ I m s₃) (notedBy (model prog w) A env fun e s' => R (.error e) s') s₂)
          (notedBy (model prog w) A env fun e s' => R (.error e) s') s₀) (notedBy (model prog w) A env fun e s' => R (.error e) s') s₁) (notedBy (model prog w) A env fun e s' => R (.error e) s') s)
    (n : Nat) (h : I n s) : codeAny (model prog w) A (.compLoop (.ListComp elt [⟨target, iter, ifs, 0⟩] scope pos) 0 it acc env) R s := by
  match ifs, hifs, turn with
  | [], _, turn => exact kcp_loop I turn n h
  | [c], _, turn => exact kct_loop I turn n h
  | _ :: _ :: _, h, _ => exact absurd h (by simp)

/-- the end of a turn: what the iterators and the block hold stands, the rest may have grown -/
inductive JEnd (h₀ : Heap) (L : Addr) (m : Str → Option Value) (s₁ : Shared) (hs : List Addr) (hid : Lst) (C D : Addr) (keep : Lst) (rest : Lst → Prop) (s₂ : Shared) : Prop
  | mk (h' : Heap) (tk : Nat) (news' : Lst) : s₂ = { s₁ with heap := h', toks := tk } → Fr h₀ L h' m → News h₀ L h' (hid ++ news') → (∀ p ∈ news', p.1 ∉ hs ∧ p.1 ≠ C ∧ p.1 ≠ D) → (∀ p ∈ keep, p ∈ news') → rest news' → JEnd h₀ L m s₁ hs hid C D keep rest s₂
open PyProof.Rows.LCg in
inductive JInv (s₂ : Shared) (n : Nat) (St : Nat → Heap → Prop) (h₀ : Heap) (L : Addr) (m : Str → Option Value) (C D : Addr) (hs : List Addr) (keep : Lst) (J : Nat → List Value → Lst → Prop) (k : Nat) (s' : Shared) : Prop
  | mk (h' : Heap) (tk i : Nat) (ys : List Value) (m' : Str → Option Value) (news' : Lst) : s' = { s₂ with heap := h', toks := tk } → i ≤ n → k = n + 1 - i → ys.length ≤ i → St i h' → Fr h₀ L h' m → h'.Ns C m' →
      News h₀ L h' ((D, lst ys) :: news') → (∀ p ∈ news', p.1 ∉ hs ∧ p.1 ≠ C ∧ p.1 ≠ D) → (∀ p ∈ keep, p ∈ news') → J i ys news' → JInv s₂ n St h₀ L m C D hs keep J k s'

theorem jc_block {elt target iter : PySem.Expr} {ifs : List PySem.Expr} (hifs : ifs.length ≤ 1) {scope : Scope} {cl : List (Str × Addr)} {pos : Pos} {s₂ : Shared} {h₀ : Heap} {L I : Addr} {m : Str → Option Value} {hs : List Addr} {fp wr : List Addr} {n : Nat} {P Md : Nat → Value → Heap → Prop} {St : Nat → Heap → Prop}
    {Got : Nat → Value → (Str → Option Value) → Prop} {keep news : Lst} {J : Nat → List Value → Lst → Prop} {RR : Value → Addr → Result → Shared → Prop}
    (W : KTurns prog w A target I fp wr n P Md St) (hsz : n ≤ sizeLine)
    (hws : ∀ b ∈ hs, b ∈ fp ∧ h₀.get? b = none ∧ b < s₂.heap.objs.size) (hwr : ∀ b ∈ wr, b ∈ hs) (hfp : ∀ b ∈ fp, b ∈ hs ∨ ∃ o, (b, o) ∈ keep)
    (hobj : ∀ i h, St i h → ∃ its : Lst, its.map (·.1) = hs ∧ ∀ p ∈ its, h.get? p.1 = some p.2)
    (hself : ∀ (s : Shared) (Q : Value → Shared → Prop) (E : Value → Shared → Prop), St 0 s.heap → Q (.ref I) s → wpAny (model prog w) A (pyIter (.ref I)) Q E s)
    (hcell : ∀ y ∈ scope.names, y.2 ≠ .cell) (hkind : scope.kind = .function)
    (hasg : ∀ i v C (s : Shared) m₁ news' (Q : Unit → Shared → Prop) (E : Value → Shared → Prop), P i v s.heap → News h₀ L s.heap news' → (∀ p ∈ keep, p ∈ news') → s.heap.Ns C m₁ →
      (∀ (h' : Heap) (tk : Nat) m₂, h'.Ns C m₂ → Got i v m₂ → (∀ c o, c ≠ C → s.heap.get? c = some o → h'.get? c = some o) → Q () { s with heap := h', toks := tk }) → wpAny (model prog w) A (assign target (compEnvC scope cl C env) v) Q E s)
    (hst : St 0 s₂.heap) (F : Fr h₀ L s₂.heap m) (N : News h₀ L s₂.heap news) (hL : L ∉ hs) (off : ∀ p ∈ news, p.1 ∉ hs) (hk : ∀ p ∈ keep, p ∈ news) (hJ : J 0 [] news)
    (turn : ∀ i v ys news' its C oC D m₂ h tk (E' : Value → Shared → Prop), i < n → Got i v m₂ → J i ys news' → ys.length ≤ i → (∀ p ∈ keep, p ∈ news') → NsObj oC m₂ → its.map (·.1) = hs → (∀ p ∈ news', p.1 ∉ hs ∧ p.1 ≠ C ∧ p.1 ≠ D) → (∀ p ∈ its, p.1 ≠ C ∧ p.1 ≠ D) → C ≠ D →
      Fr h₀ L h m → News h₀ L h ((C, oC) :: (D, lst ys) :: (its ++ news')) →
      Tst prog w A ifs (compEnvC scope cl C env)
        (fun s₃ => wpAny (model prog w) A (eval elt (compEnvC scope cl C env)) (fun y => JEnd h₀ L m { s₂ with heap := h, toks := tk } hs ((C, oC) :: (D, lst ys) :: its) C D keep (J (i + 1) (ys ++ [y]))) E' s₃)
        (JEnd h₀ L m { s₂ with heap := h, toks := tk } hs ((C, oC) :: (D, lst ys) :: its) C D keep (J (i + 1) ys)) E' { s₂ with heap := h, toks := tk })
    (hRR : ∀ D C h tk m' ys news', Fr h₀ L h m → News h₀ L h ((D, lst ys) :: news') → (∀ p ∈ news', p.1 ≠ D) → h.Ns C m' → h₀.get? C = none → h₀.get? D = none → C ≠ L → D ≠ L → C ≠ D → (∀ p ∈ news', p.1 ≠ C) → (∀ p ∈ keep, p ∈ news') → J n ys news' → RR (.ref D) C (.ok .next) { s₂ with heap := h, toks := tk }) :
    wpAny (model prog w) A (newList []) (fun acc s₃ => wpAny (model prog w) A (newFunctionEnv scope env.globals cl [] env.qual none .none (some env)) (fun cenv s₄ =>
      codeAny (model prog w) A (.compStart (.ListComp elt [⟨target, iter, ifs, 0⟩] scope pos) 0 (.ref I) acc { cenv with scope := relabel scope env }) (RR acc cenv.locals) s₄) E s₃) E s₂ := by
  refine wpAny_newObj_type (wpAny_newFunctionEnv hcell (by intro y hy; simp at hy) (fun h₁ hns₁ hsb₁ => ?_) hkind)
  dsimp only at hns₁ hsb₁ ⊢
  generalize hH2 : s₂.heap.push { cls := .type "list", dict := none, data := .seq ([] : List Value).toArray } = H2 at hns₁ hsb₁ ⊢
  have hC : H2.objs.size = s₂.heap.objs.size + 1 := by rw [← hH2, Heap.size_push]
  have hDC : s₂.heap.objs.size ≠ H2.objs.size := by rw [hC]; exact Nat.ne_of_lt (Nat.lt_succ_self _)
  have below : ∀ b, b < s₂.heap.objs.size → b ≠ H2.objs.size ∧ b ≠ s₂.heap.objs.size := fun b hb => ⟨by rw [hC]; exact Nat.ne_of_lt (Nat.lt_succ_of_lt hb), Nat.ne_of_lt hb⟩
  have hsC : H2.objs.size ∉ hs := fun hm => (below _ (hws _ hm).2.2).1 rfl
  have hsD : s₂.heap.objs.size ∉ hs := fun hm => (below _ (hws _ hm).2.2).2 rfl
  have old : ∀ b o, s₂.heap.get? b = some o → h₁.get? b = some o := fun b o e => hsb₁.extBut b o (below b (Heap.lt_size e)).1 (Heap.get?_push_of_some _ (hH2 ▸ Heap.get?_push_of_some _ e))
  have hacc : h₁.get? s₂.heap.objs.size = some (lst []) := hsb₁.extBut _ _ hDC (Heap.get?_push_of_some _ (hH2 ▸ Heap.get?_push_size _ rfl))
  have hst₁ : St 0 h₁ := W.frame _ _ _ hst fun b _ o e => old b o e
  have fresh : ∀ a, s₂.heap.objs.size ≤ a → s₂.heap.get? a = none := fun a ha => by
    cases e : s₂.heap.get? a with
    | none => rfl
    | some o' => exact absurd (Heap.lt_size e) (Nat.not_lt.mpr ha)
  have fresh₀ : ∀ a, s₂.heap.objs.size ≤ a → h₀.get? a = none := fun a ha => by
    cases e : h₀.get? a with
    | none => rfl
    | some o' => have := F.keep a o' e; rw [fresh a ha] at this; cases this
  have hD₀ : h₀.get? s₂.heap.objs.size = none := fresh₀ _ (Nat.le_refl _)
  have hC₀ : h₀.get? H2.objs.size = none := fresh₀ _ (by rw [hC]; exact Nat.le_succ _)
  have hLlt : L < s₂.heap.objs.size := F.ns.lt
  have hDL : s₂.heap.objs.size ≠ L := Ne.symm (below L hLlt).2
  have hCL : H2.objs.size ≠ L := Ne.symm (below L hLlt).1
  have hLw : L ∉ wr := fun h => hL (hwr _ h)
  have oldW : ∀ b o, h₀.get? b = some o → b ∉ wr := fun b o e hb => by rw [(hws b (hwr b hb)).2.1] at e; cases e
  have off₀ : ∀ p ∈ news, p.1 ∉ hs ∧ p.1 ≠ H2.objs.size ∧ p.1 ≠ s₂.heap.objs.size := fun p hp => ⟨off p hp, (below _ (Heap.lt_size (N p hp).1)).1, (below _ (Heap.lt_size (N p hp).1)).2⟩
  have loop : ∀ s₃ : Shared, s₃ = { s₂ with heap := h₁, toks := s₂.toks + ([] : List (Str × Value)).length } →
      codeAny (model prog w) A (.compLoop (.ListComp elt [⟨target, iter, ifs, 0⟩] scope pos) 0 (.ref I) (.ref s₂.heap.objs.size) (compEnvC scope cl H2.objs.size env))
        (RR (.ref s₂.heap.objs.size) H2.objs.size) s₃ := by
    rintro s₃ rfl
    refine jc_loop hifs
      (JInv s₂ n St h₀ L m H2.objs.size s₂.heap.objs.size hs keep J) ?_ (n + 1)
      ⟨h₁, _, 0, [], _, news, rfl, Nat.zero_le _, rfl, Nat.le_refl _, hst₁, F.keeps old, hns₁, fun p hp => ?_, off₀, hk, hJ⟩
    · rintro k s' ⟨h', tk, i, ys, m', news', rfl, hi, rfl, hyl, hst', F', hn', N', off', hk', J'⟩
      have nxt : ∀ (hx : Heap), (∀ b o, b ∉ wr → h'.get? b = some o → hx.get? b = some o) → Fr h₀ L hx m ∧ hx.Ns H2.objs.size m' ∧ News h₀ L hx ((s₂.heap.objs.size, lst ys) :: news') := fun hx hkx =>
        ⟨⟨F'.ns.at' fun o e => hkx _ o hLw e, fun b o e => hkx b o (oldW b o e) (F'.keep b o e), F'.above⟩, hn'.at' fun o e => hkx _ o (fun h => hsC (hwr _ h)) e, fun p hp => ⟨hkx _ _ (by
          rcases List.mem_cons.mp hp with rfl | hp
          · exact fun h => hsD (hwr _ h)
          · exact fun h => (off' p hp).1 (hwr _ h)) (N' p hp).1, (N' p hp).2⟩⟩
      by_cases hlt : i < n
      · refine W.item i _ _ _ hlt hst' fun v h₂ tk₂ hMd hk₂ => ?_
        refine W.go i v _ _ _ hMd fun h₃ hP hst₃ hk₃ => ?_
        obtain ⟨F₃, hn₃, N₃⟩ := nxt h₃ fun b o hb e => hk₃ b o hb (hk₂ b o hb e)
        refine hasg i v H2.objs.size _ _ news' _ _ hP (fun p hp => N₃ p (.tail _ hp)) hk' hn₃ fun h₄ tk₄ m₂ hn₄ hG hs₄ => ?_
        obtain ⟨its, hmap, hval⟩ := hobj (i + 1) h₃ hst₃
        have hitsAt : ∀ p ∈ its, p.1 ∈ hs := fun p hp => by rw [← hmap]; exact List.mem_map.mpr ⟨p, hp, rfl⟩
        have hitsC : ∀ p ∈ its, p.1 ≠ H2.objs.size ∧ p.1 ≠ s₂.heap.objs.size := fun p hp => ⟨fun e => hsC (e ▸ hitsAt p hp), fun e => hsD (e ▸ hitsAt p hp)⟩
        obtain ⟨oC, heC, hoC⟩ := ns_obj hn₄
        have F₄ : Fr h₀ L h₄ m := ⟨F₃.ns.at' fun o e => hs₄ _ o (Ne.symm hCL) e, fun b o e => hs₄ b o (fun q => by rw [q, hC₀] at e; cases e) (F₃.keep b o e), F₃.above⟩
        have hP₄ : True := trivial
        have N₄ : News h₀ L h₄ ((H2.objs.size, oC) :: (s₂.heap.objs.size, lst ys) :: (its ++ news')) := fun p hp => by
          rcases List.mem_cons.mp hp with rfl | hp
          · exact ⟨heC, hCL, hC₀⟩
          rcases List.mem_cons.mp hp with rfl | hp
          · exact ⟨hs₄ _ _ hDC (N₃ _ (.head _)).1, (N₃ _ (.head _)).2⟩
          rcases List.mem_append.mp hp with hp | hp
          · exact ⟨hs₄ _ _ (hitsC p hp).1 (hval p hp), fun e => hL (e ▸ hitsAt p hp), (hws _ (hitsAt p hp)).2.1⟩
          · exact ⟨hs₄ _ _ (off' p hp).2.1 (N₃ p (.tail _ hp)).1, (N₃ p (.tail _ hp)).2⟩
        have fin : ∀ (ys' : List Value) (h₅ : Heap) (tk₅ : Nat) (news₅ : Lst), ys'.length ≤ i + 1 → Fr h₀ L h₅ m → News h₀ L h₅ ((H2.objs.size, oC) :: (s₂.heap.objs.size, lst ys') :: (its ++ news₅)) → (∀ p ∈ news₅, p.1 ∉ hs ∧ p.1 ≠ H2.objs.size ∧ p.1 ≠ s₂.heap.objs.size) → (∀ p ∈ keep, p ∈ news₅) → J (i + 1) ys' news₅ →
            ∃ q', q' < n + 1 - i ∧ JInv s₂ n St h₀ L m H2.objs.size s₂.heap.objs.size hs keep J q' { s₂ with heap := h₅, toks := tk₅ } := by
          intro ys' h₅ tk₅ news₅ hl F₅ N₅ off₅ hk₅ J₅
          refine ⟨n + 1 - (i + 1), by omega, h₅, tk₅, i + 1, ys', _, news₅, rfl, hlt, rfl, hl, ?_, F₅, hoC.ns (N₅ _ (.head _)).1, fun q hq => ?_, off₅, hk₅, J₅⟩
          · refine W.frame _ _ _ hst₃ fun b hb o e => ?_
            rcases hfp b hb with hb | ⟨o', ho'⟩
            · rw [← hmap] at hb
              obtain ⟨q, hq, rfl⟩ := List.mem_map.mp hb
              have e2 := hval q hq
              rw [e] at e2
              cases e2
              exact (N₅ q (.tail _ (.tail _ (List.mem_append.mpr (.inl hq))))).1
            · have e2 := (N₃ (b, o') (.tail _ (hk' _ ho'))).1
              have e3 := (N₅ (b, o') (.tail _ (.tail _ (List.mem_append.mpr (.inr (hk₅ _ ho')))))).1
              rw [e] at e2
              cases e2
              exact e3
          · rcases List.mem_cons.mp hq with rfl | hq
            · exact N₅ _ (.tail _ (.head _))
            · exact N₅ _ (.tail _ (.tail _ (List.mem_append.mpr (.inr hq))))
        refine Tst.mono (turn i v ys news' its H2.objs.size oC s₂.heap.objs.size m₂ h₄ tk₄ _ hlt hG J' hyl hk' hoC hmap off' hitsC (Ne.symm hDC) F₄ N₄) (fun s₅ h₅ => ?_) fun s₅ h₅ => ?_
        · refine wpAny_mono h₅ (fun y s₆ h₆ => ?_) fun _ _ e => e
          obtain ⟨h₅, tk₅, news₅, rfl, F₅, N₅, off₅, hk₅, J₅⟩ := h₆
          have zD := (N₅ (s₂.heap.objs.size, lst ys) (.tail _ (.head _))).1
          refine append_at (hsz := by show ys.toArray.size ≤ sizeLine; rw [List.size_toArray]; exact Nat.le_trans hyl (Nat.le_trans hi hsz)) zD fun h₆ hs₆ hD₆ => ?_
          refine fin (ys ++ [y]) h₆ _ news₅ (by rw [List.length_append, List.length_singleton]; exact Nat.succ_le_succ hyl) (F₅.change hs₆ hDL hD₀) (fun q hq => ?_) off₅ hk₅ J₅
          rcases List.mem_cons.mp hq with rfl | hq
          · exact ⟨hs₆.extBut _ oC (Ne.symm hDC) (N₅ _ (.head _)).1, hCL, hC₀⟩
          rcases List.mem_cons.mp hq with rfl | hq
          · exact ⟨hD₆.trans (congrArg some (lst_snoc ys y)), hDL, hD₀⟩
          · refine ⟨hs₆.extBut _ _ ?_ (N₅ _ (.tail _ (.tail _ hq))).1, (N₅ _ (.tail _ (.tail _ hq))).2⟩
            rcases List.mem_append.mp hq with hq | hq
            · exact (hitsC q hq).2
            · exact (off₅ q hq).2.2
        · obtain ⟨h₅, tk₅, news₅, rfl, F₅, N₅, off₅, hk₅, J₅⟩ := h₅
          exact fin ys h₅ tk₅ news₅ (Nat.le_succ_of_le hyl) F₅ N₅ off₅ hk₅ J₅
      · have hin : i = n := Nat.le_antisymm hi (Nat.not_lt.mp hlt)
        subst hin
        refine W.done _ _ _ hst' fun h₂ tk₂ hk₂ => ?_
        obtain ⟨F₂, hn₂, N₂⟩ := nxt h₂ hk₂
        exact hRR _ _ h₂ tk₂ _ ys news' F₂ N₂ (fun p hp => (off' p hp).2.2) hn₂ hC₀ hD₀ hCL hDL (Ne.symm hDC) (fun p hp => (off' p hp).2.1) hk' J'
    · rcases List.mem_cons.mp hp with rfl | hp
      · exact ⟨hacc, hDL, hD₀⟩
      · exact ⟨old _ _ (N p hp).1, (N p hp).2⟩
  exact codeAny_compStart_list (loop _ rfl) (hself _ _ _ hst₁ (loop _ rfl))

/-- the source of such a comprehension, and what its turns do -/
inductive JAt (prog : Program) (w : World) (A : Around) (h₀ : Heap) (L : Addr) (m : Str → Option Value) (env : Env) (elt target : PySem.Expr) (ifs : List PySem.Expr) (scope : Scope) (cl : List (Str × Addr)) (done : Shared → List Value → Lst → Prop) (it : Value) (s₂ : Shared) : Prop
  | mk (I : Addr) (hs fp wr : List Addr) (n : Nat) (P Md : Nat → Value → Heap → Prop) (St : Nat → Heap → Prop) (Got : Nat → Value → (Str → Option Value) → Prop) (keep news : Lst) (J : Nat → List Value → Lst → Prop) :
    it = .ref I → KTurns prog w A target I fp wr n P Md St → n ≤ sizeLine →
    (∀ b ∈ hs, b ∈ fp ∧ h₀.get? b = none ∧ b < s₂.heap.objs.size) → (∀ b ∈ wr, b ∈ hs) → (∀ b ∈ fp, b ∈ hs ∨ ∃ o, (b, o) ∈ keep) →
    (∀ i h, St i h → ∃ its : Lst, its.map (·.1) = hs ∧ ∀ p ∈ its, h.get? p.1 = some p.2) →
    (∀ (s : Shared) (Q : Value → Shared → Prop) (E : Value → Shared → Prop), St 0 s.heap → Q (.ref I) s → wpAny (model prog w) A (pyIter (.ref I)) Q E s) →
    (∀ i v C (s : Shared) m₁ news' (Q : Unit → Shared → Prop) (E : Value → Shared → Prop), P i v s.heap → News h₀ L s.heap news' → (∀ p ∈ keep, p ∈ news') → s.heap.Ns C m₁ →
      (∀ (h' : Heap) (tk : Nat) m₂, h'.Ns C m₂ → Got i v m₂ → (∀ c o, c ≠ C → s.heap.get? c = some o → h'.get? c = some o) → Q () { s with heap := h', toks := tk }) → wpAny (model prog w) A (assign target (compEnvC scope cl C env) v) Q E s) →
    St 0 s₂.heap → Fr h₀ L s₂.heap m → News h₀ L s₂.heap news → L ∉ hs → (∀ p ∈ news, p.1 ∉ hs) → (∀ p ∈ keep, p ∈ news) → J 0 [] news →
    (∀ i v ys news' its C oC D m₂ h tk (E' : Value → Shared → Prop), i < n → Got i v m₂ → J i ys news' → ys.length ≤ i → (∀ p ∈ keep, p ∈ news') → NsObj oC m₂ → its.map (·.1) = hs → (∀ p ∈ news', p.1 ∉ hs ∧ p.1 ≠ C ∧ p.1 ≠ D) → (∀ p ∈ its, p.1 ≠ C ∧ p.1 ≠ D) → C ≠ D →
      Fr h₀ L h m → News h₀ L h ((C, oC) :: (D, lst ys) :: (its ++ news')) →
      Tst prog w A ifs (compEnvC scope cl C env)
        (fun s₃ => wpAny (model prog w) A (eval elt (compEnvC scope cl C env)) (fun y => JEnd h₀ L m { s₂ with heap := h, toks := tk } hs ((C, oC) :: (D, lst ys) :: its) C D keep (J (i + 1) (ys ++ [y]))) E' s₃)
        (JEnd h₀ L m { s₂ with heap := h, toks := tk } hs ((C, oC) :: (D, lst ys) :: its) C D keep (J (i + 1) ys)) E' { s₂ with heap := h, toks := tk }) →
    (∀ ys news', (∀ p ∈ keep, p ∈ news') → J n ys news' → done s₂ ys news') → JAt prog w A h₀ L m env elt target ifs scope cl done it s₂

theorem jc_ListComp {elt target iter : PySem.Expr} {ifs : List PySem.Expr} {scope : Scope} {cl : List (Str × Addr)} {pos : Pos} {h₀ : Heap} {L : Addr} {m : Str → Option Value} {Q : Value → Shared → Prop} (hifs : ifs.length ≤ 1) (_F₀ : Fr h₀ L s.heap m)
    (hclos : closureFor scope env = pure cl) (hcell : ∀ y ∈ scope.names, y.2 ≠ .cell) (hkind : scope.kind = .function)
    (hnames : ∀ y ∈ scope.names, y.2 = .local → scope.names.lookup y.1 = some .local)
    (h : wpAny (model prog w) A (eval iter env) (fun xv s₁ => wpAny (model prog w) A (pyIter xv) (JAt prog w A h₀ L m env elt target ifs scope cl
      (fun s₂ ys news => ∀ D h tk, Fr h₀ L h m → News h₀ L h ((D, lst ys) :: news) → (∀ p ∈ news, p.1 ≠ D) → Q (.ref D) { s₂ with heap := h, toks := tk })) E s₁) E s)
    (hs : ∀ x, foldedSetIterable iter env x = pure x := by intro _; rfl) :
    wpAny (model prog w) A (eval (.ListComp elt [⟨target, iter, ifs, 0⟩] scope pos) env) Q E s := by
  rw [eval_ListComp]
  refine wpAny_comprehension_free (use := none) rfl hs hclos hkind hnames (wpAny_mono h (fun xv s₁ h₁ => wpAny_mono h₁ (fun it s₂ h₂ => ?_) fun _ _ e => e) fun _ _ e => e)
  obtain ⟨I, hs, fp, wr, n, P, Md, St, Got, keep, news, J, rfl, W, hsz, hws, hwr, hfp, hobj, hself, hasg, hst, F, N, hL, off, hk, hJ, turn, hdone⟩ := h₂
  refine jc_block hifs W hsz hws hwr hfp hobj hself hcell hkind hasg hst F N hL off hk hJ turn ?_
  intro D C h tk m' ys news' F' N' o1 hn hC₀ hD₀ hCL hDL hCD offC hk' fin
  refine ⟨m', hn, fun h'' hs'' => hdone ys news' hk' fin D h'' tk (F'.change hs'' hCL hC₀) (fun p hp => ?_) o1⟩
  refine ⟨hs''.extBut _ _ ?_ (N' p hp).1, (N' p hp).2⟩
  rcases List.mem_cons.mp hp with rfl | hp
  · exact Ne.symm hCD
  · exact offC p hp

theorem jc_Assign {elt target iter : PySem.Expr} {ifs : List PySem.Expr} {y : Str} {py : Pos} {scope : Scope} {cl : List (Str × Addr)} {pos spos : Pos} {h₀ : Heap} {L : Addr} {m : Str → Option Value} {Q : Flow → Shared → Prop} (hifs : ifs.length ≤ 1) (_F₀ : Fr h₀ L s.heap m) (hLe : env.locals = L)
    (hsw : swapsWith (.ListComp elt [⟨target, iter, ifs, 0⟩] scope pos) (some (.Name y py)) spos.line env = pure true)
    (hclos : closureFor scope env = pure cl) (hcell : ∀ y ∈ scope.names, y.2 ≠ .cell) (hkind : scope.kind = .function)
    (hnames : ∀ y ∈ scope.names, y.2 = .local → scope.names.lookup y.1 = some .local)
    (hy : env.kindOf y = some .local) (hp : (env.scope.kind == .class || (env.scope.kind == .module && env.locals != env.globals)) = false)
    (h : wpAny (model prog w) A (eval iter env) (fun xv s₁ => wpAny (model prog w) A (pyIter xv) (JAt prog w A h₀ L m env elt target ifs scope cl
      (fun s₂ ys news => ∀ D h tk, Fr h₀ L h (fun z => if z = y then some (.ref D) else m z) → News h₀ L h ((D, lst ys) :: news) → (∀ p ∈ news, p.1 ≠ D) → Q .next { s₂ with heap := h, toks := tk })) E s₁) E s)
    (hs : ∀ x, foldedSetIterable iter env x = pure x := by intro _; rfl) :
    wpAny (model prog w) A (exec (.Assign [.Name y py] (.ListComp elt [⟨target, iter, ifs, 0⟩] scope pos) spos) env) Q E s := by
  subst hLe
  rw [exec_Assign_Name_used _ _ _ _ hsw]
  refine wpAny_bind (wpAny_standAt (wpAny_bind ?_))
  show wpAny _ A (do let _ ← comprehension (.ListComp elt [⟨target, iter, ifs, 0⟩] scope pos) scope env _ (newList []) false (eval iter env) (some (assign (.Name y py) env))) _ _ s
  refine wpAny_bind (wpAny_mono (wpAny_comprehension_free (use := some (assign (.Name y py) env)) (Q := fun _ s' => Q .next s') rfl hs hclos hkind hnames
    (wpAny_mono h (fun xv s₁ h₁ => wpAny_mono h₁ (fun it s₂ h₂ => ?_) fun _ _ e => e) fun _ _ e => e)) (fun _ s' hq => wpAny_pure (wpAny_pure hq)) fun _ _ e => e)
  obtain ⟨I, hs, fp, wr, n, P, Md, St, Got, keep, news, J, rfl, W, hsz, hws, hwr, hfp, hobj, hself, hasg, hst, F, N, hL, off, hk, hJ, turn, hdone⟩ := h₂
  refine jc_block hifs W hsz hws hwr hfp hobj hself hcell hkind hasg hst F N hL off hk hJ turn ?_
  intro D C h' tk m' ys news' F' N' o1 hn hC₀ hD₀ hCL hDL hCD offC hk' fin
  show wpAny _ A (assign (.Name y py) env (.ref D)) _ _ _
  refine wpAny_assign_Name (wpAny_storeName_local hy F'.ns (fun h₂ hn₂ hs₂ => ?_) hp)
  have hL₀ : h₀.get? env.locals = none := Heap.get?_none_of_le F'.above
  have F₂ : Fr h₀ env.locals h₂ (fun z => if z = y then some (.ref D) else m z) := ⟨hn₂, fun b o e => hs₂.extBut b o (fun q => by rw [q, hL₀] at e; cases e) (F'.keep b o e), F'.above⟩
  refine ⟨m', hn.sameBut hs₂ hCL, fun h'' hs'' => hdone ys news' hk' fin D h'' _ (F₂.change hs'' hCL hC₀) (fun p hp => ?_) o1⟩
  have z : h₂.get? p.1 = some p.2 := hs₂.extBut _ _ (N' p hp).2.1 (N' p hp).1
  refine ⟨hs''.extBut _ _ ?_ z, (N' p hp).2⟩
  rcases List.mem_cons.mp hp with rfl | hp
  · exact Ne.symm hCD
  · exact offC p hp
end

/-! the sources of the comprehensions -/
section
open PyProof.Rows.LCg
variable {prog : Program} {w : World} {A : Around} {E : Value → Shared → Prop} {s : Shared} {env : Env}
theorem asg_list {env : Env} {a b : Str} {pa pb tp : Pos} {kk : Nat} {T : Addr} {x y : Value} {m : Str → Option Value} {Q : Unit → Shared → Prop} (hh : A.handled = none) (ht : s.heap.IsList T #[x, y])
    (ha : env.kindOf a = some .local) (hb : env.kindOf b = some .local) (hp : (env.scope.kind == .class || (env.scope.kind == .module && env.locals != env.globals)) = false) (hn : s.heap.Ns env.locals m)
    (h : ∀ (h' : Heap) (tk : Nat), h'.Ns env.locals (fun z => if z = b then some y else if z = a then some x else m z) → (∀ c o, c ≠ env.locals → s.heap.get? c = some o → h'.get? c = some o) → Q () { s with heap := h', toks := tk }) :
    wpAny (model prog w) A (assign (.Tuple [.Name a pa, .Name b pb] kk tp) env (.ref T)) Q E s := by
  rw [assign_Tuple]
  refine wpAny_bind (wpAny_standAt ?_)
  unfold unpack
  have e1 : (assignEach [PySem.Expr.Name a pa, .Name b pb] env).length = (#[x, y] : Array Value).size := rfl
  have e2 : (assignEach [PySem.Expr.Name a pa, .Name b pb] env).findIdx? (·.1) = none := rfl
  rw [e1, e2]
  refine wpAny_bind (wpAny_holding (kun_itemsOf hh ht fun h₁ he₁ => ?_))
  have hL : env.locals ≠ s.heap.objs.size := Nat.ne_of_lt hn.lt
  have hn₁ : h₁.Ns env.locals m := hn.at' fun o e => he₁ _ o hL e
  have up₁ : ∀ c o, s.heap.get? c = some o → h₁.get? c = some o := fun c o e => he₁ c o (Nat.ne_of_lt (Heap.lt_size e)) e
  show wpAny _ _ (assignInOrder [assign (.Name a pa) env, assign (.Name b pb) env] [x, y]) _ _ _
  refine assignInOrder_cons ?_
  refine wpAny_assign_Name (wpAny_storeName_local ha hn₁ (fun h₂ hn₂ hs₂ => ?_) hp)
  refine assignInOrder_cons ?_
  refine wpAny_assign_Name (wpAny_storeName_local hb hn₂ (fun h₃ hn₃ hs₃ => ?_) hp)
  refine assignInOrder_nil ?_
  exact h h₃ _ hn₃ fun c o hc e => hs₃.extBut c o hc (hs₂.extBut c o hc (up₁ c o e))

/-- an object that holds two items, a list or a tuple -/
def PairObj (o : Obj) (x y : Value) : Prop := (o.cls = .type "list" ∨ o.cls = .type "tuple") ∧ ∃ n, o.data = .seq #[x, y] n
/-- an item that is a pair of the ledger -/
def PairIn (nw : Lst) (v : Value) (xy : Value × Value) : Prop := ∃ t o, v = .ref t ∧ (t, o) ∈ nw ∧ PairObj o xy.1 xy.2
inductive Pairs (nw : Lst) : List Value → List (Value × Value) → Prop
  | nil : Pairs nw [] []
  | cons {v : Value} {vs : List Value} {xy : Value × Value} {xs : List (Value × Value)} : PairIn nw v xy → Pairs nw vs xs → Pairs nw (v :: vs) (xy :: xs)
theorem Pairs.length {nw : Lst} {vs : List Value} {xs : List (Value × Value)} (h : Pairs nw vs xs) : vs.length = xs.length := by
  induction h with
  | nil => rfl
  | cons _ _ ih => rw [List.length_cons, List.length_cons, ih]
theorem Pairs.get {nw : Lst} {vs : List Value} {xs : List (Value × Value)} (h : Pairs nw vs xs) : ∀ {i : Nat} {v : Value}, vs[i]? = some v → ∃ xy, xs[i]? = some xy ∧ PairIn nw v xy := by
  induction h with
  | nil => intro i v e; simp at e
  | @cons u us xy xs a _ ih =>
    intro i v e
    cases i with
    | zero => exact ⟨xy, rfl, by simpa using (Option.some.inj e) ▸ a⟩
    | succ i => exact ih e

theorem jat_pairs {h₀ : Heap} {L l : Addr} {m : Str → Option Value} {elt : PySem.Expr} {ifs : List PySem.Expr} {a b : Str} {pa pb tp : Pos} {kk : Nat} {scope : Scope} {cl : List (Str × Addr)} {done : Shared → List Value → Lst → Prop} {vs : List Value} {n₀ : Nat} {xs : List (Value × Value)} {keep news : Lst} (J : Nat → List Value → Lst → Prop)
    (hh : A.handled = none) (F : Fr h₀ L s.heap m) (N : News h₀ L s.heap news) (hk : ∀ p ∈ keep, p ∈ news) (hl : (l, listOf vs.toArray n₀) ∈ keep) (hx : Pairs keep vs xs) (hsz : vs.length ≤ sizeLine)
    (hkind : scope.kind = .function) (hxa : scope.names.lookup a = some .local) (hxb : scope.names.lookup b = some .local) (hab : ¬ a = b) (hJ : J 0 [] news)
    (turn : ∀ (s₂ : Shared) i x y ys hs news' its C oC D m₂ h tk (E' : Value → Shared → Prop), xs[i]? = some (x, y) → m₂ a = some x → m₂ b = some y → J i ys news' → ys.length ≤ i → (∀ p ∈ keep, p ∈ news') → NsObj oC m₂ → its.map (·.1) = hs → (∀ p ∈ news', p.1 ∉ hs ∧ p.1 ≠ C ∧ p.1 ≠ D) → (∀ p ∈ its, p.1 ≠ C ∧ p.1 ≠ D) → C ≠ D →
      Fr h₀ L h m → News h₀ L h ((C, oC) :: (D, lst ys) :: (its ++ news')) →
      Tst prog w A ifs (compEnvC scope cl C env)
        (fun s₃ => wpAny (model prog w) A (eval elt (compEnvC scope cl C env)) (fun y => JEnd h₀ L m { s₂ with heap := h, toks := tk } hs ((C, oC) :: (D, lst ys) :: its) C D keep (J (i + 1) (ys ++ [y]))) E' s₃)
        (JEnd h₀ L m { s₂ with heap := h, toks := tk } hs ((C, oC) :: (D, lst ys) :: its) C D keep (J (i + 1) ys)) E' { s₂ with heap := h, toks := tk })
    (hdone : ∀ g ys news', (∀ p ∈ keep, p ∈ news') → J xs.length ys news' → done { s with heap := g } ys news') :
    wpAny (model prog w) A (pyIter (.ref l)) (JAt prog w A h₀ L m env elt (.Tuple [.Name a pa, .Name b pb] kk tp) ifs scope cl done) E s := by
  have hol : s.heap.get? l = some (listOf vs.toArray n₀) := (N _ (hk _ hl)).1
  have hls : s.heap.IsList l vs.toArray := ⟨_, hol, rfl, n₀, rfl⟩
  have hne : l ≠ s.heap.objs.size := Nat.ne_of_lt (Heap.lt_size hol)
  have W := Walks.list (prog := prog) (w := w) hh s.heap.objs.size l hne vs.toArray
  rw [show vs.toArray.size = vs.length by simp] at W
  refine wpAny_pyIter_list hls ?_
  refine ⟨_, [s.heap.objs.size], _, _, vs.length, _, _, _, fun i v m₂ => ∃ x y, xs[i]? = some (x, y) ∧ m₂ a = some x ∧ m₂ b = some y, keep, news, J, rfl,
    KTurns.ofWalks W (fun i v s Q E st q => letGo_listiter st.1 q),
    hsz, ?_, (fun b hb => hb), ?_, ?_, ?_, ?_, ⟨⟨_, Heap.get?_push_size _ rfl, rfl, rfl⟩, hls.at fun o e => Heap.get?_push_of_some _ e⟩, F.push _, fun p hp => ⟨Heap.get?_push_of_some _ (N p hp).1, (N p hp).2⟩, ?_, ?_, hk, hJ, ?_, ?_⟩
  · intro b hb
    rw [List.mem_singleton.mp hb]
    exact ⟨.head _, next_is_new F, by show s.heap.objs.size < (s.heap.push _).objs.size; rw [Heap.size_push]; exact Nat.lt_succ_self _⟩
  · intro b hb
    rcases List.mem_cons.mp hb with rfl | hb
    · exact .inl (.head _)
    · rw [List.mem_singleton.mp hb]; exact .inr ⟨_, hl⟩
  · rintro i h ⟨⟨o, ho, _⟩, _⟩
    exact ⟨[(s.heap.objs.size, o)], rfl, fun p hp => by rw [List.mem_singleton.mp hp]; exact ho⟩
  · intro s' Q E' st hQ
    exact wpAny_pyIter_listiter st.1 hQ
  · intro i v C s' m₁ news' Q E' hP N' hk' hn hQ
    have hv : vs[i]? = some v := by simpa using hP
    obtain ⟨⟨x, y⟩, hxy, t, o, rfl, hm, hc, n, hd⟩ := hx.get hv
    have ho := (N' _ (hk' _ hm)).1
    have fin : ∀ (h' : Heap) (tk : Nat), h'.Ns C (fun z => if z = b then some y else if z = a then some x else m₁ z) → (∀ c o, c ≠ C → s'.heap.get? c = some o → h'.get? c = some o) → Q () { s' with heap := h', toks := tk } :=
      fun h' tk hn' hk'' => hQ h' tk _ hn' ⟨x, y, hxy, by simp [hab], by simp⟩ hk''
    rcases hc with hc | hc
    · exact asg_list (env := compEnvC scope cl C env) hh ⟨o, ho, hc, n, hd⟩ (lookup_relabel_local hxa) (lookup_relabel_local hxb) (by simp [compEnvC, relabel, hkind]) hn fin
    · exact kcp_assign (env := compEnvC scope cl C env) hh ⟨o, ho, hc, n, hd⟩ (lookup_relabel_local hxa) (lookup_relabel_local hxb) (by simp [compEnvC, relabel, hkind]) hn fin
  · exact fun h => absurd F.ns.lt ((List.mem_singleton.mp h) ▸ Nat.lt_irrefl _)
  · exact fun p hp h => absurd (Heap.lt_size (N p hp).1) ((List.mem_singleton.mp h) ▸ Nat.lt_irrefl _)
  · intro i v ys news' its C oC D m₂ h tk E' hi ⟨x, y, hxy, h1, h2⟩ hJ' hyl hk' hNs hmap off offI hCD F' N'
    exact turn _ i x y ys _ news' its C oC D m₂ h tk E' hxy h1 h2 hJ' hyl hk' hNs hmap off offI hCD F' N'
  · intro ys news' hk' hJ'
    rw [hx.length] at hJ'
    exact hdone _ ys news' hk' hJ'

theorem jat_enum {h₀ : Heap} {L l : Addr} {m : Str → Option Value} {elt : PySem.Expr} {ifs : List PySem.Expr} {a b : Str} {pa pb tp : Pos} {kk : Nat} {scope : Scope} {cl : List (Str × Addr)} {done : Shared → List Value → Lst → Prop} {vs : List Value} {n₀ : Nat} {keep news : Lst} (J : Nat → List Value → Lst → Prop)
    (hh : A.handled = none) (F : Fr h₀ L s.heap m) (N : News h₀ L s.heap news) (hk : ∀ p ∈ keep, p ∈ news) (hl : (l, listOf vs.toArray n₀) ∈ keep) (hsz : vs.length ≤ sizeLine)
    (hkind : scope.kind = .function) (hxa : scope.names.lookup a = some .local) (hxb : scope.names.lookup b = some .local) (hab : ¬ a = b) (hJ : J 0 [] news)
    (turn : ∀ (s₂ : Shared) i x t ys hs news' its C oC D m₂ h tk (E' : Value → Shared → Prop), vs[i]? = some x → m₂ a = some (.int (i : Int) t) → m₂ b = some x → J i ys news' → ys.length ≤ i → (∀ p ∈ keep, p ∈ news') → NsObj oC m₂ → its.map (·.1) = hs → (∀ p ∈ news', p.1 ∉ hs ∧ p.1 ≠ C ∧ p.1 ≠ D) → (∀ p ∈ its, p.1 ≠ C ∧ p.1 ≠ D) → C ≠ D →
      Fr h₀ L h m → News h₀ L h ((C, oC) :: (D, lst ys) :: (its ++ news')) →
      Tst prog w A ifs (compEnvC scope cl C env)
        (fun s₃ => wpAny (model prog w) A (eval elt (compEnvC scope cl C env)) (fun y => JEnd h₀ L m { s₂ with heap := h, toks := tk } hs ((C, oC) :: (D, lst ys) :: its) C D keep (J (i + 1) (ys ++ [y]))) E' s₃)
        (JEnd h₀ L m { s₂ with heap := h, toks := tk } hs ((C, oC) :: (D, lst ys) :: its) C D keep (J (i + 1) ys)) E' { s₂ with heap := h, toks := tk })
    (hdone : ∀ g ys news', (∀ p ∈ keep, p ∈ news') → J vs.length ys news' → done { s with heap := g } ys news') :
    wpAny (model prog w) A (call (.type "enumerate") [.ref l]) (fun xv s₁ => wpAny (model prog w) A (pyIter xv) (JAt prog w A h₀ L m env elt (.Tuple [.Name a pa, .Name b pb] kk tp) ifs scope cl done) E s₁) E s := by
  have hol : s.heap.get? l = some (listOf vs.toArray n₀) := (N _ (hk _ hl)).1
  have hls : s.heap.IsList l vs.toArray := ⟨_, hol, rfl, n₀, rfl⟩
  have hlt : l < s.heap.objs.size := Heap.lt_size hol
  refine call_enumerate_list hls fun h' hE hI hsz' hkp => ?_
  refine wpAny_pyIter_enum hE ?_
  have hLlt : L < s.heap.objs.size := F.ns.lt
  have W := (WalksT.enumerate (prog := prog) (w := w) hh (s.heap.objs.size + 1) s.heap.objs.size l (Nat.succ_ne_self _) (ktu_ne 1 hlt) (Nat.ne_of_lt hlt) vs.toArray).toU
  rw [show vs.toArray.size = vs.length by simp] at W
  refine ⟨_, [s.heap.objs.size + 1, s.heap.objs.size], _, _, vs.length, _, _, _, fun i v m₂ => ∃ x t, vs[i]? = some x ∧ m₂ a = some (.int (i : Int) t) ∧ m₂ b = some x, keep, news, J, rfl, KTurns.ofWalksU W, hsz, ?_, (fun b hb => hb), ?_, ?_, ?_, ?_,
    ⟨⟨_, hE⟩, hI, hls.at fun o e => hkp l o e⟩, F.keeps hkp, N.grown hkp, ?_, ?_, hk, hJ, ?_, ?_⟩
  · intro b hb
    rcases List.mem_cons.mp hb with rfl | hb
    · exact ⟨.head _, ktu_new F (Nat.le_succ _), by show _ < h'.objs.size; rw [hsz']; exact Nat.lt_succ_self _⟩
    · rw [List.mem_singleton.mp hb]
      exact ⟨.tail _ (.head _), ktu_new F (Nat.le_refl _), by show _ < h'.objs.size; rw [hsz']; exact Nat.lt_succ_of_lt (Nat.lt_succ_self _)⟩
  · intro b hb
    rcases List.mem_cons.mp hb with rfl | hb
    · exact .inl (.head _)
    rcases List.mem_cons.mp hb with rfl | hb
    · exact .inl (.tail _ (.head _))
    · rw [List.mem_singleton.mp hb]; exact .inr ⟨_, hl⟩
  · rintro i h ⟨⟨old, he⟩, ⟨oi, hoi, _⟩, _⟩
    have he' : h.get? (s.heap.objs.size + 1) = some _ := he
    exact ⟨[(s.heap.objs.size + 1, _), (s.heap.objs.size, oi)], rfl, fun p hp => by
      rcases List.mem_cons.mp hp with rfl | hp
      · exact he'
      · rw [List.mem_singleton.mp hp]; exact hoi⟩
  · rintro s' Q E' ⟨⟨old, he⟩, _, _⟩ hQ
    exact wpAny_pyIter_enum he hQ
  · rintro i v C s' m₁ news' Q E' ⟨T, vals, rfl, ⟨t, x, hx, rfl⟩, hT⟩ N' hk' hn hQ
    have hx' : vs[i]? = some x := by simpa using hx
    exact kcp_assign (env := compEnvC scope cl C env) hh hT (lookup_relabel_local hxa) (lookup_relabel_local hxb) (by simp [compEnvC, relabel, hkind]) hn
      fun h' tk hn' hk'' => hQ h' tk _ hn' ⟨x, t, hx', by simp [hab], by simp⟩ hk''
  · intro h
    rcases List.mem_cons.mp h with e | h
    · exact ktu_ne 1 hLlt e
    · exact Nat.ne_of_lt hLlt (List.mem_singleton.mp h)
  · intro p hp h
    have hlp := Heap.lt_size (N p hp).1
    rcases List.mem_cons.mp h with e | h
    · exact ktu_ne 1 hlp e
    · exact Nat.ne_of_lt hlp (List.mem_singleton.mp h)
  · intro i v ys news' its C oC D m₂ h tk E' hi ⟨x, t, hx, h1, h2⟩ hJ' hyl hk' hNs hmap off offI hCD F' N'
    exact turn _ i x t ys _ news' its C oC D m₂ h tk E' hx h1 h2 hJ' hyl hk' hNs hmap off offI hCD F' N'
  · intro ys news' hk' hJ'
    exact hdone _ ys news' hk' hJ'

/-- the five objects of a zip of two lists -/
structure ZipAt (h : Heap) (z TI TO i1 i2 l1 l2 : Addr) : Prop where
  hz : IsZip h z TI TO .none
  hTI : IsPair h TI (.ref i1) (.ref i2)
  hTO : ∃ a b, IsPair h TO a b
  h1 : h.IsListIter i1 l1 0
  h2 : h.IsListIter i2 l2 0
theorem jat_zip {h₀ : Heap} {L z TI TO i1 i2 l1 l2 : Addr} {m : Str → Option Value} {elt : PySem.Expr} {ifs : List PySem.Expr} {a b : Str} {pa pb tp : Pos} {kk : Nat} {scope : Scope} {cl : List (Str × Addr)} {done : Shared → List Value → Lst → Prop} {us vs : List Value} {n₁ n₂ : Nat} {keep news : Lst} (J : Nat → List Value → Lst → Prop)
    (hh : A.handled = none) (D : ZipApart z TI TO i1 i2 l1 l2) (Z : ZipAt s.heap z TI TO i1 i2 l1 l2) (F : Fr h₀ L s.heap m) (N : News h₀ L s.heap news) (hnew : ∀ b ∈ [z, TI, TO, i1, i2], h₀.get? b = none ∧ b ≠ L) (off : ∀ p ∈ news, p.1 ∉ [z, TI, TO, i1, i2])
    (hk : ∀ p ∈ keep, p ∈ news) (hl1 : (l1, listOf us.toArray n₁) ∈ keep) (hl2 : (l2, listOf vs.toArray n₂) ∈ keep) (hsz : us.length ≤ sizeLine)
    (hkind : scope.kind = .function) (hxa : scope.names.lookup a = some .local) (hxb : scope.names.lookup b = some .local) (hab : ¬ a = b) (hJ : J 0 [] news)
    (turn : ∀ (s₂ : Shared) i x y ys hs news' its C oC D m₂ h tk (E' : Value → Shared → Prop), us[i]? = some x → vs[i]? = some y → m₂ a = some x → m₂ b = some y → J i ys news' → ys.length ≤ i → (∀ p ∈ keep, p ∈ news') → NsObj oC m₂ → its.map (·.1) = hs → (∀ p ∈ news', p.1 ∉ hs ∧ p.1 ≠ C ∧ p.1 ≠ D) → (∀ p ∈ its, p.1 ≠ C ∧ p.1 ≠ D) → C ≠ D →
      Fr h₀ L h m → News h₀ L h ((C, oC) :: (D, lst ys) :: (its ++ news')) →
      Tst prog w A ifs (compEnvC scope cl C env)
        (fun s₃ => wpAny (model prog w) A (eval elt (compEnvC scope cl C env)) (fun y => JEnd h₀ L m { s₂ with heap := h, toks := tk } hs ((C, oC) :: (D, lst ys) :: its) C D keep (J (i + 1) (ys ++ [y]))) E' s₃)
        (JEnd h₀ L m { s₂ with heap := h, toks := tk } hs ((C, oC) :: (D, lst ys) :: its) C D keep (J (i + 1) ys)) E' { s₂ with heap := h, toks := tk })
    (hdone : ∀ ys news', (∀ p ∈ keep, p ∈ news') → J (min us.length vs.length) ys news' → done s ys news') :
    wpAny (model prog w) A (pyIter (.ref z)) (JAt prog w A h₀ L m env elt (.Tuple [.Name a pa, .Name b pb] kk tp) ifs scope cl done) E s := by
  obtain ⟨hz, hTI, ⟨u, v, hTO⟩, hi1, hi2⟩ := Z
  have hol1 : s.heap.get? l1 = some (listOf us.toArray n₁) := (N _ (hk _ hl1)).1
  have hol2 : s.heap.get? l2 = some (listOf vs.toArray n₂) := (N _ (hk _ hl2)).1
  have hls1 : s.heap.IsList l1 us.toArray := ⟨_, hol1, rfl, n₁, rfl⟩
  have hls2 : s.heap.IsList l2 vs.toArray := ⟨_, hol2, rfl, n₂, rfl⟩
  refine wpAny_pyIter_zip hz ?_
  have W := (WalksT.zip2 (prog := prog) (w := w) hh z TI TO i1 i2 l1 l2 D us.toArray vs.toArray).toU
  rw [show min us.toArray.size vs.toArray.size = min us.length vs.length by simp] at W
  refine ⟨z, [z, TI, TO, i1, i2], _, _, min us.length vs.length, _, _, _, fun i v m₂ => ∃ x y, us[i]? = some x ∧ vs[i]? = some y ∧ m₂ a = some x ∧ m₂ b = some y, keep, news, J, rfl, KTurns.ofWalksU W, Nat.le_trans (Nat.min_le_left _ _) hsz, ?_, ?_, ?_, ?_, ?_, ?_,
    ⟨hz, hTI, ⟨u, v, hTO⟩, hi1, hi2, hls1, hls2⟩, F, N, ?_, off, hk, hJ, ?_, ?_⟩
  · intro b hb
    have hlt : b < s.heap.objs.size := by
      obtain ⟨o1, e1, _⟩ := hi1
      obtain ⟨o2, e2, _⟩ := hi2
      simp only [List.mem_cons, List.not_mem_nil, or_false] at hb
      rcases hb with rfl | rfl | rfl | rfl | rfl
      · exact Heap.lt_size hz
      · exact Heap.lt_size hTI
      · exact Heap.lt_size hTO
      · exact Heap.lt_size e1
      · exact Heap.lt_size e2
    refine ⟨?_, (hnew b hb).1, hlt⟩
    simp only [List.mem_cons, List.not_mem_nil, or_false] at hb ⊢
    rcases hb with rfl | rfl | rfl | rfl | rfl <;> simp
  · intro b hb
    simp only [List.mem_cons, List.not_mem_nil, or_false] at hb ⊢
    rcases hb with rfl | rfl | rfl | rfl <;> simp
  · intro b hb
    simp only [List.mem_cons, List.not_mem_nil, or_false] at hb ⊢
    rcases hb with rfl | rfl | rfl | rfl | rfl | rfl | rfl <;> first | (left; simp; done) | (right; first | exact ⟨_, hl1⟩ | exact ⟨_, hl2⟩)
  · rintro i h ⟨hz, hTI, ⟨a, b, hTO⟩, ⟨o1, ho1, hc1, _⟩, ⟨o2, ho2, hc2, _⟩, _⟩
    have e1 : ∃ o : Obj, h.get? z = some o := ⟨_, hz⟩
    have e2 : ∃ o : Obj, h.get? TI = some o := ⟨_, hTI⟩
    have e3 : ∃ o : Obj, h.get? TO = some o := ⟨_, hTO⟩
    obtain ⟨q1, g1⟩ := e1
    obtain ⟨q2, g2⟩ := e2
    obtain ⟨q3, g3⟩ := e3
    refine ⟨[(z, q1), (TI, q2), (TO, q3), (i1, o1), (i2, o2)], rfl, fun p hp => ?_⟩
    simp only [List.mem_cons, List.not_mem_nil, or_false] at hp
    rcases hp with rfl | rfl | rfl | rfl | rfl <;> assumption
  · rintro s' Q E' ⟨hz', _⟩ hQ
    exact wpAny_pyIter_zip hz' hQ
  · rintro i v C s' m₁ news' Q E' ⟨T, vals, rfl, ⟨x, y, hx, hy, rfl⟩, hT⟩ N' hk' hn hQ
    have hx' : us[i]? = some x := by simpa using hx
    have hy' : vs[i]? = some y := by simpa using hy
    exact kcp_assign (env := compEnvC scope cl C env) hh hT (lookup_relabel_local hxa) (lookup_relabel_local hxb) (by simp [compEnvC, relabel, hkind]) hn
      fun h' tk hn' hk'' => hQ h' tk _ hn' ⟨x, y, hx', hy', by simp [hab], by simp⟩ hk''
  · exact fun h => (hnew _ h).2 rfl
  · intro i v ys news' its C oC D m₂ h tk E' hi ⟨x, y, hx, hy, h1, h2⟩ hJ' hyl hk' hNs hmap off offI hCD F' N'
    exact turn _ i x y ys _ news' its C oC D m₂ h tk E' hx hy h1 h2 hJ' hyl hk' hNs hmap off offI hCD F' N'
  · intro ys news' hk' hJ'
    exact hdone ys news' hk' hJ'
end

def namesE : Ex → List Ex
  | .lit _ => []
  | .name t c n p => [.name t c n p]
  | .bin _ l r => namesE l ++ namesE r
  | .scal _ => []
inductive LoeA (P : Params) (nw : Lst) (r : Value) (es : List Ex) : Prop
  | mk (a : Addr) (vs : List Value) (n : Nat) : r = .ref a → (a, listOf vs.toArray n) ∈ nw → Exprs P nw vs es → LoeA P nw r es
theorem loe_any {P : Params} {nw : Lst} {r : Value} {es : List Ex} (h : ListOfEx P nw r es) : LoeA P nw r es := by
  obtain ⟨a, vs, n, h1, h2, h3⟩ := h
  exact ⟨a, vs, n, h1, h2, h3⟩
theorem add_K {prog : Program} {w : World} {A : Around} {E : Value → Shared → Prop} {s : Shared} {h₀ : Heap} {L a b : Addr} {m : Str → Option Value} {news : Lst} {vs ws : List Value} {n k : Nat} {Q : Value → Shared → Prop}
    (F : Fr h₀ L s.heap m) (N : News h₀ L s.heap news) (ma : (a, listOf vs.toArray n) ∈ news) (mb : (b, listOf ws.toArray k) ∈ news) (hz : vs.length + ws.length ≤ sizeLine)
    (h : ∀ l h', Fr h₀ L h' m → News h₀ L h' ((l, listOf (vs ++ ws).toArray 0) :: news) → (∀ p ∈ news, p.1 < l) → Q (.ref l) { s with heap := h' }) :
    wpAny (model prog w) A (binaryOp .Add (.ref a) (.ref b)) Q E s :=
  add_lists F N ⟨_, (N _ ma).1, rfl, _, rfl⟩ ⟨_, (N _ mb).1, rfl, _, rfl⟩ (fun h' F' N' => h _ h' F' N' fun p hp => Heap.lt_size (N p hp).1) hz
theorem unrEnd_of {h₀ : Heap} {L I : Addr} {it : Obj} {rest : (Str → Option Value) → Lst → Prop} {s₁ : Shared} {h' : Heap} {tk : Nat} {m' : Str → Option Value} {all news' : Lst} (F : Fr h₀ L h' m') (N : News h₀ L h' all)
    (p : Pull I it all news') (off : ∀ p ∈ news', p.1 ≠ I) (r : rest m' news') : UnrEnd h₀ L s₁ I it rest { s₁ with heap := h', toks := tk } := UnrEnd.intro F N news' p.sub off r
theorem iter_listL {prog : Program} {w : World} {A : Around} {E : Value → Shared → Prop} {s : Shared} {env : Env} {h₀ : Heap} {x : Str} {body : List Stmt} {Q : Flow → Shared → Prop} {ax : Addr} {vs : List Value} {n : Nat} {m₀ : Str → Option Value} {news : Lst}
    (hh : A.handled = none) (F : Fr h₀ env.locals s.heap m₀) (N : News h₀ env.locals s.heap news) (hm : (ax, listOf vs.toArray n) ∈ news)
    (rest₀ : ∀ I : Addr, (∀ p ∈ news, p.1 < I) → ListRest prog w A E h₀ env x body Q s I (ax, listOf vs.toArray n) vs m₀ news) :
    wpAny (model prog w) A (pyIter (.ref ax)) (fun it s₂ => LoopAtV prog w A h₀ env x body Q E it s₂) E s := iter_listUnr hh F N hm rfl rfl rest₀
theorem words07_10 : True := by
  k_with "@pyIter ref" => (
      (with_reducible show wpAny _ _ (pyIter (Value.ref _)) _ _ _); k_here
      (with_unfolding_all refine' iter_listL ?yh ?yF ?yN ?ym ?_; (case yh => rfl); (case yF => k_asm); (case yN => k_asm); (case ym => k_mem))
      intro i' l1; (try k_lt l1))
  k_with "@binaryOp Add ref ref" => (
      k_here; (with_reducible show wpAny _ _ (binaryOp Operator.Add (Value.ref _) (Value.ref _)) _ _ _)
      k_dflt (refine' add_K ?aF ?aN ?aA ?aB ?aZ ?_; (case aF => k_asm); (case aN => k_asm); (case aA => k_mem); (case aB => k_mem); (case aZ => (rw [sizeLine_eq]; (try simp only [List.length_append, List.length_nil, List.length_cons]); omega)))
      intro l' h' F' N' l1; (try k_lt l1); (try dsimp only))
  k_with "@UnrEnd" => (
      refine' unrEnd_of ?yF ?yN ?yp ?yo ?_
      (case yF => k_asm); (case yN => k_asm); (case yp => walk_at "m_pull"); (case yo => k_all); (try (refine ⟨by k_mem, ?_⟩)))
  trivial
section
variable {prog : Program} {w : World} {p : Program} {loose : List Str} {mean : ExcName → Option Value} {mg mb : Str → Option Value}
theorem names_ok : ∀ (e : Ex), hasSub e = false → (namesE e).length ≤ 1000 → ∀ {nw : Lst} {v : Value}, ExprAt w.params nw v e → ReadC prog w p loose mean mg mb (880 - dep e) 588 [v] nw (fun nw r => ListOfEx w.params nw r (namesE e)) := by
  intro e
  induction e with
  | lit i =>
    intro _ _ nw v h
    walk_at "m_hs"
    cases h with
    | lit m1 m2 =>
      have m3 := hsub _ m1
      have m4 := hsub _ m2
      k_steps
      all_goals (exact ret _ _ _ _ (by k_asm) (fin_read (by k_asm) (by walk_at "m_splitR")) (by walk_at "m_far") (loe_mk (vs := []) (by k_mem) .nil))
  | name _ _ _ _ =>
    intro _ _ nw v h
    walk_at "m_hs"
    cases h with
    | name m1 m2 _ _ _ =>
      have m3 := hsub _ m1
      have m4 := hsub _ m2
      k_steps
      all_goals (exact ret _ _ _ _ (by k_asm) (fin_read (by k_asm) (by walk_at "m_splitR")) (by walk_at "m_far") (loe_mk (vs := [_]) (es := [_]) (by k_mem) (by walk_at "m_exprs")))
  | bin _ l r ihl ihr =>
    intro hns hlen nw v h
    walk_at "m_hs"
    cases h with
    | bin m1 m2 _ _ _ =>
      have m3 := hsub _ m1
      have m4 := hsub _ m2
      simp only [hasSub, Bool.or_eq_false_iff] at hns
      simp only [namesE, List.length_append] at hlen
      k_with "call ref" => ((with_reducible show wpAny _ _ (call (Value.ref 588) [_]) _ _ _); k_dflt (refine' ReadC.use ?C ?B ?F ?X ?N ?T ?K ?D ?U ?S ?Z ?_; (case C => first | exact ihl hns.1 (by omega) (by with_reducible assumption) | exact ihr hns.2 (by omega) (by with_reducible assumption)); walk_at "m_read"); obtain ⟨l9, w9, c9, e9, i9, j9⟩ := loe_any q9; subst e9; have n9 := j9.length; (try dsimp only); (try k_fold))
      k_steps
      all_goals (exact ret _ _ _ _ (by k_asm) (fin_read (by k_asm) (by walk_at "m_splitR")) (by walk_at "m_far") (loe_mk (by k_mem) (Exprs.append (Exprs.append Exprs.nil (by walk_at "m_exprs")) (by walk_at "m_exprs"))))
  | scal e _ => intro h; simp [hasSub] at h
end

theorem Plain.ns {e : Ex} {d : Dat} (h : Plain e d) : hasSub e = false := by cases h <;> rfl
theorem Plain.dep {e : Ex} {d : Dat} (h : Plain e d) : dep e ≤ 1 := by cases h <;> simp [Mine.dep]
/-- the names of a drawn term: none, or one -/
theorem Plain.names {e : Ex} {d : Dat} (h : Plain e d) : namesE e = [] ∨ ∃ t c n p, namesE e = [.name t c n p] := by
  cases h with
  | lit v => exact .inl rfl
  | name n p _ _ => exact .inr ⟨_, _, n, p, rfl⟩
  | sum n p _ _ => exact .inr ⟨_, _, n, p, rfl⟩
theorem Plain.len {e : Ex} {d : Dat} (h : Plain e d) : (namesE e).length ≤ 1000 := by
  rcases h.names with e | ⟨_, _, _, _, e⟩ <;> rw [e] <;> simp
def sameE (l r : List Ex) : Bool := match l, r with
  | [], [] => true
  | [.name _ _ n p], [.name _ _ n' p'] => n == n' && p == p'
  | _, _ => false
theorem exprs_nil {P : Params} {nw : Lst} {vs : List Value} {es : List Ex} (h : Exprs P nw vs es) (e : es = []) : vs = [] := by subst e; cases h; rfl
theorem exprs_one {P : Params} {nw : Lst} {vs : List Value} {es : List Ex} {e : Ex} (h : Exprs P nw vs es) (k : es = [e]) : ∃ v, vs = [v] ∧ ExprAt P nw v e := by
  subst k
  cases h with
  | cons a b => cases b; exact ⟨_, rfl, a⟩
theorem plain_exprs {P : Params} {nw : Lst} {vs : List Value} {e : Ex} {d : Dat} (pe : Plain e d) (j : Exprs P nw vs (namesE e)) :
    (vs = [] ∧ namesE e = []) ∨ ∃ v t c n p, vs = [v] ∧ namesE e = [.name t c n p] ∧ ExprAt P nw v (.name t c n p) := by
  rcases pe.names with k | ⟨t, c, n, p, k⟩
  · exact .inl ⟨exprs_nil j k, k⟩
  · obtain ⟨v, hv, h⟩ := exprs_one j k
    exact .inr ⟨v, t, c, n, p, hv, k, h⟩
/-- a mark at which the walk stops -/
structure Stop (P : Prop) : Prop where
  go : P
theorem stop_of {P : Prop} (h : Stop P) : P := h.go
def ItIs (o : Obj) (l : Addr) : Prop := o.cls = .type "list_iterator" ∧ o.data = .fields #[.ref l, .int 0 0]
abbrev zipObj (TI TO : Addr) : Obj := { cls := .type "zip", dict := none, data := .fields #[.none, .bool false, .bool false, .ref TI, .ref TO], slots := #[] }
abbrev tup2 (a b : Value) : Obj := { cls := .type "tuple", data := .seq #[a, b] }
theorem zip_K {prog : Program} {w : World} {A : Around} {E : Value → Shared → Prop} {s : Shared} {h₀ : Heap} {L a b : Addr} {m : Str → Option Value} {news : Lst} {us vs : List Value} {n k : Nat} {Q : Value → Shared → Prop}
    (F : Fr h₀ L s.heap m) (N : News h₀ L s.heap news) (ma : (a, listOf us.toArray n) ∈ news) (mb : (b, listOf vs.toArray k) ∈ news)
    (h : ∀ B h' o1 o2, ItIs o1 a → ItIs o2 b → Fr h₀ L h' m → News h₀ L h' ((B + 4, zipObj (B + 2) (B + 3)) :: (B + 2, tup2 (.ref B) (.ref (B + 1))) :: (B + 3, tup2 .none .none) :: (B, o1) :: (B + 1, o2) :: news) → (∀ p ∈ news, p.1 < B) → Q (.ref (B + 4)) { s with heap := h' }) :
    wpAny (model prog w) A (call (.type "zip") [.ref a, .ref b]) Q E s := by
  refine call_zip_2 ⟨_, (N _ ma).1, rfl, _, rfl⟩ ⟨_, (N _ mb).1, rfl, _, rfl⟩ fun h' hz hTI hTO hi1 hi2 hsz hk => ?_
  obtain ⟨o1, e1, c1, d1⟩ := hi1
  obtain ⟨o2, e2, c2, d2⟩ := hi2
  have hL : L < s.heap.objs.size := F.ns.lt
  refine h _ h' o1 o2 ⟨c1, d1⟩ ⟨c2, d2⟩ (F.keeps hk) (fun p hp => ?_) fun p hp => Heap.lt_size (N p hp).1
  rcases List.mem_cons.mp hp with rfl | hp
  · exact ⟨hz, Ne.symm (ktu_ne 4 hL), ktu_new F (Nat.le_add_right _ _)⟩
  rcases List.mem_cons.mp hp with rfl | hp
  · exact ⟨hTI, Ne.symm (ktu_ne 2 hL), ktu_new F (Nat.le_add_right _ _)⟩
  rcases List.mem_cons.mp hp with rfl | hp
  · exact ⟨hTO, Ne.symm (ktu_ne 3 hL), ktu_new F (Nat.le_add_right _ _)⟩
  rcases List.mem_cons.mp hp with rfl | hp
  · exact ⟨e1, Ne.symm (Nat.ne_of_lt hL), ktu_new F (Nat.le_refl _)⟩
  rcases List.mem_cons.mp hp with rfl | hp
  · exact ⟨e2, Ne.symm (ktu_ne 1 hL), ktu_new F (Nat.le_add_right _ _)⟩
  · exact ⟨hk _ _ (N p hp).1, (N p hp).2⟩
theorem jEnd_of {h₀ : Heap} {L : Addr} {m : Str → Option Value} {s₁ : Shared} {hs : List Addr} {hid : Lst} {C D : Addr} {keep : Lst} {rest : Lst → Prop} {h' : Heap} {tk : Nat} {all news' : Lst} (F : Fr h₀ L h' m) (N : News h₀ L h' all) (sub : ∀ p ∈ hid ++ news', p ∈ all)
    (off : ∀ p ∈ news', p.1 ∉ hs ∧ p.1 ≠ C ∧ p.1 ≠ D) (hk : ∀ p ∈ keep, p ∈ news') (r : rest news') : JEnd h₀ L m s₁ hs hid C D keep rest { s₁ with heap := h', toks := tk } := ⟨h', tk, news', rfl, F, fun p hp => N p (sub p hp), off, hk, r⟩
theorem one_get {α : Type} {v x : α} {i : Nat} (h : [v][i]? = some x) : i = 0 ∧ x = v := by
  cases i with
  | zero => exact ⟨rfl, (Option.some.inj h).symm⟩
  | succ i => simp at h
theorem same_t {n n' p p' : Int} (h : n = n') : (p == p') = (n == n' && p == p') := by subst h; simp
theorem same_f {n n' p p' : Int} (h : n ≠ n') : (n == n') = (n == n' && p == p') := by simp [h]
theorem jat_zipK {prog : Program} {w : World} {A : Around} {E : Value → Shared → Prop} {s : Shared} {env : Env} {h₀ : Heap} {L B l1 l2 : Addr} {o1 o2 : Obj} {m : Str → Option Value} {elt : PySem.Expr} {ifs : List PySem.Expr} {a b : Str} {pa pb tp : Pos} {kk : Nat} {scope : Scope} {cl : List (Str × Addr)} {done : Shared → List Value → Lst → Prop} {us vs : List Value} {n₁ n₂ : Nat} {news : Lst} (J : Nat → List Value → Lst → Prop)
    (hh : A.handled = none) (F : Fr h₀ L s.heap m) (N : News h₀ L s.heap ((B + 4, zipObj (B + 2) (B + 3)) :: (B + 2, tup2 (.ref B) (.ref (B + 1))) :: (B + 3, tup2 .none .none) :: (B, o1) :: (B + 1, o2) :: news)) (it1 : ItIs o1 l1) (it2 : ItIs o2 l2) (hlt : ∀ p ∈ news, p.1 < B)
    (hl1 : (l1, listOf us.toArray n₁) ∈ news) (hl2 : (l2, listOf vs.toArray n₂) ∈ news) (hsz : us.length ≤ sizeLine)
    (hkind : scope.kind = .function) (hxa : scope.names.lookup a = some .local) (hxb : scope.names.lookup b = some .local) (hab : ¬ a = b) (hJ : J 0 [] news)
    (turn : ∀ (s₂ : Shared) i x y ys hs news' its C oC D m₂ h tk (E' : Value → Shared → Prop), us[i]? = some x → vs[i]? = some y → m₂ a = some x → m₂ b = some y → J i ys news' → LCg.NsObj oC m₂ → its.map (·.1) = hs → (∀ p ∈ news', p.1 ∉ hs ∧ p.1 ≠ C ∧ p.1 ≠ D) → C ≠ D → (∀ p ∈ [(l1, listOf us.toArray n₁), (l2, listOf vs.toArray n₂)], p ∈ news') →
      Fr h₀ L h m → News h₀ L h ((C, oC) :: (D, LCg.lst ys) :: (its ++ news')) →
      Tst prog w A ifs (compEnvC scope cl C env)
        (fun s₃ => wpAny (model prog w) A (eval elt (compEnvC scope cl C env)) (fun y => JEnd h₀ L m { s₂ with heap := h, toks := tk } hs ((C, oC) :: (D, LCg.lst ys) :: its) C D [(l1, listOf us.toArray n₁), (l2, listOf vs.toArray n₂)] (J (i + 1) (ys ++ [y]))) E' s₃)
        (JEnd h₀ L m { s₂ with heap := h, toks := tk } hs ((C, oC) :: (D, LCg.lst ys) :: its) C D [(l1, listOf us.toArray n₁), (l2, listOf vs.toArray n₂)] (J (i + 1) ys)) E' { s₂ with heap := h, toks := tk })
    (hdone : ∀ ys news', J (min us.length vs.length) ys news' → done s ys news') :
    wpAny (model prog w) A (pyIter (.ref (B + 4))) (JAt prog w A h₀ L m env elt (.Tuple [.Name a pa, .Name b pb] kk tp) ifs scope cl done) E s := by
  have e0 := N _ (.head _)
  have e1 := N _ (.tail _ (.head _))
  have e2 := N _ (.tail _ (.tail _ (.head _)))
  have e3 := N _ (.tail _ (.tail _ (.tail _ (.head _))))
  have e4 := N _ (.tail _ (.tail _ (.tail _ (.tail _ (.head _)))))
  have N' : News h₀ L s.heap news := fun p hp => N p (.tail _ (.tail _ (.tail _ (.tail _ (.tail _ hp)))))
  refine jat_zip (keep := [(l1, listOf us.toArray n₁), (l2, listOf vs.toArray n₂)]) J hh (ktu_apart B l1 l2 (hlt _ hl1) (hlt _ hl2)) ⟨e0.1, e1.1, ⟨_, _, e2.1⟩, ⟨o1, e3.1, it1.1, it1.2⟩, ⟨o2, e4.1, it2.1, it2.2⟩⟩ F N' ?_ ?_ ?_ (.head _) (.tail _ (.head _)) hsz hkind hxa hxb hab hJ ?_ fun ys news' _ => hdone ys news'
  · intro b hb
    simp only [List.mem_cons, List.not_mem_nil, or_false] at hb
    rcases hb with rfl | rfl | rfl | rfl | rfl
    · exact ⟨e0.2.2, e0.2.1⟩
    · exact ⟨e1.2.2, e1.2.1⟩
    · exact ⟨e2.2.2, e2.2.1⟩
    · exact ⟨e3.2.2, e3.2.1⟩
    · exact ⟨e4.2.2, e4.2.1⟩
  · intro p hp hb
    have h1 : @LT.lt Nat _ p.1 B := hlt p hp
    simp only [List.mem_cons, List.not_mem_nil, or_false] at hb
    rcases hb with e | e | e | e | e
    · exact ktu_ne 4 h1 e
    · exact ktu_ne 2 h1 e
    · exact ktu_ne 3 h1 e
    · exact Nat.ne_of_lt h1 e
    · exact ktu_ne 1 h1 e
  · intro p hp
    rcases List.mem_cons.mp hp with rfl | hp
    · exact hl1
    · rw [List.mem_singleton.mp hp]; exact hl2
  · intro s₂ i x y ys hs news' its C oC D m₂ h tk E' hx hy h1 h2 hJ' _ hk' hNs hmap off _ hCD F' N''
    exact turn s₂ i x y ys hs news' its C oC D m₂ h tk E' hx hy h1 h2 hJ' hNs hmap off hCD hk' F' N''
theorem words08_11 : True := by
  k_with "@call type:zip" => (
      k_here; (with_reducible show wpAny _ _ (call (Value.type "zip") [Value.ref _, Value.ref _]) _ _ _)
      k_dflt (refine' zip_K ?aF ?aN ?aA ?aB ?_; (case aF => k_asm); (case aN => k_asm); (case aA => k_mem); (case aB => k_mem))
      intro B9 h' o91 o92 it91 it92 F' N' l1; have lt9 := l1; (try k_lt l1); (try dsimp only))
  k_with "@call ref" => (
      k_here; (with_reducible show wpAny _ _ (call (Value.ref 588) [_]) _ _ _)
      k_dflt (refine' ReadC.use (names_ok _ ?hs ?hl ?h) ?B ?F ?X ?N ?T ?K ?D ?U ?S ?Z ?_; (case h => with_reducible assumption); (case hs => exact Plain.ns (by with_reducible assumption)); (case hl => exact Plain.len (by with_reducible assumption)); walk_at "m_read")
      obtain ⟨l9, w9, c9, e9, i9, j9⟩ := loe_any q9; subst e9
      rcases plain_exprs (by with_reducible assumption) j9 with ⟨e8, g8⟩ | ⟨v8, t8, c8, n8, p8, e8, g8, h8⟩ <;> subst e8 <;> (try dsimp only) <;> (try k_fold))
  k_with "@eval ListComp" => (
      (with_reducible show wpAny _ _ (eval (PySem.Expr.ListComp _ [PySem.Comprehension.mk (PySem.Expr.Tuple _ _ _) (PySem.Expr.Name (Str.ofString "pairs") _) [] 0] _ _) _) _ _ _)
      refine stop_of ?_)
  trivial
def Csame_ok.pack : { P : CxP // (∀ prog w p loose mean mg mb dp un gd cn cs a ccd cl outer A₀ base h₀ L m news s pa x y tx ty n Q E g' L' h' tk' o1 o2, P prog w p loose mean mg mb dp un gd cn cs a ccd cl outer A₀ base h₀ L m news s pa x y tx ty n Q E g' L' h' tk' o1 o2) → ∀ (prog : Program) (w : World) (p : Program) (loose : List Str) (mean : ExcName → Option Value) (mg mb : Str → Option Value), ∀ (e o : Ex) (de do' : Dat) (pe : Plain e de) (po : Plain o do') (nw : Lst) (v1 v2 : Value) (he : ExprAt w.params nw v1 e) (ho : ExprAt w.params nw v2 o), ReadC prog w p loose mean mg mb 850 706 [v1, v2] nw (fun _ r => r = .bool (sameE (namesE e) (namesE o))) } := ⟨_, fun h prog w p loose mean mg mb e o de do' pe po nw v1 v2 he ho => by
  unfold ReadC
  intro dp un gd cn cs a ccd cl outer A₀ base h₀ L m news s Q E B F X N T hk hdp hun hsub ret
  refine wpAny_call ?_
  k_dflt (refine' enter [(Str.ofString "one", v1), (Str.ofString "other", v2)] ?k1 ?k2 ?k3 ?k4 ?k5 ?kA ?kF ?kK ?k6 ?k7 ?k8 ?k9 ?kB ?_ ?c2 ?c3 ?c4 ?c5; walk_at "m_enterE")
  obtain ⟨pa, -⟩ : ∃ z : Addr, True := ⟨default, trivial⟩
  obtain ⟨x, -⟩ : ∃ z : Int, True := ⟨default, trivial⟩
  obtain ⟨y, -⟩ : ∃ z : Int, True := ⟨default, trivial⟩
  obtain ⟨tx, -⟩ : ∃ z : Tok, True := ⟨default, trivial⟩
  obtain ⟨ty, -⟩ : ∃ z : Tok, True := ⟨default, trivial⟩
  obtain ⟨n, -⟩ : ∃ z : Nat, True := ⟨default, trivial⟩
  obtain ⟨tk', -⟩ : ∃ z : Nat, True := ⟨default, trivial⟩
  obtain ⟨o1, -⟩ : ∃ z : Obj, True := ⟨default, trivial⟩
  obtain ⟨o2, -⟩ : ∃ z : Obj, True := ⟨default, trivial⟩
  revert T'
  revert X'
  revert B'
  revert N'
  revert F'
  revert FG'
  revert ret
  revert hsub
  revert hun
  revert hdp
  revert hk
  revert T
  revert N
  revert X
  revert F
  revert B
  revert e o de do' pe po nw v1 v2 he ho
  exact h prog w p loose mean mg mb dp un gd cn cs a ccd cl outer A₀ base h₀ L m news s pa x y tx ty n Q E g' L' h' tk' o1 o2⟩
noncomputable def Csame_ok.c : Cx := bad Csame_ok.pack.1
noncomputable def Csame_ok.prog : Program := Csame_ok.c.prog
noncomputable def Csame_ok.w : World := Csame_ok.c.w
noncomputable def Csame_ok.p : Program := Csame_ok.c.p
noncomputable def Csame_ok.loose : List Str := Csame_ok.c.loose
noncomputable def Csame_ok.mean : ExcName → Option Value := Csame_ok.c.mean
noncomputable def Csame_ok.mg : Str → Option Value := Csame_ok.c.mg
noncomputable def Csame_ok.mb : Str → Option Value := Csame_ok.c.mb
noncomputable def Csame_ok.dp : Nat := Csame_ok.c.dp
noncomputable def Csame_ok.un : Nat := Csame_ok.c.un
noncomputable def Csame_ok.gd : Option (List Code) := Csame_ok.c.gd
noncomputable def Csame_ok.cn : Str := Csame_ok.c.cn
noncomputable def Csame_ok.cs : Scope := Csame_ok.c.cs
noncomputable def Csame_ok.a : Addr := Csame_ok.c.a
noncomputable def Csame_ok.ccd : Value := Csame_ok.c.ccd
noncomputable def Csame_ok.cl : List (Str × Addr) := Csame_ok.c.cl
noncomputable def Csame_ok.outer : List Env := Csame_ok.c.outer
noncomputable def Csame_ok.A₀ : Around := Csame_ok.c.A₀
noncomputable def Csame_ok.base : Heap := Csame_ok.c.base
noncomputable def Csame_ok.h₀ : Heap := Csame_ok.c.h₀
noncomputable def Csame_ok.L : Addr := Csame_ok.c.L
noncomputable def Csame_ok.m : Str → Option Value := Csame_ok.c.m
noncomputable def Csame_ok.news : Lst := Csame_ok.c.news
noncomputable def Csame_ok.s : Shared := Csame_ok.c.s
noncomputable def Csame_ok.pa : Addr := Csame_ok.c.pa
noncomputable def Csame_ok.x : Int := Csame_ok.c.x
noncomputable def Csame_ok.y : Int := Csame_ok.c.y
noncomputable def Csame_ok.tx : Tok := Csame_ok.c.tx
noncomputable def Csame_ok.ty : Tok := Csame_ok.c.ty
noncomputable def Csame_ok.n : Nat := Csame_ok.c.n
noncomputable def Csame_ok.Q : Value → Shared → Prop := Csame_ok.c.Q
noncomputable def Csame_ok.E : Value → Shared → Prop := Csame_ok.c.E
noncomputable def Csame_ok.g' : Heap := Csame_ok.c.g'
noncomputable def Csame_ok.L' : Addr := Csame_ok.c.L'
noncomputable def Csame_ok.h' : Heap := Csame_ok.c.h'
noncomputable def Csame_ok.tk' : Nat := Csame_ok.c.tk'
noncomputable def Csame_ok.o1 : Obj := Csame_ok.c.o1
noncomputable def Csame_ok.o2 : Obj := Csame_ok.c.o2
open Csame_ok in
theorem Csame_ok.core : Csame_ok.pack.1 Csame_ok.prog Csame_ok.w Csame_ok.p Csame_ok.loose Csame_ok.mean Csame_ok.mg Csame_ok.mb Csame_ok.dp Csame_ok.un Csame_ok.gd Csame_ok.cn Csame_ok.cs Csame_ok.a Csame_ok.ccd Csame_ok.cl Csame_ok.outer Csame_ok.A₀ Csame_ok.base Csame_ok.h₀ Csame_ok.L Csame_ok.m Csame_ok.news Csame_ok.s Csame_ok.pa Csame_ok.x Csame_ok.y Csame_ok.tx Csame_ok.ty Csame_ok.n Csame_ok.Q Csame_ok.E Csame_ok.g' Csame_ok.L' Csame_ok.h' Csame_ok.tk' Csame_ok.o1 Csame_ok.o2 := by
  dsimp only [Csame_ok.pack]
  intro e o de do' pe po nw v1 v2 he ho B F X N T hk hdp hun hsub ret FG' F' N' B' X' T'
  (try dsimp only); (try k_fold)
  have hde := pe.dep
  have hdo := po.dep
  k_steps
  · refine ⟨?_⟩
    refine jc_ListComp (by decide) (by k_asm) (by rfl) (by decide) (by rfl) (by decide) ?_
    walk1
    refine jat_zipK (us := []) (vs := []) (fun _ ys nw' => nw' = _ ∧ ys = []) rfl (by k_asm) (by k_asm) it91 it92 lt9 (by k_mem) (by k_mem) (Nat.le_of_ble_eq_true rfl) rfl (by decide) (by decide) (by decide) ⟨rfl, rfl⟩ ?_ ?_
    · intro s₂ i x y ys hs news' its C oC D m₂ h tk E' hx
      simp at hx
    · rintro ys news' ⟨rfl, rfl⟩ D' h' tk' F' N' o1'
      k_steps
      all_goals (exact ret _ _ _ _ (by k_asm) (fin_read (by k_asm) (by walk_at "m_splitR")) (by walk_at "m_far") (by rw [show namesE e = [] by assumption, show namesE o = [] by assumption]; rfl))
  · exact ret _ _ _ _ (by k_asm) (fin_read (by k_asm) (by walk_at "m_splitR")) (by walk_at "m_far") (by rw [show namesE e = [] by assumption, show namesE o = [_] by assumption]; rfl)
  · exact ret _ _ _ _ (by k_asm) (fin_read (by k_asm) (by walk_at "m_splitR")) (by walk_at "m_far") (by rw [show namesE e = [_] by assumption, show namesE o = [] by assumption]; rfl)
  · refine ⟨?_⟩
    refine jc_ListComp (by decide) (by k_asm) (by rfl) (by decide) (by rfl) (by decide) ?_
    walk1
    refine jat_zipK (us := [_]) (vs := [_]) (fun i ys nw' => nw' = _ ∧ ys = ([Value.bool (sameE (namesE e) (namesE o))]).take i) rfl (by k_asm) (by k_asm) it91 it92 lt9 (by k_mem) (by k_mem) (Nat.le_of_ble_eq_true rfl) rfl (by decide) (by decide) (by decide) ⟨rfl, rfl⟩ ?_ ?_
    · intro s₂ i x y ys hs news' its C oC D m₂ h tk E' hx hy hma hmb hJ hNs hmap off hCD hkk F' N'
      obtain ⟨rfl, hys⟩ := hJ
      obtain ⟨rfl, rfl⟩ := one_get hx
      obtain ⟨_, rfl⟩ := one_get hy
      rename ExprAt _ _ _ (Ex.name _ _ _ _) => hB
      cases hB
      rename ExprAt _ _ _ (Ex.name _ _ _ _) => hA
      cases hA
      refine (show wpAny _ _ _ _ _ _ from ?_)
      k_steps
      all_goals (refine jEnd_of (by k_asm) (by k_asm) (fun _ h => h) (by assumption) (by assumption) ⟨rfl, ?_⟩)
      all_goals (rw [hys, show namesE e = [_] by assumption, show namesE o = [_] by assumption]; show [Value.bool _] = [Value.bool _]; first | exact congrArg (fun b => [Value.bool b]) (same_t (by assumption)) | exact congrArg (fun b => [Value.bool b]) (same_f (by assumption)))
    · intro ys news' hJ D' h' tk' F' N' o1'
      obtain ⟨rfl, hys⟩ := hJ
      have hys' : ys = [Value.bool (sameE (namesE e) (namesE o))] := hys
      subst hys'
      clear hys
      k_steps
      all_goals (exact ret _ _ _ _ (by k_asm) (fin_read (by k_asm) (by walk_at "m_splitR")) (by walk_at "m_far") (by first | rfl | simp_all))
theorem same_ok {prog : Program} {w : World} {p : Program} {loose : List Str} {mean : ExcName → Option Value} {mg mb : Str → Option Value} {e o : Ex} {de do' : Dat} (pe : Plain e de) (po : Plain o do') {nw : Lst} {v1 v2 : Value} (he : ExprAt w.params nw v1 e) (ho : ExprAt w.params nw v2 o) : ReadC prog w p loose mean mg mb 850 706 [v1, v2] nw (fun _ r => r = .bool (sameE (namesE e) (namesE o))) := Csame_ok.pack.2 (of_bad (by with_unfolding_all exact Csame_ok.core)) prog w p loose mean mg mb e o de do' pe po nw v1 v2 he ho

def rowD : Ex → Dat
  | .lit v => .tuple [.str (Str.ofString "literal"), .str (Str.ofString "integer"), .int v]
  | .name t c _ _ => .tuple [.str (Str.ofString "name"), t, .str c]
  | .bin op l r => .tuple [.str (Str.ofString "binary"), .str op, rowD l, rowD r]
  | .scal _ => .none
structure RowOn : Prop where
theorem words09_12 : True := by
  k_with "@m_row" => (
      k_steps
      change wpAny _ _ (call (Value.ref _) [Value.ref xa]) _ _ _
      refine wpAny_call ?_
      k_dflt (refine' enter [(Str.ofString "self", .ref xa)] ?k1 ?k2 ?k3 ?k4 ?k5 ?kA ?kF ?kK ?k6 ?k7 ?k8 ?k9 ?kB ?_ ?c2 ?c3 ?c4 ?c5; walk_at "m_enter")
      k_steps
      all_goals (exact ret' _ _ _ _ (by k_asm) (fin_read (by k_asm) (by walk_at "m_splitR")) (by walk_at "m_far") (by simp only [rowD]; walk_at "m_dat")))
  k_with "@eval Name" => (
      k_here; (rename RowOn => ro9); (with_reducible show wpAny _ _ (eval (PySem.Expr.Name x _) _) _ _ _); k_dflt (refine' nameX_L ?gF ?gv ?_ ?ga ?gb ?gc; (case gF => k_asm); (case gv => with_reducible assumption); (case ga => with_reducible assumption); (case gb => with_reducible assumption); (case gc => with_reducible assumption)); clear ro9)
  trivial
section
variable {prog : Program} {w : World} {p : Program} {loose : List Str} {mean : ExcName → Option Value} {mg mb : Str → Option Value}
/-- the row of a drawn term -/
theorem row_ok {e : Ex} {d : Dat} (pe : Plain e d) {nw : Lst} {v : Value} (he : ExprAt w.params nw v e) {x : Str} {px pp pos : Pos} {dp un : Nat} {gd : Option (List Code)} {cn : Str} {cs : Scope} {a : Addr} {ccd : Value} {cl : List (Str × Addr)} {outer : List Env} {A₀ : Around} {base h₀ : Heap} {L : Addr} {m : Str → Option Value} {led : Lst} {out : Lst → Lst}
    {hp₀ : Heap} {gs₀ : Array GenState} {dr₀ : Drawn} {tk₀ : Nat} {os₀ : OsState} {Q E : Value → Shared → Prop} (B : Below A₀ base outer h₀) (F : Fr h₀ L hp₀ m) (X : (top.heap_1_39 w.params).In h₀) (N : News h₀ L hp₀ led) (T : Top p loose mean mg mb h₀) (hk : cs.kind = .function) (hdp : dp < 850) (hun : un < 5 * 850) (hn : ∀ q ∈ nw, q ∈ led)
    (hs : ∀ tl, Sift tl led (out tl)) (hx : m x = some v) (hxk : (envX cn cs L a ccd cl).kindOf x = some .local) (hxd : (x == ("__debug__" : Str)) = false) {pl : Sem Bool}
    (hev : eval (.Call (.Attribute (.Name x px) (Str.ofString "row") pp) [] [] pos) (envX cn cs L a ccd cl) = (do
      let ov ← eval (.Name x px) (envX cn cs L a ccd cl)
      standAt pp.atName
      let (f, first) ← holding [ov] (getMethod ov (Str.ofString "row") pl)
      callWith pos f first (backTo pos (starEach [] (envX cn cs L a ccd cl))) []))
    (ret : ∀ r tl h' tk', Fr h₀ L h' m → News h₀ L h' (out tl) → Far tl led → DatIn (tl ++ nw) r (rowD e) → Q r ⟨h', gs₀, dr₀, tk', os₀⟩) :
    wpAny (model prog w) (ktrTop dp un gd cn cs L a ccd cl outer) (eval (.Call (.Attribute (.Name x px) (Str.ofString "row") pp) [] [] pos) (envX cn cs L a ccd cl)) Q E ⟨hp₀, gs₀, dr₀, tk₀, os₀⟩ := by
  have ret' : ∀ r tl h' tk', Fr h₀ L h' m → News h₀ L h' (tl ++ led) → Far tl led → DatIn (tl ++ nw) r (rowD e) → Q r ⟨h', gs₀, dr₀, tk', os₀⟩ := fun r tl h' tk' F' N' f' q' => ret r tl h' tk' F' (fun p hp => N' p ((hs tl).sub p hp)) f' q'
  clear ret hs
  have ro9 : RowOn := ⟨⟩
  refine MethodCall_ (pl := pl) ?_ hev
  clear hev
  obtain ⟨xa, exa⟩ := he.ref
  subst exa
  cases pe with
  | lit v => cases he; walk_at "m_row"
  | name n p g1 g2 => cases he; walk_at "m_row"
  | sum n p g1 g2 =>
    cases he
    rename ExprAt _ _ _ (Ex.name _ _ _ _) => g3
    cases g3
    rename ExprAt _ _ _ (Ex.lit _) => g4
    cases g4
    walk_at "m_row"
end
theorem words09_13 : True := by
  k_with "@eval Call Attribute" => (
      k_here; (with_reducible show wpAny _ _ (eval (PySem.Expr.Call (PySem.Expr.Attribute (PySem.Expr.Name _ _) (Str.ofString "row") _) [] [] _) _) _ _ _)
      k_dflt (refine' row_ok ?rp ?rh ?B ?F ?X ?N ?T ?K ?D ?U ?S ?Z ?rv ?rka ?rkb ?rc ?_; (case F => k_asm); (case rv => exact rfl); (case rc => rfl); (case rh => with_reducible assumption); (case rp => with_reducible assumption); (case rka => rfl); (case rkb => decide); (case B => k_asm); (case X => k_asm); (case N => k_asm); (case T => k_asm); (case K => first | exact rfl | assumption); (case D => first | ktr_room | omega); (case U => first | ktr_units | omega); (case S => walk_at "m_sub"); (case Z => intro tl; walk_at "m_sift"))
      intro r9 tl9 h9 tk9 F9 N9 f9 q9; (try dsimp only); (try k_fold))
  trivial
def GoodO (o : Ex) : Prop := (∃ d, Plain o d) ∨ (hasSub o = true ∧ dep o ≤ 5)
inductive OutsAt (P : Params) (nw : Lst) : List Value → List Ex → Prop
  | nil : OutsAt P nw [] []
  | cons {t : Addr} {sv : Str} {ts : Tok} {nv : Value} {n : Nat} {o : Ex} {vs : List Value} {es : List Ex} : (t, ({ cls := .type "tuple", data := .seq #[.str sv ts, nv] n } : Obj)) ∈ nw → ExprAt P nw nv o → GoodO o → OutsAt P nw vs es → OutsAt P nw (.ref t :: vs) (o :: es)
theorem OutsAt.length {P : Params} {nw : Lst} {vs : List Value} {es : List Ex} (h : OutsAt P nw vs es) : vs.length = es.length := by
  induction h with
  | nil => rfl
  | cons _ _ _ _ ih => rw [List.length_cons, List.length_cons, ih]
inductive OutO (P : Params) (nw : Lst) (vs : List Value) (es : List Ex) (i : Nat) : Prop
  | mk (t : Addr) (sv : Str) (ts : Tok) (nv : Value) (n : Nat) (o : Ex) : vs[i]? = some (.ref t) → es[i]? = some o → (t, ({ cls := .type "tuple", data := .seq #[.str sv ts, nv] n } : Obj)) ∈ nw → ExprAt P nw nv o → GoodO o → OutO P nw vs es i
theorem OutsAt.get {P : Params} {nw : Lst} {vs : List Value} {es : List Ex} (h : OutsAt P nw vs es) : ∀ {i : Nat}, i < es.length → OutO P nw vs es i := by
  induction h with
  | nil => intro i hi; simp at hi
  | cons a b c _ ih =>
    intro i hi
    cases i with
    | zero => exact ⟨_, _, _, _, _, _, rfl, rfl, a, b, c⟩
    | succ i =>
      obtain ⟨t, sv, ts, nv, n, o, h1, h2, h3, h4, h5⟩ := ih (Nat.lt_of_succ_lt_succ hi)
      exact ⟨t, sv, ts, nv, n, o, h1, h2, h3, h4, h5⟩
theorem OutsAt.mono {P : Params} {nw nw' : Lst} {vs : List Value} {es : List Ex} (h : OutsAt P nw vs es) (hs : ∀ p ∈ nw, p ∈ nw') : OutsAt P nw' vs es := by
  induction h with
  | nil => exact .nil
  | cons a b c _ ih => exact .cons (hs _ a) (b.mono hs) c ih
def Likes (e o : Ex) : Prop := hasSub o = false ∧ rowD e = rowD o ∧ sameE (namesE e) (namesE o) = true
def LikeR (e : Ex) (es : List Ex) (r : Value) : Prop :=
  (∃ (i : Nat) (t : Tok) (o : Ex), r = .int (i : Int) t ∧ es[i]? = some o ∧ Likes e o ∧ ∀ (j : Nat), j < i → ∀ o', es[j]? = some o' → ¬ Likes e o') ∨ (r = .none ∧ ∀ o ∈ es, ¬ Likes e o)
structure Halt : Prop where
theorem len_K {prog : Program} {w : World} {A : Around} {E : Value → Shared → Prop} {s : Shared} {h₀ : Heap} {L l : Addr} {news : Lst} {vs : List Value} {n : Nat} {Q : Value → Shared → Prop} (N : News h₀ L s.heap news) (hm : (l, listOf vs.toArray n) ∈ news) (hz : vs.length ≤ 1000000)
    (h : Q (.int (vs.length : Int) (s.toks + 1)) { s with toks := s.toks + 1 + 1 }) : wpAny (model prog w) A (call (.builtin "len") [.ref l]) Q E s := by
  refine PyProof.Rows.len_list ⟨_, (N _ hm).1, rfl, _, rfl⟩ ?_ (by simpa using h)
  have : vs.toArray.size = vs.length := by simp
  rw [this]
  have h2 : (vs.length : Int) ≤ 1000000 := by omega
  exact Int.lt_of_le_of_lt h2 (by decide)
theorem item_at {prog : Program} {w : World} {A : Around} {E : Value → Shared → Prop} {s : Shared} {h₀ : Heap} {L l : Addr} {news : Lst} {vs : List Value} {n i : Nat} {v : Value} {u : Tok} {value slice : PySem.Expr} {Q : Value → Shared → Prop} (N : News h₀ L s.heap news) (hm : (l, listOf vs.toArray n) ∈ news) (hx : vs[i]? = some v) (hi : i ≤ 1000000) (h : Q v s)
    (hs : subscripted slice false (.ref l) (.int (0 + (i : Int)) u) = operate [.ref l, .int (0 + (i : Int)) u] (getItem (.ref l) (.int (0 + (i : Int)) u)) := by with_unfolding_all rfl) :
    wpAny (model prog w) A (subscriptTail value slice (.ref l) (.int (0 + (i : Int)) u)) Q E s :=
  item_litK ⟨_, (N _ hm).1, rfl, _, rfl⟩ (by omega) (Int.lt_of_le_of_lt (show (0 : Int) + (i : Int) ≤ 1000000 by omega) (by decide)) (by rw [show ((0 : Int) + (i : Int)).toNat = i by omega]; exact hx) h hs
open Classical in
theorem dat_eq {prog : Program} {w : World} {A : Around} {E : Value → Shared → Prop} {s : Shared} {h₀ : Heap} {L : Addr} {news n₁ n₂ : Lst} {v v' : Value} {d d' : Dat} {Q : Value → Shared → Prop} (N : News h₀ L s.heap news) (D1 : DatIn n₁ v d) (s1 : ∀ p ∈ n₁, p ∈ news) (D2 : DatIn n₂ v' d') (s2 : ∀ p ∈ n₂, p ∈ news)
    (ok1 : kqdOk 8 d = true) (ok2 : kqdOk 8 d' = true) (hu : A.units + 64 < cLine) (h : Q (.bool (decide (d = d'))) s) : wpAny (model prog w) A (compareOp .Eq v v') Q E s := by
  obtain ⟨as, ra⟩ := kqd_in N 8 (D1.mono s1) ok1
  obtain ⟨bs, rb⟩ := kqd_in N 8 (D2.mono s2) ok2
  have la := kqd_lay 8 d ok1
  have lb := kqd_lay 8 d' ok2
  have e : PyData.eqv (kqdP d) (kqdP d') = decide (d = d') := by
    have q := kqd_eqv 8 d d' 8 ok1 ok2
    by_cases hq : d = d'
    · rw [decide_eq_true hq]; exact q.mpr hq
    · rw [decide_eq_false hq]; exact Bool.eq_false_iff.mpr fun x => hq (q.mp x)
  refine eq_dataH ra rb ?_ ?_ hu (by rw [e]; exact h)
  · unfold SeqAt.shaped; rw [la.1, Bool.true_and]; exact decide_eq_true (Nat.le_trans la.2 (by decide))
  · unfold SeqAt.shaped; rw [lb.1, Bool.true_and]; exact decide_eq_true (Nat.le_trans lb.2 (by decide))
theorem TbD.ok {d : Dat} (h : TbD d) (n : Nat) : kqdOk n d = true := by
  rcases h with rfl | rfl
  · cases n <;> rfl
  · cases n <;> (show PyData.strOk _ = true; decide +kernel)
theorem plain_row {e : Ex} {d : Dat} (h : Plain e d) : kqdOk 8 (rowD e) = true := by
  have k1 : PyData.strOk (Str.ofString "literal") = true := by decide +kernel
  have k2 : PyData.strOk (Str.ofString "integer") = true := by decide +kernel
  have k3 : PyData.strOk (Str.ofString "name") = true := by decide +kernel
  have k4 : PyData.strOk (Str.ofString "binary") = true := by decide +kernel
  have k5 : PyData.strOk (Str.ofString "+") = true := by decide +kernel
  cases h with
  | lit v => simp [rowD, kqdOk, k1, k2]
  | name n p g1 g2 => simp [rowD, kqdOk, k3, g1.ok, g2]
  | sum n p g1 g2 => simp [rowD, kqdOk, k1, k2, k3, k4, k5, g1.ok, g2]
theorem rr_loop {prog : Program} {w : World} {A : Around} {E : Value → Shared → Prop} {s : Shared} {env : Env} {h₀ : Heap} {x : Str} {body : List Stmt} {Q : Flow → Shared → Prop} {I : Addr} {a : Int} {n : Nat} {m₀ : Str → Option Value} {news₀ : Lst} (J : Nat → (Str → Option Value) → Lst → Prop) (hJ : J 0 m₀ news₀)
    (stop : ∀ m nw, J n m nw → ∀ h tk, Fr h₀ env.locals h m → News h₀ env.locals h nw → Q .next { s with heap := h, toks := tk })
    (turn : ∀ (i : Nat) m nw, i < n → J i m nw → ∀ t h tk, Fr h₀ env.locals h (fun y => if y = x then some (.int (a + (i : Int)) t) else m y) → News h₀ env.locals h ((I, itR (a + ((i + 1 : Nat) : Int)) ((n : Int) - ((i + 1 : Nat) : Int))) :: nw) →
      wpAny (model prog w) A (execs body env) (UnrPost h₀ env.locals { s with heap := h, toks := tk } I (itR (a + ((i + 1 : Nat) : Int)) ((n : Int) - ((i + 1 : Nat) : Int))) (J (i + 1)) Q) E { s with heap := h, toks := tk }) :
    RangeRest prog w A E h₀ env x body Q s I a n n 0 m₀ news₀ := by
  have go : ∀ (k i : Nat) m nw, k + i = n → J i m nw → RangeRest prog w A E h₀ env x body Q s I a n k i m nw := by
    intro k
    induction k with
    | zero =>
      intro i m nw hk hj
      have : i = n := by omega
      subst this
      exact RangeRest.zero (stop m nw hj)
    | succ k ih =>
      intro i m nw hk hj
      refine RangeRest.succ fun t h tk F N => ?_
      refine wpAny_mono (turn i m nw (by omega) hj t h tk F N) (fun f s₂ q => ?_) fun _ _ e => e
      cases f with
      | ret v => exact q
      | brk => exact q
      | next => obtain ⟨h', tk', m', n', e, F', N', o, r⟩ := q; exact ⟨h', tk', m', n', e, F', N', o, ih _ _ _ (by omega) r⟩
      | cont => obtain ⟨h', tk', m', n', e, F', N', o, r⟩ := q; exact ⟨h', tk', m', n', e, F', N', o, ih _ _ _ (by omega) r⟩
  exact go n 0 m₀ news₀ rfl hJ
theorem unr_end {h₀ : Heap} {L I : Addr} {it : Obj} {rest : (Str → Option Value) → Lst → Prop} {s₁ : Shared} {h' : Heap} {tk : Nat} {m' : Str → Option Value} {all news Z : Lst} (F : Fr h₀ L h' m') (N : News h₀ L h' all) (hm : (I, it) ∈ all) (hs : Split I news all Z) (off : ∀ p ∈ Z ++ news, p.1 ≠ I) (r : rest m' (Z ++ news)) :
    UnrEnd h₀ L s₁ I it rest { s₁ with heap := h', toks := tk } :=
  UnrEnd.intro F N _ (fun p hp => by
    rcases List.mem_cons.mp hp with rfl | hp
    · exact hm
    · exact hs.sub p hp) off r
theorem likes_step {e : Ex} {es : List Ex} {i : Nat} {o : Ex} (hno : ∀ (j : Nat), j < i → ∀ o', es[j]? = some o' → ¬ Likes e o') (hg : es[i]? = some o) (h : ¬ Likes e o) : ∀ (j : Nat), j < i + 1 → ∀ o', es[j]? = some o' → ¬ Likes e o' := by
  intro j hj o' ho'
  rcases Nat.lt_or_eq_of_le (Nat.le_of_lt_succ hj) with hj | rfl
  · exact hno j hj o' ho'
  · rw [hg] at ho'; cases ho'; exact h
theorem canon_other {a b : Str} {v v' : Value} {u g : Str → Option Value} : (fun y => if y = a then some v else if y = b then some v' else (fun z => if z = a then u z else if z = b then u z else g z) y) = (fun z => if z = a then (if z = a then some v else some v') else if z = b then (if z = a then some v else some v') else g z) := by
  funext z
  by_cases h1 : z = a
  · simp [h1]
  · by_cases h2 : z = b <;> simp [h1, h2]
theorem words09_14 : True := by
  k_with "@subscriptTail" => (
      k_here; (with_reducible show wpAny _ _ (subscriptTail _ _ (Value.ref _) (Value.int (0 + _) _)) _ _ _)
      (with_unfolding_all refine' item_at ?iN ?im ?ix ?ii ?_ ?is; (case iN => k_asm); (case ix => with_reducible assumption); (case im => k_mem); (case ii => omega); (case is => with_unfolding_all rfl)); (try dsimp only))
  k_with "@compareOp Eq" => (
      plain_pass
      k_here; (with_reducible show wpAny _ _ (compareOp CmpOp.Eq _ _) _ _ _)
      k_dflt (refine' dat_eq ?dN ?dA ?dS ?dB ?dT ?dO ?dP ?dU ?_; (case dN => k_asm); (case dA => with_reducible assumption); (case dS => walk_at "m_sub"); (case dB => with_reducible assumption); (case dT => walk_at "m_sub"); (case dO => exact plain_row (by with_reducible assumption)); (case dP => exact plain_row (by with_reducible assumption)); (case dU => first | ke_room | ktr_units)); (try dsimp only))
  k_with "@UnrEnd" => ((rename Halt => halt); refine stop_of ?_)
  k_with "@pyIter ref" => ((rename Halt => halt); refine stop_of ?_)
  k_with "@call builtin:len" => (
      k_here; (with_reducible show wpAny _ _ (call (Value.builtin "len") [Value.ref _]) _ _ _)
      k_dflt (refine' len_K ?lN ?lm ?lz ?_; (case lN => k_asm); (case lm => k_mem); (case lz => omega)); (try dsimp only))
  k_with "@call ref" => (
      k_here; (with_reducible show wpAny _ _ (call (Value.ref 706) [_, _]) _ _ _)
      k_dflt (refine' ReadC.use (same_ok ?hp1 ?hp2 ?h1 ?h2) ?B ?F ?X ?N ?T ?K ?D ?U ?S ?Z ?_; (case h1 => with_reducible assumption); (case h2 => with_reducible assumption); (case hp1 => with_reducible assumption); (case hp2 => with_reducible assumption); walk_at "m_read")
      subst q9; (generalize hsm : sameE _ _ = b9); cases b9 <;> (try dsimp only) <;> (try k_fold))
  k_with "@call ref" => (
      k_here; (with_reducible show wpAny _ _ (call (Value.ref 581) [_]) _ _ _)
      k_dflt (refine' ReadC.use (hasSub_ok _ ?h) ?B ?F ?X ?N ?T ?K ?D ?U ?S ?Z ?_; (case h => with_reducible assumption); walk_at "m_read")
      subst q9; (try rw [show hasSub _ = false by with_reducible assumption]); (try rw [show hasSub _ = true by with_reducible assumption]); (try dsimp only); (try k_fold))
  trivial
inductive LikeJ (e : Ex) (es : List Ex) (base : Str → Option Value) (news : Lst) (I : Addr) (i : Nat) (m : Str → Option Value) (nw : Lst) : Prop
  | mk {u : Str → Option Value} {Z : Lst} : (∀ (j : Nat), j < i → ∀ o', es[j]? = some o' → ¬ Likes e o') → m = (fun z => if z = Str.ofString "other" then u z else if z = Str.ofString "place" then u z else base z) → nw = Z ++ news → Far Z news → (∀ q ∈ Z, q.1 ≠ I) → LikeJ e es base news I i m nw
section
variable {prog : Program} {w : World} {p : Program} {loose : List Str} {mean : ExcName → Option Value} {mg mb : Str → Option Value}
theorem like_ok {e : Ex} {de : Dat} (pe : Plain e de) {nw : Lst} {v1 : Value} {l : Addr} {vs : List Value} {nl : Nat} {es : List Ex} (he : ExprAt w.params nw v1 e) (hl : (l, listOf vs.toArray nl) ∈ nw) (ho : OutsAt w.params nw vs es) (hlen : es.length ≤ 1000) :
    ReadC prog w p loose mean mg mb 800 701 [v1, .ref l] nw (fun _ r => LikeR e es r) := by
  unfold ReadC
  intro dp un gd cn cs a ccd cl outer A₀ base h₀ L m news s Q E B F X N T hk hdp hun hsub ret
  refine wpAny_call ?_
  k_dflt (refine' enter [(Str.ofString "expr", v1), (Str.ofString "outputs", .ref l)] ?k1 ?k2 ?k3 ?k4 ?k5 ?kA ?kF ?kK ?k6 ?k7 ?k8 ?k9 ?kB ?_ ?c2 ?c3 ?c4 ?c5; walk_at "m_enter")
  have hns := pe.ns
  have hde := pe.dep
  have hvl := ho.length
  have halt : Halt := ⟨⟩
  k_steps
  refine ⟨?_⟩
  refine iter_rangeUnr (n := vs.length) rfl (by assumption) ?small ?size (by k_asm) (by k_asm) ?_
  case small => exact small_one (by omega) (by omega) (by omega) (by omega)
  case size => exact rangeSize_nat _ _
  intro I hI
  have ltI : ∀ q ∈ news, @LT.lt Nat _ q.1 I := fun q hq => hI q (List.mem_append_right _ hq)
  have ltI' : ∀ q ∈ tl9, @LT.lt Nat _ q.1 I := fun q hq => hI q (List.mem_append_left _ hq)
  refine rr_loop (J := LikeJ e es (fun z => List.lookup z [(Str.ofString "expr", v1), (Str.ofString "outputs", Value.ref l)].reverse) news I) ?_ ?_ ?_
  · refine .mk (u := fun y => List.lookup y [(Str.ofString "expr", v1), (Str.ofString "outputs", Value.ref l)].reverse) (Z := tl9) (fun j hj => absurd hj (Nat.not_lt_zero j)) ?_ rfl f9 (fun q hq => Nat.ne_of_lt (ltI' q hq))
    funext z
    split
    · rfl
    · split <;> rfl
  · rintro m' nw' hj h' tk' F' N'
    cases hj with
    | @mk u Z hno em en fZ nZ =>
    subst em en
    k_steps
    refine ret _ Z _ _ (by k_asm) (by k_asm) fZ (Or.inr ⟨rfl, fun o ho' => ?_⟩)
    obtain ⟨j, hj, hj'⟩ := List.getElem_of_mem ho'
    exact hno j (by omega) o (by rw [List.getElem?_eq_getElem hj, hj'])
  · rintro i m' nw' hi hj t' h' tk' F' N'
    cases hj with
    | @mk u Z hno em en fZ nZ =>
    subst em en
    obtain ⟨t, sv, ts, nv, n, o, hg1, hg2, hg3, hg4, hg5⟩ := ho.get (i := i) (by omega)
    have nI : ∀ q ∈ news, q.1 ≠ I := fun q hq => Nat.ne_of_lt (ltI q hq)
    rcases hg5 with ⟨d, hp⟩ | ⟨hs, hd⟩
    · have hos := hp.ns
      have hod := hp.dep
      k_steps
      all_goals first
        | (refine ⟨unr_end (by k_asm) (by k_asm) (by k_mem) (by walk_at "m_split") (by k_all) (.mk (likes_step hno hg2 (fun q => by have q1 := q.2.1; have q2 := q.2.2; simp_all)) canon_other rfl (by walk_at "m_far") (by k_all))⟩)
        | (exact ret _ _ _ _ (by k_asm) (fin_read (by k_asm) (by walk_at "m_splitR")) (by walk_at "m_far") (Or.inl ⟨i, t', o, by rw [Int.zero_add], hg2, ⟨hos, by simp_all, by assumption⟩, hno⟩))
    · k_steps
      all_goals (refine ⟨unr_end (by k_asm) (by k_asm) (by k_mem) (by walk_at "m_split") (by k_all) (.mk (likes_step hno hg2 (fun q => by rw [q.1] at hs; cases hs)) canon_other rfl (by walk_at "m_far") (by k_all))⟩)
end

section
variable {prog : Program} {w : World} {A : Around} {E : Value → Shared → Prop} {s : Shared} {h₀ : Heap} {L : Addr} {m : Str → Option Value} {news : Lst} {p : Program} {loose : List Str} {mean : ExcName → Option Value} {mg mb : Str → Option Value} {A₀ : Around} {base : Heap} {K : Frag}
theorem enterC {env : Env} {outer : List Env} {R : Result → Shared → Prop} {name qual : Str} {params : Arguments} {body : List Stmt} {scope : Scope} {dV kV doc pm cdv ct oc : Value} {an od : Option Addr} {osl : Array (Option Value)} {f : Addr} {args : Args} (binds : List (Str × Value))
    (B : Below A₀ base outer h₀) (F : Fr h₀ L s.heap m) (X₀ : K.In h₀) (N : News h₀ L s.heap news) (T : Top p loose mean mg mb h₀) (hA : A.frames = some (env :: outer)) (hf : env.frame = some L) (hke : env.scope.kind = .function)
    (ho : K.lookup f = some ⟨oc, od, .func (fnOf name qual params body scope dV kV doc pm an cdv ct), osl⟩) (hcd : codeIn K cdv qual = true) (hroom : A.depth < recursionLimit)
    (hbind : BindsTo s (fnOf name qual params body scope dV kV doc pm an cdv ct) args binds) (hkind : (binds.all fun y => scope.names.lookup y.1 == some .local || scope.names.lookup y.1 == some .cell) = true)
    (hnd : ((cellsFrom 0 scope.names []).map (·.1)).Nodup)
    (h : ∀ g L' h₁ tk cells, Fr h₀ L g m → Fr g L' h₁ (bindL (envOfC qual scope L' f cdv).kindOf binds fun _ => none) → News g L' h₁ (cells ++ news) →
      CellsAre (bindC (envOfC qual scope L' f cdv).kindOf binds fun _ => none) (cellsFrom (L' + 1) scope.names []) cells → Below A base (env :: outer) g → K.In g → Top p loose mean mg mb g → (∀ p ∈ news, p.1 < L') →
      wpAny (model prog w) (A.deeper (envOfC qual scope L' f cdv)) (execs body (envOfC qual scope L' f cdv))
        (fun fl s' => LeaveK h₀ L m g R (match fl with | .ret v => v | _ => .none) s')
        (fun e s' => wpAny (model prog w) (A.deeper (envOfC qual scope L' f cdv)) (leaving (envOfC qual scope L' f cdv) e) (fun _ s'' => R (.error e) s'') (fun e' s'' => R (.error e') s'') s')
        { s with heap := h₁, toks := tk })
    (hco : scope.isCoroutine = false) (hgen : scope.isGenerator = false) (hk : scope.kind = .function) : codeAny (model prog w) A (.call (.ref f) args) R s :=
  code_defC B F X₀ N T hA hf hke ho hcd hroom hbind hkind hnd h hco hgen hk
end
inductive Items (P : Params) (nw : Lst) : List Value → List (Ex × Dat) → Prop
  | nil : Items P nw [] []
  | cons {v : Value} {vs : List Value} {e : Ex} {d : Dat} {xs : List (Ex × Dat)} : ItemAt P nw v e d → Items P nw vs xs → Items P nw (v :: vs) ((e, d) :: xs)
structure Open9 : Prop where
inductive ItemO (P : Params) (nw : Lst) (r : Value) (e : Ex) (d : Dat) : Prop
  | mk (a : Addr) (vn vt : Value) (n : Nat) : r = .ref a → (a, listOf #[vn, vt] n) ∈ nw → ExprAt P nw vn e → DatIn nw vt d → Plain e d → ItemO P nw r e d
theorem item_any {P : Params} {nw : Lst} {r : Value} {e : Ex} {d : Dat} (h : ItemAt P nw r e d) : ItemO P nw r e d := by
  obtain ⟨a, vn, vt, n, h1, h2, h3, h4, h5⟩ := h
  exact ⟨a, vn, vt, n, h1, h2, h3, h4, h5⟩
theorem st_cellP {M : Model} {A : Around} {E : Value → Shared → Prop} {s : Shared} {h₀ : Heap} {L a : Addr} {m : Str → Option Value} {cn : Str} {cs : Scope} {ccd : Value} {cl : List (Str × Addr)} {x : Str} {v : Value} {Q : Unit → Shared → Prop} {led rest : Lst} {c : Addr} {o : Obj} {v₀ : Option Value}
    (F : Fr h₀ L s.heap m) (N : News h₀ L s.heap led) (hc : cl.lookup x = some c) (P : Pull c o led rest) (ha : ∀ q ∈ rest, q.1 ≠ c) (hd : o.data = .cell v₀)
    (h : ∀ h' o', Fr h₀ L h' m → News h₀ L h' ((c, o') :: rest) → o'.data = .cell (some v) → Q () { s with heap := h' })
    (hk : cs.kind = .function := by rfl) (hx : (envX cn cs L a ccd cl).kindOf x = some .cell := by rfl) : wpAny M A (storeName (envX cn cs L a ccd cl) x v) Q E s := by
  have hmem := N (c, o) (P.sub _ (.head _))
  refine wpAny_storeName_cell hk hx hc ⟨o, hmem.1, hd⟩ fun h' hv hs => ?_
  obtain ⟨o', ho', hd'⟩ := hv
  refine h h' o' ⟨F.ns.sameBut hs (Ne.symm hmem.2.1), fun b ob e => (hs.2 b (fun q => ?_)).trans (F.keep b ob e), F.above⟩ (fun p hp => ?_) hd'
  · rw [q, hmem.2.2] at e; cases e
  · rcases List.mem_cons.mp hp with rfl | hp
    · exact ⟨ho', hmem.2⟩
    · have z := N p (P.sub _ (.tail _ hp))
      exact ⟨(hs.2 _ (ha p hp)).trans z.1, z.2⟩
theorem Items.get {P : Params} {nw : Lst} {vs : List Value} {xs : List (Ex × Dat)} (h : Items P nw vs xs) : ∀ {i : Nat} {v : Value}, vs[i]? = some v → ∃ e d, xs[i]? = some (e, d) ∧ ItemAt P nw v e d := by
  induction h with
  | nil => intro i v e; simp at e
  | @cons u us e d xs a _ ih =>
    intro i v h
    cases i with
    | zero => exact ⟨e, d, rfl, by simpa using (Option.some.inj h) ▸ a⟩
    | succ i => exact ih h
theorem pick_item {prog : Program} {w : World} {A : Around} {E : Value → Shared → Prop} {s : Shared} {h₀ : Heap} {L l : Addr} {P : Params} {led Z : Lst} {vs : List Value} {xs : List (Ex × Dat)} {n : Nat} {k : Int} {u : Tok} {value slice : PySem.Expr} {Q : Value → Shared → Prop} (N : News h₀ L s.heap led) (hm : (l, listOf vs.toArray n) ∈ led) (hit : Items P Z vs xs) (h0 : 0 ≤ k) (hk : k < (vs.length : Int)) (hlen : vs.length ≤ 1000000)
    (h : ∀ a vn vt n e d, (a, listOf #[vn, vt] n) ∈ Z → ExprAt P Z vn e → DatIn Z vt d → Plain e d → Q (.ref a) s)
    (hs : subscripted slice false (.ref l) (.int k u) = operate [.ref l, .int k u] (getItem (.ref l) (.int k u)) := by with_unfolding_all rfl) :
    wpAny (model prog w) A (subscriptTail value slice (.ref l) (.int k u)) Q E s := by
  have hlt : k.toNat < vs.length := by omega
  obtain ⟨e, d, _, a, vn, vt, n', e1, e2, e3, e4, e5⟩ := hit.get (List.getElem?_eq_getElem hlt)
  exact item_litK ⟨_, (N _ hm).1, rfl, _, rfl⟩ h0 (Int.lt_of_lt_of_le hk (Int.le_trans (show (vs.length : Int) ≤ 1000000 by omega) (by decide))) (List.getElem?_eq_getElem hlt) (e1 ▸ h _ _ _ _ _ _ e2 e3 e4 e5) hs
theorem Items.mono {P : Params} {nw nw' : Lst} {vs : List Value} {xs : List (Ex × Dat)} (h : Items P nw vs xs) (hs : ∀ p ∈ nw, p ∈ nw') : Items P nw' vs xs := by
  induction h with
  | nil => exact .nil
  | cons a _ ih => exact .cons (a.mono hs) ih
theorem Items.snoc {P : Params} {nw : Lst} {vs : List Value} {xs : List (Ex × Dat)} {v : Value} {e : Ex} {d : Dat} (h : Items P nw vs xs) (k : ItemAt P nw v e d) : Items P nw (vs ++ [v]) (xs ++ [(e, d)]) := by
  induction h with
  | nil => exact .cons k .nil
  | cons a _ ih => exact .cons a ih
theorem Items.length {P : Params} {nw : Lst} {vs : List Value} {xs : List (Ex × Dat)} (h : Items P nw vs xs) : vs.length = xs.length := by
  induction h with
  | nil => rfl
  | cons _ _ ih => rw [List.length_cons, List.length_cons, ih]
theorem Items.pairs {P : Params} {nw : Lst} {vs : List Value} {xs : List (Ex × Dat)} (h : Items P nw vs xs) :
    ∃ ps, Pairs nw vs ps ∧ ps.length = xs.length ∧ ∀ (i : Nat) x y, ps[i]? = some (x, y) → ∃ e d, xs[i]? = some (e, d) ∧ ExprAt P nw x e ∧ DatIn nw y d ∧ Plain e d := by
  induction h with
  | nil => exact ⟨[], .nil, rfl, fun i x y h => by simp at h⟩
  | @cons v vs e d xs a _ ih =>
    obtain ⟨ps, h1, h2, h3⟩ := ih
    obtain ⟨l, vn, vt, n, rfl, b1, b2, b3, b4⟩ := a
    refine ⟨(vn, vt) :: ps, .cons ⟨l, _, rfl, b1, .inl rfl, n, rfl⟩ h1, by simp [h2], fun i x y hi => ?_⟩
    cases i with
    | zero => simp at hi; obtain ⟨rfl, rfl⟩ := hi; exact ⟨e, d, rfl, b2, b3, b4⟩
    | succ i => simpa using h3 i x y (by simpa using hi)
theorem item_memK {prog : Program} {w : World} {A : Around} {E : Value → Shared → Prop} {s : Shared} {h₀ : Heap} {L l : Addr} {led : Lst} {vs : List Value} {n : Nat} {k : Int} {u : Tok} {v : Value} {value slice : PySem.Expr} {Q : Value → Shared → Prop} (N : News h₀ L s.heap led) (hm : (l, listOf vs.toArray n) ∈ led) (h0 : 0 ≤ k) (hk : k < 2 ^ 63) (hx : vs[k.toNat]? = some v) (h : Q v s)
    (hs : subscripted slice false (.ref l) (.int k u) = operate [.ref l, .int k u] (getItem (.ref l) (.int k u)) := by with_unfolding_all rfl) :
    wpAny (model prog w) A (subscriptTail value slice (.ref l) (.int k u)) Q E s :=
  item_litK ⟨_, (N _ hm).1, rfl, _, rfl⟩ h0 hk hx h hs
theorem dec_t {d d' : Dat} {i : Decidable (d = d')} (h : @decide (d = d') i = true) : d = d' := of_decide_eq_true h
theorem dec_f {d d' : Dat} {i : Decidable (d = d')} (h : @decide (d = d') i = false) : d ≠ d' := of_decide_eq_false h
theorem ne_same {prog : Program} {w : World} {A : Around} {E : Value → Shared → Prop} {s : Shared} {k : Int} {t u : Tok} {Q : Value → Shared → Prop} (h : Q (.bool false) s) : wpAny (model prog w) A (compareOp .NotEq (.int k t) (.int k u)) Q E s := by
  refine ne_int ?_
  simpa using h
theorem ne_nilK {prog : Program} {w : World} {A : Around} {E : Value → Shared → Prop} {s : Shared} {h₀ : Heap} {L a b : Addr} {led : Lst} {vs : List Value} {ns : List Int} {n k : Nat} {Q : Value → Shared → Prop} (N : News h₀ L s.heap led) (ha : (a, listOf vs.toArray n) ∈ led) (hb : (b, listOf ([] : List Value).toArray k) ∈ led) (hI : IntsAre vs ns) (hu : A.units + 64 < cLine)
    (h : Q (.bool (match ns with | [] => false | _ :: _ => true)) s) : wpAny (model prog w) A (compareOp .NotEq (.ref a) (.ref b)) Q E s :=
  ke_ne_ints ⟨_, (N _ ha).1, rfl, _, rfl⟩ ⟨_, (N _ hb).1, rfl, _, rfl⟩ hI .nil hu (by cases ns <;> exact h)
/-- the places of a tree -/
def PlacesD (xs : List (Ex × Dat)) (d : Dat) : Nat → List Int → Prop
  | 0, ks => ks = []
  | i + 1, ks => ∃ ks', PlacesD xs d i ks' ∧ (((xs[i]?).map (·.2) = some d ∧ ks = ks' ++ [(i : Int)]) ∨ ((xs[i]?).map (·.2) ≠ some d ∧ ks = ks'))
theorem PlacesD.first {xs : List (Ex × Dat)} {d : Dat} : ∀ {n : Nat} {ks : List Int}, PlacesD xs d n ks →
    (ks = [] ∧ ∀ j, j < n → (xs[j]?).map (·.2) ≠ some d) ∨ ∃ (j : Nat) (r : List Int), ks = (j : Int) :: r ∧ j < n ∧ (xs[j]?).map (·.2) = some d ∧ ∀ i, i < j → (xs[i]?).map (·.2) ≠ some d
  | 0, ks, h => .inl ⟨h, fun j hj => absurd hj (Nat.not_lt_zero j)⟩
  | n + 1, ks, ⟨ks', h, c⟩ => by
    rcases PlacesD.first h with ⟨rfl, hno⟩ | ⟨j, r, rfl, hj, hd, hno⟩
    · rcases c with ⟨c1, rfl⟩ | ⟨c1, rfl⟩
      · exact .inr ⟨n, [], rfl, Nat.lt_succ_self n, c1, hno⟩
      · refine .inl ⟨rfl, fun j hj => ?_⟩
        rcases Nat.lt_or_eq_of_le (Nat.le_of_lt_succ hj) with hj | rfl
        · exact hno j hj
        · exact c1
    · rcases c with ⟨c1, rfl⟩ | ⟨c1, rfl⟩
      · exact .inr ⟨j, r ++ [(n : Int)], rfl, Nat.lt_succ_of_lt hj, hd, hno⟩
      · exact .inr ⟨j, r, rfl, Nat.lt_succ_of_lt hj, hd, hno⟩
def AllPlain (xs : List (Ex × Dat)) : Prop := ∀ (i : Nat) e d, xs[i]? = some (e, d) → Plain e d
theorem Items.plain {P : Params} {nw : Lst} {vs : List Value} {xs : List (Ex × Dat)} (h : Items P nw vs xs) : AllPlain xs := by
  intro i e d hi
  obtain ⟨ps, h1, h2, h3⟩ := h.pairs
  have hlt : i < ps.length := by rw [h2]; exact (List.getElem?_eq_some_iff.mp hi).1
  obtain ⟨e', d', h4, _, _, h5⟩ := h3 i ps[i].1 ps[i].2 (List.getElem?_eq_getElem hlt)
  rw [hi] at h4
  cases h4
  exact h5
theorem likes_iff {e o : Ex} {d d' : Dat} (p : Plain e d) (p' : Plain o d') : Likes e o ↔ d = d' := by
  have n1 : Str.ofString "literal" ≠ Str.ofString "name" := by decide +kernel
  have n2 : Str.ofString "literal" ≠ Str.ofString "binary" := by decide +kernel
  have n3 : Str.ofString "name" ≠ Str.ofString "binary" := by decide +kernel
  have n4 : Str.ofString "literal" ≠ Str.ofString "sum" := by decide +kernel
  have n5 : Str.ofString "name" ≠ Str.ofString "sum" := by decide +kernel
  unfold Likes
  cases p <;> cases p' <;> simp [rowD, namesE, sameE, hasSub, n1, n2, n3, n4, n5, Ne.symm n1, Ne.symm n2, Ne.symm n3, Ne.symm n4, Ne.symm n5, and_assoc]
theorem like_at {xs : List (Ex × Dat)} {e : Ex} {d : Dat} (pe : Plain e d) (ap : AllPlain xs) {i : Nat} {o : Ex} (h : (xs.map (·.1))[i]? = some o) : Likes e o ↔ (xs[i]?).map (·.2) = some d := by
  rw [List.getElem?_map] at h
  cases hx : xs[i]? with
  | none => rw [hx] at h; cases h
  | some p =>
    rw [hx] at h
    obtain ⟨o', d'⟩ := p
    cases h
    rw [likes_iff pe (ap i _ _ hx)]
    simp [eq_comm]
theorem like_nil {xs : List (Ex × Dat)} {e : Ex} {d : Dat} {n : Nat} {r : Value} (pe : Plain e d) (ap : AllPlain xs) (hno : ∀ j, j < n → (xs[j]?).map (·.2) ≠ some d) (q : LikeR e (xs.map (·.1)) r) (hn : xs.length ≤ n := by omega) : r = .none := by
  rcases q with ⟨i, t, o, rfl, ho, hl, _⟩ | ⟨rfl, _⟩
  · have hi : i < xs.length := by have := (List.getElem?_eq_some_iff.mp ho).1; rwa [List.length_map] at this
    exact absurd ((like_at pe ap ho).mp hl) (hno i (Nat.lt_of_lt_of_le hi hn))
  · rfl
theorem like_cons {xs : List (Ex × Dat)} {e : Ex} {d : Dat} {j : Nat} {r : Value} (pe : Plain e d) (ap : AllPlain xs) (hd : (xs[j]?).map (·.2) = some d) (hno : ∀ i, i < j → (xs[i]?).map (·.2) ≠ some d) (q : LikeR e (xs.map (·.1)) r) : ∃ t, r = .int (j : Int) t := by
  have hj : j < xs.length := by
    cases hx : xs[j]? with
    | none => rw [hx] at hd; cases hd
    | some _ => exact (List.getElem?_eq_some_iff.mp hx).1
  have hoj : (xs.map (·.1))[j]? = some (xs[j].1) := by rw [List.getElem?_map, List.getElem?_eq_getElem hj]; rfl
  rcases q with ⟨i, t, o, rfl, ho, hl, hm⟩ | ⟨_, hm⟩
  · have hdi := (like_at pe ap ho).mp hl
    rcases Nat.lt_trichotomy i j with h | rfl | h
    · exact absurd hdi (hno i h)
    · exact ⟨t, rfl⟩
    · exact absurd ((like_at pe ap hoj).mpr hd) (hm j h _ hoj)
  · exact absurd ((like_at pe ap hoj).mpr hd) (hm _ (List.mem_of_getElem? hoj))
theorem like_tail {s e : Ex} {es : List Ex} {r : Value} (hs : hasSub s = true) (q : LikeR e (s :: es) r) : (∃ (i : Nat) (t : Tok) (o : Ex), r = .int ((i : Int) + 1) t ∧ es[i]? = some o ∧ Likes e o ∧ ∀ (j : Nat), j < i → ∀ o', es[j]? = some o' → ¬ Likes e o') ∨ (r = .none ∧ ∀ o ∈ es, ¬ Likes e o) := by
  rcases q with ⟨i, t, o, rfl, ho, hl, hm⟩ | ⟨rfl, hm⟩
  · cases i with
    | zero => cases ho; rw [hl.1] at hs; cases hs
    | succ i => exact .inl ⟨i, t, o, rfl, ho, hl, fun j hj o' ho' => hm (j + 1) (Nat.succ_lt_succ hj) o' ho'⟩
  · exact .inr ⟨rfl, fun o ho => hm o (.tail _ ho)⟩
theorem like_nilS {s : Ex} {xs : List (Ex × Dat)} {e : Ex} {d : Dat} {n : Nat} {r : Value} (pe : Plain e d) (ap : AllPlain xs) (hno : ∀ j, j < n → (xs[j]?).map (·.2) ≠ some d) (hs : hasSub s = true) (q : LikeR e (s :: xs.map (·.1)) r) (hn : xs.length ≤ n := by omega) : r = .none := by
  rcases like_tail hs q with ⟨i, t, o, rfl, ho, hl, hm⟩ | ⟨rfl, _⟩
  · have := like_nil pe ap hno (.inl ⟨i, t, o, rfl, ho, hl, hm⟩) hn
    cases this
  · rfl
theorem like_consS {s : Ex} {xs : List (Ex × Dat)} {e : Ex} {d : Dat} {j : Nat} {r : Value} (pe : Plain e d) (ap : AllPlain xs) (hd : (xs[j]?).map (·.2) = some d) (hno : ∀ i, i < j → (xs[i]?).map (·.2) ≠ some d) (hs : hasSub s = true) (q : LikeR e (s :: xs.map (·.1)) r) : ∃ t, r = .int ((j : Int) + 1) t := by
  rcases like_tail hs q with ⟨i, t, o, rfl, ho, hl, hm⟩ | ⟨rfl, hm⟩
  · obtain ⟨t', ht⟩ := like_cons pe ap hd hno (.inl ⟨i, t, o, rfl, ho, hl, hm⟩)
    cases ht
    exact ⟨t, rfl⟩
  · obtain ⟨t', ht⟩ := like_cons pe ap hd hno (.inr ⟨rfl, hm⟩)
    cases ht
/-! a range as the source of a comprehension -/
section
open PyProof.Rows.LCg
variable {prog : Program} {w : World} {A : Around} {E : Value → Shared → Prop} {s : Shared} {env : Env}
theorem jat_range {h₀ : Heap} {L r : Addr} {m : Str → Option Value} {elt : PySem.Expr} {ifs : List PySem.Expr} {a : Str} {px : Pos} {scope : Scope} {cl : List (Str × Addr)} {done : Shared → List Value → Lst → Prop} {a₀ b₀ : Int} {t₀ u₀ v₀ : Tok} {n : Nat} {news : Lst} (J : Nat → List Value → Lst → Prop)
    (hh : A.handled = none) (F : Fr h₀ L s.heap m) (N : News h₀ L s.heap news) (hr : IsRange s.heap r a₀ b₀ 1 t₀ u₀ v₀) (hsmall : Builtin.Range.small a₀ b₀ 1 = true) (hn : Builtin.Range.rangeSize a₀ b₀ 1 = (n : Int)) (hsz : n ≤ sizeLine)
    (hkind : scope.kind = .function) (hxa : scope.names.lookup a = some .local) (hJ : J 0 [] news)
    (turn : ∀ (s₂ : Shared) (i : Nat) t ys hs news' its C oC D m₂ h tk (E' : Value → Shared → Prop), i < n → m₂ a = some (.int (a₀ + (i : Int)) t) → J i ys news' → ys.length ≤ i → NsObj oC m₂ → its.map (·.1) = hs → (∀ p ∈ news', p.1 ∉ hs ∧ p.1 ≠ C ∧ p.1 ≠ D) → (∀ p ∈ its, p.1 ≠ C ∧ p.1 ≠ D) → C ≠ D →
      Fr h₀ L h m → News h₀ L h ((C, oC) :: (D, lst ys) :: (its ++ news')) →
      Tst prog w A ifs (compEnvC scope cl C env)
        (fun s₃ => wpAny (model prog w) A (eval elt (compEnvC scope cl C env)) (fun y => JEnd h₀ L m { s₂ with heap := h, toks := tk } hs ((C, oC) :: (D, lst ys) :: its) C D [] (J (i + 1) (ys ++ [y]))) E' s₃)
        (JEnd h₀ L m { s₂ with heap := h, toks := tk } hs ((C, oC) :: (D, lst ys) :: its) C D [] (J (i + 1) ys)) E' { s₂ with heap := h, toks := tk })
    (hdone : ∀ g ys news', J n ys news' → done { s with heap := g } ys news') :
    wpAny (model prog w) A (pyIter (.ref r)) (JAt prog w A h₀ L m env elt (.Name a px) ifs scope cl done) E s := by
  have W : Walks prog w A s.heap.objs.size [s.heap.objs.size] [s.heap.objs.size] n (fun i v => ∃ t, v = .int (a₀ + (i : Int)) t) (fun i h => IsRangeIter h s.heap.objs.size (a₀ + (i : Nat) * 1) ((n : Int) - (i : Nat)) 1) := range_walks hh a₀ n
  refine wpAny_pyIter_range hr hsmall ?_
  refine ⟨_, [s.heap.objs.size], _, _, n, _, _, _, fun i v m₂ => ∃ t, m₂ a = some (.int (a₀ + (i : Int)) t), [], news, J, rfl,
    KTurns.ofWalks W (fun i v s Q E st q => by unfold letOwnedTupleGo; exact wpAny_pure q),
    hsz, ?_, (fun b hb => hb), ?_, ?_, ?_, ?_, (by show IsRangeIter _ _ _ _ _; rw [hn]; simpa using Heap.get?_push_size _ rfl), F.push _, fun p hp => ⟨Heap.get?_push_of_some _ (N p hp).1, (N p hp).2⟩, ?_, ?_, (fun p hp => nomatch hp), hJ, ?_, ?_⟩
  · intro b hb
    rw [List.mem_singleton.mp hb]
    exact ⟨.head _, next_is_new F, by show s.heap.objs.size < (s.heap.push _).objs.size; rw [Heap.size_push]; exact Nat.lt_succ_self _⟩
  · intro b hb
    exact .inl hb
  · intro i h st
    exact ⟨[(s.heap.objs.size, _)], rfl, fun p hp => by rw [List.mem_singleton.mp hp]; exact st⟩
  · intro s' Q E' st hQ
    exact wpAny_pyIter_rangeiter st hQ
  · intro i v C s' m₁ news' Q E' hP N' hk' hn' hQ
    obtain ⟨t, rfl⟩ := hP
    refine wpAny_assign_Name (wpAny_storeName_local (lookup_relabel_local hxa) hn' (fun h₂ hn₂ hs₂ => ?_) (by simp [compEnvC, relabel, hkind]))
    exact hQ h₂ _ _ hn₂ ⟨t, by simp⟩ fun c o hc e => hs₂.extBut c o hc e
  · exact fun h => absurd F.ns.lt ((List.mem_singleton.mp h) ▸ Nat.lt_irrefl _)
  · exact fun p hp h => absurd (Heap.lt_size (N p hp).1) ((List.mem_singleton.mp h) ▸ Nat.lt_irrefl _)
  · intro i v ys news' its C oC D m₂ h tk E' hi ⟨t, ht⟩ hJ' hyl hk' hNs hmap off offI hCD F' N'
    exact turn _ i t ys _ news' its C oC D m₂ h tk E' hi ht hJ' hyl hNs hmap off offI hCD F' N'
  · intro ys news' hk' hJ'
    exact hdone _ ys news' hJ'
end
/-- a statement whose ways meet -/
def JoinP (h₀ : Heap) (L : Addr) (s₀ : Shared) (rest : (Str → Option Value) → Lst → Prop) (f : Flow) (s' : Shared) : Prop :=
  f = .next ∧ ∃ h' tk' m' nw', s' = { s₀ with heap := h', toks := tk' } ∧ Fr h₀ L h' m' ∧ News h₀ L h' nw' ∧ rest m' nw'
theorem join {M : Model} {A : Around} {E : Value → Shared → Prop} {s : Shared} {st : Stmt} {env : Env} {Q : Flow → Shared → Prop} (h₀ : Heap) (L : Addr) (rest : (Str → Option Value) → Lst → Prop)
    (go : wpAny M A (exec st env) (JoinP h₀ L s rest) E s) (k : ∀ h' tk' m' nw', Fr h₀ L h' m' → News h₀ L h' nw' → rest m' nw' → Q .next { s with heap := h', toks := tk' }) : wpAny M A (exec st env) Q E s :=
  wpAny_mono go (fun f s' ⟨e, h', tk', m', nw', e2, F, N, r⟩ => by subst e; subst e2; exact k h' tk' m' nw' F N r) fun _ _ e => e
theorem joinP {h₀ : Heap} {L : Addr} {s₀ : Shared} {rest : (Str → Option Value) → Lst → Prop} {h' : Heap} {tk' : Nat} {m' : Str → Option Value} {nw' : Lst} (F : Fr h₀ L h' m') (N : News h₀ L h' nw') (r : rest m' nw') : JoinP h₀ L s₀ rest .next { s₀ with heap := h', toks := tk' } := ⟨rfl, h', tk', m', nw', rfl, F, N, r⟩
theorem joinS {M : Model} {A : Around} {E : Value → Shared → Prop} {s : Shared} {st : Stmt} {env : Env} {Q : Flow → Shared → Prop} {h₀ : Heap} {L : Addr} {m : Str → Option Value} (_F : Fr h₀ L s.heap m) (rest : Lst → Prop)
    (go : wpAny M A (exec st env) (JoinP h₀ L s (fun m' nw' => m' = m ∧ rest nw')) E s) (k : ∀ h' tk' nw', Fr h₀ L h' m → News h₀ L h' nw' → rest nw' → Q .next { s with heap := h', toks := tk' }) : wpAny M A (exec st env) Q E s :=
  join h₀ L _ go fun h' tk' m' nw' F N r => by obtain ⟨rfl, r⟩ := r; exact k h' tk' nw' F N r
theorem joinV {M : Model} {A : Around} {E : Value → Shared → Prop} {s : Shared} {st : Stmt} {env : Env} {Q : Flow → Shared → Prop} {h₀ : Heap} {L : Addr} {m : Str → Option Value} (_F : Fr h₀ L s.heap m) (x : Str) (rest : Value → Lst → Prop)
    (go : wpAny M A (exec st env) (JoinP h₀ L s (fun m' nw' => ∃ v, m' = (fun y => if y = x then some v else m y) ∧ rest v nw')) E s) (k : ∀ v h' tk' nw', Fr h₀ L h' (fun y => if y = x then some v else m y) → News h₀ L h' nw' → rest v nw' → Q .next { s with heap := h', toks := tk' }) : wpAny M A (exec st env) Q E s :=
  join h₀ L _ go fun h' tk' m' nw' F N r => by obtain ⟨v, rfl, r⟩ := r; exact k v h' tk' nw' F N r
theorem unr_led {h₀ : Heap} {L I : Addr} {it : Obj} {rest : (Str → Option Value) → Lst → Prop} {s₁ : Shared} {h' : Heap} {tk : Nat} {m' : Str → Option Value} {nw' : Lst} (F : Fr h₀ L h' m') (N : News h₀ L h' ((I, it) :: nw')) (off : ∀ p ∈ nw', p.1 ≠ I) (r : rest m' nw') : UnrEnd h₀ L s₁ I it rest { s₁ with heap := h', toks := tk } := ⟨h', tk, m', nw', rfl, F, N, off, r⟩
inductive Pulls : Lst → Lst → Lst → Prop
  | nil {r} : Pulls [] r r
  | cons {a o ps all r r'} : Pull a o all r → Pulls ps r r' → Pulls ((a, o) :: ps) all r'
theorem Pulls.sub {ps all r : Lst} (h : Pulls ps all r) : ∀ p ∈ ps ++ r, p ∈ all := by
  induction h with
  | nil => exact fun _ h => h
  | cons a _ ih =>
    intro p hp
    rcases List.mem_cons.mp hp with rfl | hp
    · exact a.sub _ (.head _)
    · exact a.sub _ (.tail _ (ih p hp))
theorem led_end {h₀ h' : Heap} {L : Addr} {ps base all r V : Lst} (N : News h₀ L h' all) (hp : Pulls ps all r) (hs : SplitR base r V) : News h₀ L h' (ps ++ (V ++ base)) := fun p hp' => N p (hp.sub p (by
  rcases List.mem_append.mp hp' with h | h
  · exact List.mem_append_left _ h
  · exact List.mem_append_right _ (hs.sub p h)))
theorem led2 {h₀ h' : Heap} {L : Addr} {e1 e2 : Addr × Obj} {base all r V : Lst} (N : News h₀ L h' all) (hp : Pulls [e1, e2] all r) (hs : SplitR base r V) : News h₀ L h' (e1 :: e2 :: (V ++ base)) := led_end N hp hs
theorem led3 {h₀ h' : Heap} {L : Addr} {e1 e2 e3 : Addr × Obj} {base all r V : Lst} (N : News h₀ L h' all) (hp : Pulls [e1, e2, e3] all r) (hs : SplitR base r V) : News h₀ L h' (e1 :: e2 :: e3 :: (V ++ base)) := led_end N hp hs
theorem led4 {h₀ h' : Heap} {L : Addr} {e1 e2 e3 e4 : Addr × Obj} {base all r V : Lst} (N : News h₀ L h' all) (hp : Pulls [e1, e2, e3, e4] all r) (hs : SplitR base r V) : News h₀ L h' (e1 :: e2 :: e3 :: e4 :: (V ++ base)) := led_end N hp hs
theorem led5 {h₀ h' : Heap} {L : Addr} {e1 e2 e3 e4 e5 : Addr × Obj} {base all r V : Lst} (N : News h₀ L h' all) (hp : Pulls [e1, e2, e3, e4, e5] all r) (hs : SplitR base r V) : News h₀ L h' (e1 :: e2 :: e3 :: e4 :: e5 :: (V ++ base)) := led_end N hp hs
theorem led6 {h₀ h' : Heap} {L : Addr} {e1 e2 e3 e4 e5 e6 : Addr × Obj} {base all r V : Lst} (N : News h₀ L h' all) (hp : Pulls [e1, e2, e3, e4, e5, e6] all r) (hs : SplitR base r V) : News h₀ L h' (e1 :: e2 :: e3 :: e4 :: e5 :: e6 :: (V ++ base)) := led_end N hp hs
theorem led7 {h₀ h' : Heap} {L : Addr} {e1 e2 e3 e4 e5 e6 e7 : Addr × Obj} {base all r V : Lst} (N : News h₀ L h' all) (hp : Pulls [e1, e2, e3, e4, e5, e6, e7] all r) (hs : SplitR base r V) : News h₀ L h' (e1 :: e2 :: e3 :: e4 :: e5 :: e6 :: e7 :: (V ++ base)) := led_end N hp hs
theorem led_endX {h₀ h' : Heap} {L : Addr} {ps base all r V : Lst} (N : News h₀ L h' all) (hp : Pulls ps all r) (hs : SplitR base r V) : ∃ V9, V9 = V ∧ News h₀ L h' (ps ++ (V9 ++ base)) := ⟨V, rfl, led_end N hp hs⟩
def Conds (pa c I : Addr) (news V : Lst) : Prop := (∀ q ∈ V, q.1 ≠ pa) ∧ (∀ q ∈ V, q.1 ≠ c) ∧ (∀ q ∈ V, q.1 ≠ I) ∧ Far V news
theorem conds_nil {pa c I : Addr} {news : Lst} : Conds pa c I news [] := ⟨fun _ h => (nomatch h), fun _ h => (nomatch h), fun _ h => (nomatch h), Far.nil⟩
structure LastOn : Prop where
structure JoinOn : Prop where
theorem turn_node : Str.ofString "turn" ≠ Str.ofString "node" := by decide +kernel
theorem canonT {m' base : Str → Option Value} {vn vt : Option Value} (h1 : m' (Str.ofString "node") = vn) (h2 : m' (Str.ofString "turn") = vt) (h : ∀ z, z ≠ Str.ofString "node" → z ≠ Str.ofString "turn" → z ≠ Str.ofString "places" → z ≠ Str.ofString "more" → m' z = base z) :
    m' = fun z => if z = Str.ofString "node" then vn else if z = Str.ofString "turn" then vt else if z = Str.ofString "places" then m' z else if z = Str.ofString "more" then m' z else base z := by
  funext z
  by_cases a1 : z = Str.ofString "node"
  · subst a1; simp [h1]
  by_cases a2 : z = Str.ofString "turn"
  · subst a2; rw [if_neg a1, if_pos rfl, h2]
  by_cases a3 : z = Str.ofString "places"
  · rw [if_neg a1, if_neg a2, if_pos a3]
  by_cases a4 : z = Str.ofString "more"
  · rw [if_neg a1, if_neg a2, if_neg a3, if_pos a4]
  rw [if_neg a1, if_neg a2, if_neg a3, if_neg a4, h z a1 a2 a3 a4]
theorem outs_app {P : Params} {nw : Lst} {t : Addr} {sv : Str} {ts : Tok} {nv : Value} {n : Nat} {o : Ex} {vs : List Value} {es : List Ex} (h1 : (t, ({ cls := .type "tuple", data := .seq #[.str sv ts, nv] n } : Obj)) ∈ nw) (h2 : ExprAt P nw nv o) (h3 : GoodO o) (h4 : OutsAt P nw vs es) : OutsAt P nw ([.ref t] ++ vs) (o :: es) := .cons h1 h2 h3 h4
theorem words10_15 : True := by
  k_with "@m_enterC" => (
      (case kA => exact rfl); (case kF => exact rfl); (case kK => assumption); (case k1 => k_asm); (case k2 => k_asm); (case k3 => k_asm); (case k4 => k_asm); (case k5 => k_asm); (case k6 => k_is); (case k7 => k_is); (case k8 => ktr_room); (case k9 => exact BindsTo.of_eq rfl); (case kB => exact rfl); (case kD => decide +kernel); (case c2 => exact rfl); (case c3 => exact rfl); (case c4 => exact rfl); k_whole; intro g' L' h' tk' cells' FG' F' N' Y' B' X' T' l1; (try k_lt l1); (have hY := CellsAre.two Y'; obtain ⟨oT, oS, hE', dT, dS⟩ := hY; subst hE'; clear Y'); (try simp only [List.cons_append, List.nil_append] at N'); (try dsimp only); (try k_fold))
  k_with "@m_enterCE" => (
      (case kA => exact rfl); (case kF => exact rfl); (case kK => assumption); (case k1 => k_asm); (case k2 => k_asm); (case k3 => k_asm); (case k4 => k_asm); (case k5 => k_asm); (case k6 => k_is); (case k7 => k_is); (case k8 => ktr_room); (case k9 => exact BindsTo.of_eq rfl); (case kB => exact rfl); (case kD => decide +kernel); (case c2 => exact rfl); (case c3 => exact rfl); (case c4 => exact rfl); k_whole; intro g' L' h' tk' cells' FG' F' N' Y' B' X' T' l1; (try k_lt l1); (have hY := CellsAre.two Y'; obtain ⟨oT, oS, hE', dT, dS⟩ := hY; subst hE'; clear Y'); (try simp only [List.cons_append, List.nil_append] at N'))
  k_with "@storeName" => (k_here; (rename Open9 => op9); k_dflt (refine' st_cellP ?F ?N ?c ?P ?A ?d ?_ ?a ?b; (case a => rfl); (case b => rfl); (case F => k_asm); (case N => k_asm); (case c => rfl); (case P => walk_at "m_pull"); (case A => k_all); (case d => with_reducible assumption)); intro h' o' F' N' d'; (try dsimp only); (try k_fold))
  k_with "@subscriptTail" => (
      k_here; (rename Open9 => op9); (with_reducible show wpAny _ _ (subscriptTail _ _ (Value.ref _) (Value.int _ _)) _ _ _)
      (with_unfolding_all refine' pick_item ?iN ?im ?ix ?i0 ?ik ?ii ?_ ?is; (case iN => k_asm); (case ix => with_reducible assumption); (case im => k_mem); (case i0 => omega); (case ik => omega); (case ii => omega); (case is => with_unfolding_all rfl)); intro a8 vn8 vt8 n8 e9 d9 m8 x8 y8 p8; (try dsimp only))
  k_with "@subscriptTail Name Constant ref int" => (
      k_here; (rename Open9 => op9); (with_reducible show wpAny _ _ (subscriptTail _ _ (Value.ref _) (Value.int _ _)) _ _ _)
      (with_unfolding_all refine' item_memK ?iN ?im ?i0 ?ik ?ix ?_ ?is; (case iN => k_asm); (case im => k_mem); (case i0 => decide); (case ik => decide); (case ix => exact rfl); (case is => with_unfolding_all rfl)); (try dsimp only))
  k_with "@exec Assign cons ListComp" => ((rename Halt => halt); refine stop_of ?_)
  k_with "@call type:enumerate" => ((rename Halt => halt); refine stop_of ?_)
  k_with "@compareOp Eq" => (
      plain_pass
      k_here; (rename Open9 => op9); (with_reducible show wpAny _ _ (compareOp CmpOp.Eq _ _) _ _ _)
      k_dflt (refine' dat_eq ?dN ?dA ?dS ?dB ?dT ?dO ?dP ?dU ?_; (case dN => k_asm); (case dA => with_reducible assumption); (case dS => walk_at "m_sub"); (case dB => with_reducible assumption); (case dT => walk_at "m_sub"); (case dO => exact plain_tree (by with_reducible assumption)); (case dP => exact plain_tree (by with_reducible assumption)); (case dU => first | ke_room | ktr_units)); (try dsimp only))
  k_with "@compareOp NotEq ref ref" => (
      k_here; (rename Open9 => op9); (with_reducible show wpAny _ _ (compareOp CmpOp.NotEq (Value.ref _) (Value.ref _)) _ _ _)
      k_dflt (refine' ne_nilK ?dN ?dA ?dB ?dI ?dU ?_; (case dN => k_asm); (case dA => k_mem); (case dB => k_mem); (case dI => with_reducible assumption); (case dU => first | ke_room | ktr_units)); (try dsimp only))
  k_with "@compareOp NotEq int int" => with_reducible refine ne_same ?_
  k_with "@exec If" => ((rename JoinOn => jn9); refine stop_of ?_)
  k_with "@exec Assign cons BinOp" => ((rename JoinOn => jn9); refine stop_of ?_)
  k_with "@m_pulls" => first | with_reducible exact Pulls.nil | ((with_reducible apply Pulls.cons); walk_at "m_pull"; walk_at "m_pulls")
  k_with "@m_conds" => exact ⟨by k_all, by k_all, by k_all, by walk_at "m_far"⟩
  k_with "@call ref" => (
      k_here; (rename Open9 => op9); (with_reducible show wpAny _ _ (call (Value.ref 701) [_, Value.ref _]) _ _ _)
      k_dflt (refine' ReadC.use (like_ok (by with_reducible assumption) ?he ?hl ?ho ?hs) ?B ?F ?X ?N ?T ?K ?D ?U (fun _ h => h) ?Z ?_; (case B => k_asm); (case F => k_asm); (case X => k_asm); (case N => k_asm); (case T => k_asm); (case K => first | exact rfl | assumption); (case D => first | ktr_room | omega); (case U => first | ktr_units | omega); (case Z => intro tl; walk_at "m_sift"); (case he => walk_at "m_expr"); (case hl => k_mem); (case ho => walk_at "m_outs"); (case hs => (simp only [List.length_cons, List.length_map]; omega)));
      intro r9 tl9 h9 tk9 F9 N9 f9 q9
      first
      | (have e8 := like_nil (by with_reducible assumption) (by with_reducible assumption) (by with_reducible assumption) q9; subst e8)
      | (have e8 := like_cons (by with_reducible assumption) (by with_reducible assumption) (by with_reducible assumption) (by with_reducible assumption) q9; refine Exists.elim e8 ?_; clear e8; intro t8 e8; subst e8)
      | (have e8 := like_nilS (by with_reducible assumption) (by with_reducible assumption) (by with_reducible assumption) rfl q9; subst e8)
      | (have e8 := like_consS (by with_reducible assumption) (by with_reducible assumption) (by with_reducible assumption) (by with_reducible assumption) rfl q9; refine Exists.elim e8 ?_; clear e8; intro t8 e8; subst e8)
      (try dsimp only))
  k_with "@m_outs" => first
      | (refine OutsAt.mono (by with_reducible assumption) ?_; walk_at "m_sub")
      | exact outs_app (by k_mem) (by walk_at "m_expr") (Or.inr ⟨by rfl, by have hpd := hpl.dep; simp only [dep]; omega⟩) (by walk_at "m_outs")
  k_with "@call ref" => (
      k_here; (with_reducible show wpAny _ _ (call (Value.ref 749) [Value.ref _]) _ _ _);
      k_dflt (refine' PoolC.use expr_ok ?B ?F ?X ?N ?P ?A ?T ?K ?O ?D ?U ?S ?Z ?_; walk_at "m_pool"); (refine Exists.elim q9 ?_; clear q9; intro e9 q9); (refine Exists.elim q9 ?_; clear q9; intro d9 q9); (try walk_at "m_open9"); (try dsimp only); (try k_fold))
  k_with "@m_open9" => ((rename Open9 => op9); (obtain ⟨a8, vn8, vt8, n8, e8, m8, x8, y8, p8⟩ := item_any q9); subst e8; (simp only [List.append_nil] at m8 x8 y8))
  trivial
theorem Pairs.mono {nw nw' : Lst} {vs : List Value} {xs : List (Value × Value)} (h : Pairs nw vs xs) (hs : ∀ p ∈ nw, p ∈ nw') : Pairs nw' vs xs := by
  induction h with
  | nil => exact .nil
  | cons a _ ih => obtain ⟨t, o, h1, h2, h3⟩ := a; exact .cons ⟨t, o, h1, hs _ h2, h3⟩ ih
theorem OutsAt.snoc {P : Params} {nw : Lst} {vs : List Value} {es : List Ex} {t : Addr} {sv : Str} {ts : Tok} {nv : Value} {n : Nat} {o : Ex} (h : OutsAt P nw vs es) (h1 : (t, ({ cls := .type "tuple", data := .seq #[.str sv ts, nv] n } : Obj)) ∈ nw) (h2 : ExprAt P nw nv o) (h3 : GoodO o) : OutsAt P nw (vs ++ [.ref t]) (es ++ [o]) := by
  induction h with
  | nil => exact .cons h1 h2 h3 .nil
  | cons a b c _ ih => exact .cons a b c ih
theorem off_tl {tl rest its : Lst} {hs : List Addr} {C D : Addr} {oC oD : Obj} (f : Far tl rest) (hC : (C, oC) ∈ rest) (hD : (D, oD) ∈ rest) (hI : ∀ p ∈ its, p ∈ rest) (hmap : its.map (·.1) = hs) : ∀ p ∈ tl, p.1 ∉ hs ∧ p.1 ≠ C ∧ p.1 ≠ D := fun p hp =>
  ⟨fun h => by rw [← hmap] at h; obtain ⟨q, hq, e⟩ := List.mem_map.mp h; exact f p hp q (hI q hq) e, fun e => f p hp _ hC e.symm, fun e => f p hp _ hD e.symm⟩
theorem take_snoc {α : Type} {xs : List α} {i : Nat} {x : α} (h : xs[i]? = some x) : xs.take (i + 1) = xs.take i ++ [x] := by
  rw [List.take_add_one, h]; rfl
theorem map_get {es : List (Ex × Dat)} {i : Nat} {e : Ex} {d : Dat} (h : es[i]? = some (e, d)) : (es.map (·.1))[i]? = some e := by rw [List.getElem?_map, h]; rfl
theorem jEnd_one {h₀ : Heap} {L : Addr} {m : Str → Option Value} {s₁ : Shared} {hs : List Addr} {its : Lst} {C D : Addr} {oC oD : Obj} {keep nw : Lst} {rest : Lst → Prop} {h' : Heap} {tk : Nat} {q : Addr × Obj} (nw2 : Addr × Obj → Lst) (F : Fr h₀ L h' m) (N : News h₀ L h' (q :: (C, oC) :: (D, oD) :: (its ++ nw)))
    (f : Far [q] ((C, oC) :: (D, oD) :: (its ++ nw))) (hmap : its.map (·.1) = hs) (off : ∀ p ∈ nw, p.1 ∉ hs ∧ p.1 ≠ C ∧ p.1 ≠ D) (h2 : ∀ p ∈ nw2 q, p ∈ q :: nw) (hk : ∀ p ∈ keep, p ∈ nw2 q) (r : rest (nw2 q)) :
    JEnd h₀ L m s₁ hs ((C, oC) :: (D, oD) :: its) C D keep rest { s₁ with heap := h', toks := tk } := by
  refine jEnd_of F N ?_ ?_ hk r
  · intro p hp
    rcases List.mem_append.mp hp with hp | hp
    · rcases List.mem_cons.mp hp with rfl | hp
      · exact .tail _ (.head _)
      · rcases List.mem_cons.mp hp with rfl | hp
        · exact .tail _ (.tail _ (.head _))
        · exact .tail _ (.tail _ (.tail _ (List.mem_append_left _ hp)))
    · rcases List.mem_cons.mp (h2 p hp) with rfl | hp
      · exact .head _
      · exact .tail _ (.tail _ (.tail _ (List.mem_append_right _ hp)))
  · intro p hp
    rcases List.mem_cons.mp (h2 p hp) with rfl | hp
    · exact off_tl f (.head _) (.tail _ (.head _)) (fun p hp => .tail _ (.tail _ (List.mem_append_left _ hp))) hmap p (.head _)
    · exact off p hp
theorem plain_tree {e : Ex} {d : Dat} (h : Plain e d) : kqdOk 8 d = true := by
  have k1 : PyData.strOk (Str.ofString "literal") = true := by decide +kernel
  have k3 : PyData.strOk (Str.ofString "name") = true := by decide +kernel
  have k4 : PyData.strOk (Str.ofString "sum") = true := by decide +kernel
  cases h with
  | lit v => simp [kqdOk, k1]
  | name n p g1 g2 => simp [kqdOk, k3, g1.ok, g2]
  | sum n p g1 g2 => simp [kqdOk, k4, g1.ok, g2]
theorem canon4 {a b c d : Str} {m' base : Str → Option Value} (h : ∀ z, z ≠ a → z ≠ b → z ≠ c → z ≠ d → m' z = base z) : m' = fun z => if z = a then m' z else if z = b then m' z else if z = c then m' z else if z = d then m' z else base z := by
  funext z
  by_cases h1 : z = a
  · simp [h1]
  by_cases h2 : z = b
  · simp [h2]
  by_cases h3 : z = c
  · simp [h3]
  by_cases h4 : z = d
  · simp [h4]
  simp [h1, h2, h3, h4, h z h1 h2 h3 h4]
section
variable {prog : Program} {w : World} {p : Program} {loose : List Str} {mean : ExcName → Option Value} {mg mb : Str → Option Value}
theorem like_sub {e : Ex} (hs : hasSub e = true) (hde : dep e ≤ 5) {nw : Lst} {v1 : Value} {l : Addr} (he : ExprAt w.params nw v1 e) :
    ReadC prog w p loose mean mg mb 800 701 [v1, .ref l] nw (fun _ r => r = .none) := by
  unfold ReadC
  intro dp un gd cn cs a ccd cl outer A₀ base h₀ L m news s Q E B F X N T hk hdp hun hsub ret
  refine wpAny_call ?_
  k_dflt (refine' enter [(Str.ofString "expr", v1), (Str.ofString "outputs", .ref l)] ?k1 ?k2 ?k3 ?k4 ?k5 ?kA ?kF ?kK ?k6 ?k7 ?k8 ?k9 ?kB ?_ ?c2 ?c3 ?c4 ?c5; walk_at "m_enter")
  have halt : Halt := ⟨⟩
  k_steps
  all_goals (exact ret _ _ _ _ (by k_asm) (fin_read (by k_asm) (by walk_at "m_splitR")) (by walk_at "m_far") rfl)
end
theorem words10_16 : True := by
  k_with "@call ref" => (
      k_here; (rename LastOn => lo9); (with_reducible show wpAny _ _ (call (Value.ref 701) [_, Value.ref _]) _ _ _)
      k_dflt (refine' ReadC.use (like_sub (e := .bin (Str.ofString "=") (.scal (.lit 7)) (.lit 1)) rfl ?hs ?he) ?B ?F ?X ?N ?T ?K ?D ?U (fun _ h => h) ?Z ?_; (case B => k_asm); (case F => k_asm); (case X => k_asm); (case N => k_asm); (case T => k_asm); (case K => first | exact rfl | assumption); (case D => first | ktr_room | omega); (case U => first | ktr_units | omega); (case Z => intro tl; walk_at "m_sift"); (case hs => simp only [dep]; omega); (case he => exact ExprAt.bin (by k_mem) (by k_mem) (by decide +kernel) (ExprAt.scal (by k_mem) (by k_mem) (ExprAt.lit (by k_mem) (by k_mem))) (ExprAt.lit (by k_mem) (by k_mem))))
      intro r9 tl9 h9 tk9 F9 N9 f9 q9
      subst q9; (try dsimp only))
  trivial
/-! what holds between the turns -/
inductive R1J (P : Params) (pa T S : Addr) (oT oS : Obj) (news : Lst) (i : Nat) (ys : List Value) (nw : Lst) : Prop
  | mk {x y : Int} {tx ty : Tok} {n : Nat} {Z : Lst} {xs : List (Ex × Dat)} : PoolOk x y → nw = (pa, src x y tx ty n) :: (T, oT) :: (S, oS) :: (Z ++ news) → (∀ q ∈ Z, q.1 ≠ pa) → Far Z ((T, oT) :: (S, oS) :: news) → ys.length = i → Items P Z ys xs → R1J P pa T S oT oS news i ys nw
inductive R2J (P : Params) (e1 e2 e3 e4 : Addr × Obj) (Z news : Lst) (es : List Ex) (i : Nat) (zs : List Value) (nw : Lst) : Prop
  | mk {W : Lst} : nw = e1 :: e2 :: e3 :: e4 :: (W ++ (Z ++ news)) → Far W (e1 :: e2 :: e3 :: e4 :: (Z ++ news)) → zs.length = i → OutsAt P (W ++ Z) zs (es.take i) → R2J P e1 e2 e3 e4 Z news es i zs nw
inductive R3J (pa T I : Addr) (e1 e2 e3 : Addr × Obj) (rest news : Lst) (base m : Str → Option Value) (nw : Lst) : Prop
  | mk {u : Str → Option Value} {x y : Int} {tx ty : Tok} {n : Nat} {oT : Obj} {tv : Option Value} {V : Lst} : m = (fun z => if z = Str.ofString "node" then u z else if z = Str.ofString "turn" then u z else if z = Str.ofString "places" then u z else if z = Str.ofString "more" then u z else base z) → PoolOk x y → oT.data = .cell tv →
      nw = (T, oT) :: (pa, src x y tx ty n) :: e1 :: e2 :: e3 :: (V ++ rest) → (∀ q ∈ V, q.1 ≠ pa) → (∀ q ∈ V, q.1 ≠ T) → (∀ q ∈ V, q.1 ≠ I) → Far V news → R3J pa T I e1 e2 e3 rest news base m nw
inductive R4J (P : Params) (pa T I : Addr) (e0 e1 e2 e3 : Addr × Obj) (Z rest news : Lst) (tn : Option Value) (base m : Str → Option Value) (nw : Lst) : Prop
  | mk {u : Str → Option Value} {vn vt : Value} {e : Ex} {d : Dat} {x y : Int} {tx ty : Tok} {n : Nat} {oT : Obj} {V : Lst} : m = (fun z => if z = Str.ofString "node" then some vn else if z = Str.ofString "turn" then tn else if z = Str.ofString "places" then u z else if z = Str.ofString "more" then u z else base z) → PoolOk x y → oT.data = .cell (some vt) →
      nw = (T, oT) :: (pa, src x y tx ty n) :: e0 :: e1 :: e2 :: e3 :: (V ++ rest) → (∀ q ∈ V, q.1 ≠ pa) → (∀ q ∈ V, q.1 ≠ T) → (∀ q ∈ V, q.1 ≠ I) → Far V news → ExprAt P (V ++ Z) vn e → DatIn (V ++ Z) vt d → Plain e d → R4J P pa T I e0 e1 e2 e3 Z rest news tn base m nw
inductive R5J (led : Lst) (xs : List (Ex × Dat)) (d : Dat) (i : Nat) (zs : List Value) (nw : Lst) : Prop
  | mk {ks : List Int} : nw = led → IntsAre zs ks → PlacesD xs d i ks → R5J led xs d i zs nw
inductive R6J (P : Params) (pa T I : Addr) (e1 e2 e3 e4 e5 e6 e7 : Addr × Obj) (Z rest news : Lst) (vn : Value) (e : Ex) (nw : Lst) : Prop
  | mk {V : Lst} : nw = e1 :: e2 :: e3 :: e4 :: e5 :: e6 :: e7 :: (V ++ rest) → (∀ q ∈ V, q.1 ≠ pa) → (∀ q ∈ V, q.1 ≠ T) → (∀ q ∈ V, q.1 ≠ I) → Far V news → ExprAt P (V ++ Z) vn e → R6J P pa T I e1 e2 e3 e4 e5 e6 e7 Z rest news vn e nw
inductive R7J (P : Params) (pa T I : Addr) (e1 e2 e3 e4 e5 e6 e7 : Addr × Obj) (Z rest news : Lst) (vn : Value) (e : Ex) (zs : List Value) (es : List Ex) (v : Value) (nw : Lst) : Prop
  | mk {l t : Addr} {V : Lst} : v = .ref l → (l, listOf ([Value.ref t] ++ zs).toArray 0) ∈ V → nw = e1 :: e2 :: e3 :: e4 :: e5 :: e6 :: e7 :: (V ++ rest) → (∀ q ∈ V, q.1 ≠ pa) → (∀ q ∈ V, q.1 ≠ T) → (∀ q ∈ V, q.1 ≠ I) → Far V news → ExprAt P (V ++ Z) vn e → OutsAt P (V ++ rest) ([Value.ref t] ++ zs) es → R7J P pa T I e1 e2 e3 e4 e5 e6 e7 Z rest news vn e zs es v nw
def Cright_ok.pack : { P : CxP // (∀ prog w p loose mean mg mb dp un gd cn cs a ccd cl outer A₀ base h₀ L m news s pa x y tx ty n Q E g' L' h' tk' oT oS, P prog w p loose mean mg mb dp un gd cn cs a ccd cl outer A₀ base h₀ L m news s pa x y tx ty n Q E g' L' h' tk' oT oS) → ∀ (prog : Program) (w : World) (p : Program) (loose : List Str) (mean : ExcName → Option Value) (mg mb : Str → Option Value), PoolC prog w p loose mean mg mb 700 754 (fun pa => [.ref pa]) [] (fun nw v => v = .bool true) } := ⟨_, fun h prog w p loose mean mg mb => by
  unfold PoolC
  intro dp un gd cn cs a ccd cl outer A₀ base h₀ L m news s pa x y tx ty n Q E B F X N hoff T hk ok hdp hun hsub ret
  refine wpAny_call ?_
  k_dflt (refine' enterC [(Str.ofString "source", .ref pa)] ?k1 ?k2 ?k3 ?k4 ?k5 ?kA ?kF ?kK ?k6 ?k7 ?k8 ?k9 ?kB ?kD ?_ ?c2 ?c3 ?c4; walk_at "m_enterCE")
  revert dS
  revert dT
  revert l1
  revert T'
  revert X'
  revert B'
  revert N'
  revert F'
  revert FG'
  revert ret
  revert hsub
  revert hun
  revert hdp
  revert ok
  revert hk
  revert T
  revert hoff
  revert N
  revert X
  revert F
  revert B
  exact h prog w p loose mean mg mb dp un gd cn cs a ccd cl outer A₀ base h₀ L m news s pa x y tx ty n Q E g' L' h' tk' oT oS⟩
noncomputable def Cright_ok.c : Cx := bad Cright_ok.pack.1
noncomputable def Cright_ok.prog : Program := Cright_ok.c.prog
noncomputable def Cright_ok.w : World := Cright_ok.c.w
noncomputable def Cright_ok.p : Program := Cright_ok.c.p
noncomputable def Cright_ok.loose : List Str := Cright_ok.c.loose
noncomputable def Cright_ok.mean : ExcName → Option Value := Cright_ok.c.mean
noncomputable def Cright_ok.mg : Str → Option Value := Cright_ok.c.mg
noncomputable def Cright_ok.mb : Str → Option Value := Cright_ok.c.mb
noncomputable def Cright_ok.dp : Nat := Cright_ok.c.dp
noncomputable def Cright_ok.un : Nat := Cright_ok.c.un
noncomputable def Cright_ok.gd : Option (List Code) := Cright_ok.c.gd
noncomputable def Cright_ok.cn : Str := Cright_ok.c.cn
noncomputable def Cright_ok.cs : Scope := Cright_ok.c.cs
noncomputable def Cright_ok.a : Addr := Cright_ok.c.a
noncomputable def Cright_ok.ccd : Value := Cright_ok.c.ccd
noncomputable def Cright_ok.cl : List (Str × Addr) := Cright_ok.c.cl
noncomputable def Cright_ok.outer : List Env := Cright_ok.c.outer
noncomputable def Cright_ok.A₀ : Around := Cright_ok.c.A₀
noncomputable def Cright_ok.base : Heap := Cright_ok.c.base
noncomputable def Cright_ok.h₀ : Heap := Cright_ok.c.h₀
noncomputable def Cright_ok.L : Addr := Cright_ok.c.L
noncomputable def Cright_ok.m : Str → Option Value := Cright_ok.c.m
noncomputable def Cright_ok.news : Lst := Cright_ok.c.news
noncomputable def Cright_ok.s : Shared := Cright_ok.c.s
noncomputable def Cright_ok.pa : Addr := Cright_ok.c.pa
noncomputable def Cright_ok.x : Int := Cright_ok.c.x
noncomputable def Cright_ok.y : Int := Cright_ok.c.y
noncomputable def Cright_ok.tx : Tok := Cright_ok.c.tx
noncomputable def Cright_ok.ty : Tok := Cright_ok.c.ty
noncomputable def Cright_ok.n : Nat := Cright_ok.c.n
noncomputable def Cright_ok.Q : Value → Shared → Prop := Cright_ok.c.Q
noncomputable def Cright_ok.E : Value → Shared → Prop := Cright_ok.c.E
noncomputable def Cright_ok.g' : Heap := Cright_ok.c.g'
noncomputable def Cright_ok.L' : Addr := Cright_ok.c.L'
noncomputable def Cright_ok.h' : Heap := Cright_ok.c.h'
noncomputable def Cright_ok.tk' : Nat := Cright_ok.c.tk'
noncomputable def Cright_ok.oT : Obj := Cright_ok.c.o1
noncomputable def Cright_ok.oS : Obj := Cright_ok.c.o2
open Cright_ok in
theorem Cright_ok.core : Cright_ok.pack.1 Cright_ok.prog Cright_ok.w Cright_ok.p Cright_ok.loose Cright_ok.mean Cright_ok.mg Cright_ok.mb Cright_ok.dp Cright_ok.un Cright_ok.gd Cright_ok.cn Cright_ok.cs Cright_ok.a Cright_ok.ccd Cright_ok.cl Cright_ok.outer Cright_ok.A₀ Cright_ok.base Cright_ok.h₀ Cright_ok.L Cright_ok.m Cright_ok.news Cright_ok.s Cright_ok.pa Cright_ok.x Cright_ok.y Cright_ok.tx Cright_ok.ty Cright_ok.n Cright_ok.Q Cright_ok.E Cright_ok.g' Cright_ok.L' Cright_ok.h' Cright_ok.tk' Cright_ok.oT Cright_ok.oS := by
  dsimp only [Cright_ok.pack]
  intro B F X N hoff T hk ok hdp hun hsub ret FG' F' N' B' X' T' l1 dT dS
  (try dsimp only); (try k_fold)
  have halt : Halt := ⟨⟩
  replace F' : Fr g' L' h' (fun _ => none) := F'
  replace dT : oT.data = .cell none := dT
  replace dS : oS.data = .cell (some (.ref pa)) := dS
  have lpa : @LT.lt Nat _ pa L' := l1.1
  have npT : @Ne Nat (L' + 1 + 1) pa := Ne.symm (Nat.ne_of_lt (Nat.lt_of_lt_of_le lpa (Nat.le_add_right _ 2)))
  have npS : @Ne Nat (L' + 1) pa := Ne.symm (Nat.ne_of_lt (Nat.lt_of_lt_of_le lpa (Nat.le_add_right _ 1)))
  have nST : @Ne Nat (L' + 1) (L' + 1 + 1) := Nat.ne_of_lt (Nat.lt_succ_self _)
  have nwT : ∀ q ∈ news, q.1 ≠ L' + 1 + 1 := fun q hq => Nat.ne_of_lt (Nat.lt_of_lt_of_le (allLt_mem l1.2 q hq) (Nat.le_add_right _ 2))
  have nwS : ∀ q ∈ news, q.1 ≠ L' + 1 := fun q hq => Nat.ne_of_lt (Nat.lt_of_lt_of_le (allLt_mem l1.2 q hq) (Nat.le_add_right _ 1))
  walk1
  refine jc_Assign (by decide) (by k_asm) rfl (by rfl) (by rfl) (by decide) (by rfl) (by decide) (by rfl) (by rfl) ?_
  k_steps
  refine ⟨?_⟩
  obtain ⟨kn, hkn⟩ : ∃ k : Nat, 1 + v9 = (k : Int) := ⟨(1 + v9).toNat, by omega⟩
  refine jat_range (a₀ := 0) (b₀ := 1 + v9) (n := kn) (R1J w.params pa (L' + 1 + 1) (L' + 1) oT oS news) rfl (by k_asm) (by k_asm) (by assumption) ?small ?size (Nat.le_trans (show kn ≤ 4 by omega) (Nat.le_of_ble_eq_true rfl)) (by rfl) (by rfl) (.mk (Z := []) (by with_reducible assumption) rfl (List.forall_mem_nil _) Far.nil rfl .nil) ?turn ?done
  case small => exact small_one (by omega) (by omega) (by omega) (by omega)
  case size => rw [hkn]; exact rangeSize_nat _ _
  case turn =>
    rintro s₂ i t ys hs news' its C oC D m₂ h tk E' hi hm hj - hNs hmap off offI hCD F' N'
    cases hj with
    | @mk x1 y1 tx1 ty1 n1 Z xs ok1 en aZ fZ hyl hit =>
    subst en
    have hpa := off _ (.head _)
    have hCp : C ≠ pa := Ne.symm hpa.2.1
    have hDp : D ≠ pa := Ne.symm hpa.2.2
    have hIp : ∀ q ∈ its, q.1 ≠ pa := fun q hq e => hpa.1 (by rw [← hmap]; exact List.mem_map.mpr ⟨q, hq, e⟩)
    refine (show wpAny _ _ _ _ _ _ from ?_)
    k_steps
    have otl := off_tl f9 (.head _) (.tail _ (.head _)) (fun p hp => .tail _ (.tail _ (List.mem_append_left _ hp))) hmap
    refine jEnd_of (news' := (pa, _) :: (L' + 1 + 1, oT) :: (L' + 1, oS) :: ((tl9 ++ Z) ++ news)) (by k_asm) (by k_asm) (by walk_at "m_sub") ?_ (fun _ h => nomatch h) (.mk (Z := tl9 ++ Z) (xs := xs ++ [(e9, d9)]) (by with_reducible assumption) rfl (by k_all) (by walk_at "m_far") (by rw [List.length_append, hyl]; rfl) (Items.snoc (hit.mono fun _ h => List.mem_append_right _ h) (q9.mono fun p h => List.mem_append_left _ (by simpa using h))))
    intro p hp
    simp only [List.mem_cons, List.mem_append] at hp
    rcases hp with rfl | rfl | rfl | (hp | hp) | hp
    · exact hpa
    · exact off _ (.tail _ (.head _))
    · exact off _ (.tail _ (.tail _ (.head _)))
    · exact otl p hp
    · exact off _ (.tail _ (.tail _ (.tail _ (List.mem_append_left _ hp))))
    · exact off _ (.tail _ (.tail _ (.tail _ (List.mem_append_right _ hp))))
  case done =>
    rintro g ys news' hj D h tk F' N' offD
    cases hj with
    | @mk x1 y1 tx1 ty1 n1 Z xs ok1 en aZ fZ hyl hit =>
    subst en
    have hxl := hit.length
    obtain ⟨ps, hp1, hp2, hp3⟩ := hit.pairs
    walk1
    refine jc_Assign (by decide) (by k_asm) rfl (by rfl) (by rfl) (by decide) (by rfl) (by decide) (by rfl) (by rfl) ?_
    k_steps
    refine ⟨?_⟩
    refine jat_pairs (keep := (D, LCg.lst ys) :: Z) (xs := ps) (R2J w.params (D, LCg.lst ys) (pa, src x1 y1 tx1 ty1 n1) (L' + 1 + 1, oT) (L' + 1, oS) Z news (xs.map (·.1))) rfl (by k_asm) (by k_asm) (by walk_at "m_sub") (.head _) (hp1.mono fun _ h => .tail _ h) (Nat.le_trans (show ys.length ≤ 4 by omega) (Nat.le_of_ble_eq_true rfl)) rfl (by rfl) (by rfl) (by decide) (.mk (W := []) rfl Far.nil rfl .nil) ?turn ?done
    case turn =>
      rintro s₂ i x y zs hs news' its C oC D2 m₂ h tk E' hxy hma hmb hj - hkp hNs hmap off offI hCD F' N'
      cases hj with
      | @mk W en fW hzl hot =>
      subst en
      obtain ⟨e, d, hxi, hxe, hyd, hpl⟩ := hp3 _ _ _ hxy
      refine (show wpAny _ _ _ _ _ _ from ?_)
      k_steps
      rename News _ _ _ (_ :: _) => N9
      refine jEnd_one (fun q => (D, LCg.lst ys) :: (pa, src x1 y1 tx1 ty1 n1) :: (L' + 1 + 1, oT) :: (L' + 1, oS) :: (q :: (W ++ (Z ++ news)))) (by k_asm) N9 (by walk_at "m_far") hmap off (by walk_at "m_sub") (by walk_at "m_sub") (.mk (W := _ :: W) rfl (by walk_at "m_far") (by rw [List.length_append, hzl]; rfl) ?_)
      rw [take_snoc (map_get hxi)]
      exact OutsAt.snoc (hot.mono (by walk_at "m_sub")) (.head _) (hxe.mono (by walk_at "m_sub")) (.inl ⟨_, hpl⟩)
    case done =>
      rintro g2 zs news' hkp hj D2 h tk F' N' offD2
      cases hj with
      | @mk W en fW hzl hot =>
      subst en
      replace F' : Fr g' L' h (fun z => if z = Str.ofString "pairs" then some (.ref D2) else if z = Str.ofString "outputs" then some (.ref D) else none) := F'
      replace N' : News g' L' h ((D2, LCg.lst zs) :: (D, LCg.lst ys) :: (pa, src x1 y1 tx1 ty1 n1) :: (L' + 1 + 1, oT) :: (L' + 1, oS) :: (W ++ (Z ++ news))) := N'
      have sub0 : ∀ q ∈ (L' + 1 + 1, oT) :: (pa, src x1 y1 tx1 ty1 n1) :: (D2, LCg.lst zs) :: (D, LCg.lst ys) :: (L' + 1, oS) :: (W ++ (Z ++ news)), q ∈ (D2, LCg.lst zs) :: (D, LCg.lst ys) :: (pa, src x1 y1 tx1 ty1 n1) :: (L' + 1 + 1, oT) :: (L' + 1, oS) :: (W ++ (Z ++ news)) := by walk_at "m_sub"
      replace N' : News g' L' h ((L' + 1 + 1, oT) :: (pa, src x1 y1 tx1 ty1 n1) :: (D2, LCg.lst zs) :: (D, LCg.lst ys) :: (L' + 1, oS) :: (W ++ (Z ++ news))) := fun q hq => N' q (sub0 q hq)
      clear sub0
      rw [List.take_of_length_le (by rw [List.length_map]; omega)] at hot
      k_steps
      refine ⟨?_⟩
      refine iter_rangeUnr (n := 3) rfl (by assumption) ?small ?size (by k_asm) (by k_asm) ?_
      case small => exact small_one (by omega) (by omega) (by omega) (by omega)
      case size => exact rangeSize_nat _ _
      intro I hI
      have lI := allLt_of hI
      refine rr_loop (J := fun _ => R3J pa (L' + 1 + 1) I (D2, LCg.lst zs) (D, LCg.lst ys) (L' + 1, oS) (W ++ (Z ++ news)) news (fun z => if z = Str.ofString "pairs" then some (.ref D2) else if z = Str.ofString "outputs" then some (.ref D) else none)) ?_ ?_ ?_
      · exact .mk (V := []) (canon4 fun _ _ _ _ _ => rfl) ok1 dT rfl (List.forall_mem_nil _) (List.forall_mem_nil _) (List.forall_mem_nil _) Far.nil
      · rintro m' nw' hj h' tk' F' N'
        cases hj with
        | @mk u x2 y2 tx2 ty2 n2 oT2 tv V em ok2 dT2 en nP nC nI fV =>
        subst em en
        have lo9 : LastOn := ⟨⟩
        k_steps
        exact ret _ _ _ _ _ _ _ _ _ (by with_reducible assumption) (by k_asm) (fin_pool (by k_asm) (by k_mem) (by walk_at "m_split")) (by k_all) (by walk_at "m_far") rfl
      · rintro i m' nw' hi hj t' h' tk' F' N'
        cases hj with
        | @mk u x2 y2 tx2 ty2 n2 oT2 tv V em ok2 dT2 en nP nC nI fV =>
        subst em en
        have op9 : Open9 := ⟨⟩
        have jn : JoinOn := ⟨⟩
        have apx := hit.plain
        have nl9 : ys.length ≤ 4 := by omega
        k_steps
        refine ⟨?_⟩
        refine join g' L' (R4J w.params pa (L' + 1 + 1) I (I, itR (0 + ((i + 1 : Nat) : Int)) ((3 : Nat) - ((i + 1 : Nat) : Int))) (D2, LCg.lst zs) (D, LCg.lst ys) (L' + 1, oS) Z (W ++ (Z ++ news)) news (some (.int (0 + (i : Int)) t')) (fun z => if z = Str.ofString "pairs" then some (.ref D2) else if z = Str.ofString "outputs" then some (.ref D) else none)) ?go ?k
        case go =>
          (rename JoinOn => jn9); clear jn9
          k_steps
          all_goals (
            rename News _ _ _ _ => N0
            have NL := led6 (e1 := (L' + 1 + 1, _)) (e2 := (pa, _)) (e3 := (I, _)) (e4 := (D2, _)) (e5 := (D, _)) (e6 := (L' + 1, _)) (base := W ++ (Z ++ news)) N0 (by walk_at "m_pulls") (by walk_at "m_splitR")
            refine joinP (by k_asm) NL (.mk (canonT (if_pos rfl) (by simp [turn_node]) (fun z a1 a2 a3 a4 => by walk_at "m_off")) (by with_reducible assumption) (by with_reducible assumption) rfl (by k_all) (by k_all) (by k_all) (by walk_at "m_far") (by walk_at "m_expr") (by walk_at "m_dat") p8))
        case k =>
          rintro h' tk' m' nw' F' N' hj
          cases hj with
          | @mk u3 vn vt e d x3 y3 tx3 ty3 n3 oT3 V3 em ok3 dT3 en nP3 nC3 nI3 fV3 hvn hvt hpl =>
          subst em en
          k_steps
          refine ⟨?_⟩
          refine jc_Assign (by decide) (by k_asm) rfl (by rfl) (by rfl) (by decide) (by rfl) (by decide) (by rfl) (by rfl) ?_
          k_steps
          refine ⟨?_⟩
          refine jat_enum (keep := [(D, LCg.lst ys)]) (R5J _ xs d) rfl (by k_asm) (by k_asm) (by walk_at "m_sub") (.head _) (Nat.le_trans nl9 (Nat.le_of_ble_eq_true rfl)) rfl (by rfl) (by rfl) (by decide) (.mk rfl .nil rfl) ?turn ?done
          case turn =>
            rintro s₂ i2 x t2 zs2 hs news' its C oC D3 m₂ h tk E' hx hma hmb hj - hkp hNs hmap off offI hCD F' N'
            cases hj with
            | @mk ks en hI2 hP =>
            subst en
            obtain ⟨e7, d7, hxi, a7, vn7, vt7, n7, rfl, m7, x7, y7, p7⟩ := hit.get hx
            refine (show wpAny _ _ _ _ _ _ from ?_)
            k_steps
            all_goals (refine jEnd_of (by k_asm) (by k_asm) (fun _ h => h) off hkp ?_)
            · rename _ = true => hq
              have hq2 := dec_t hq
              exact .mk rfl (hI2.append (.cons _ _ .nil)) ⟨ks, hP, .inl ⟨by rw [hxi, ← hq2]; rfl, rfl⟩⟩
            · rename _ = false => hq
              have hq2 := dec_f hq
              exact .mk rfl hI2 ⟨ks, hP, .inr ⟨by rw [hxi]; exact fun q => hq2 (Option.some.inj q), rfl⟩⟩
          case done =>
            rintro g2 zs2 news' hkp hj D3 h tk F' N' offD3
            cases hj with
            | @mk ks en hI2 hP =>
            subst en
            k_steps
            refine ⟨?_⟩
            refine joinS (h₀ := g') (L := L') (by k_asm) (R6J w.params pa (L' + 1 + 1) I (D3, LCg.lst zs2) (L' + 1 + 1, oT3) (pa, src x3 y3 tx3 ty3 n3) (I, itR (0 + ((i + 1 : Nat) : Int)) ((3 : Nat) - ((i + 1 : Nat) : Int))) (D2, LCg.lst zs) (D, LCg.lst ys) (L' + 1, oS) Z (W ++ (Z ++ news)) news vn e) ?go ?k
            case go =>
              (rename JoinOn => jn9); clear jn9
              rcases hP.first with ⟨rfl, hno⟩ | ⟨j, r, rfl, hj, hjd, hno⟩
              · cases hI2
                k_steps
                rename News _ _ _ _ => N0
                have NL := led7 (e1 := (D3, _)) (e2 := (L' + 1 + 1, _)) (e3 := (pa, _)) (e4 := (I, _)) (e5 := (D2, _)) (e6 := (D, _)) (e7 := (L' + 1, _)) (base := W ++ (Z ++ news)) N0 (by walk_at "m_pulls") (by walk_at "m_splitR")
                exact joinP (by k_asm) NL ⟨rfl, .mk rfl (by k_all) (by k_all) (by k_all) (by walk_at "m_far") (by walk_at "m_expr")⟩
              · obtain ⟨t7, vs7, rfl, hI3⟩ := hI2.cons_inv
                k_steps
                rename News _ _ _ _ => N0
                have NL := led7 (e1 := (D3, _)) (e2 := (L' + 1 + 1, _)) (e3 := (pa, _)) (e4 := (I, _)) (e5 := (D2, _)) (e6 := (D, _)) (e7 := (L' + 1, _)) (base := W ++ (Z ++ news)) N0 (by walk_at "m_pulls") (by walk_at "m_splitR")
                exact joinP (by k_asm) NL ⟨rfl, .mk rfl (by k_all) (by k_all) (by k_all) (by walk_at "m_far") (by walk_at "m_expr")⟩
            case k =>
              rintro h' tk' nw' F' N' hj
              cases hj with
              | @mk V4 en nP4 nC4 nI4 fV4 hvn4 =>
              subst en
              k_steps
              refine ⟨?_⟩
              refine joinV (h₀ := g') (L := L') (by k_asm) (Str.ofString "more") (R7J w.params pa (L' + 1 + 1) I (D3, LCg.lst zs2) (L' + 1 + 1, oT3) (pa, src x3 y3 tx3 ty3 n3) (I, itR (0 + ((i + 1 : Nat) : Int)) ((3 : Nat) - ((i + 1 : Nat) : Int))) (D2, LCg.lst zs) (D, LCg.lst ys) (L' + 1, oS) Z (W ++ (Z ++ news)) news vn e zs (.bin (Str.ofString "+") (.scal (.lit 7)) e :: xs.map (·.1))) ?go ?k
              case go =>
                (rename JoinOn => jn9); clear jn9
                k_steps
                rename News _ _ _ _ => N0
                have NL := led7 (e1 := (D3, _)) (e2 := (L' + 1 + 1, _)) (e3 := (pa, _)) (e4 := (I, _)) (e5 := (D2, _)) (e6 := (D, _)) (e7 := (L' + 1, _)) (base := W ++ (Z ++ news)) N0 (by walk_at "m_pulls") (by walk_at "m_splitR")
                refine' joinP (by k_asm) NL ⟨_, rfl, .mk rfl ?hk9 rfl ?_ ?_ ?_ ?_ ?_ ?_⟩
                case hk9 => k_mem
                · k_all
                · k_all
                · k_all
                · walk_at "m_far"
                · walk_at "m_expr"
                refine outs_app (by k_mem) ?_ ?_ ?_
                · exact ExprAt.bin (by k_mem) (by k_mem) (by first | with_reducible assumption | decide +kernel) (ExprAt.scal (by k_mem) (by k_mem) (ExprAt.lit (by k_mem) (by k_mem))) (by walk_at "m_expr")
                · exact Or.inr ⟨rfl, by have hpd := hpl.dep; simp only [dep]; omega⟩
                · walk_at "m_outs"
              case k =>
                rintro v h' tk' nw' F' N' hj
                cases hj with
                | @mk l7 t7 V5 ev hm7 en nP5 nC5 nI5 fV5 hvn5 hot5 =>
                subst ev en
                (rename JoinOn => jn9); clear jn9
                rcases hP.first with ⟨rfl, hno⟩ | ⟨j, r, rfl, hj, hjd, hno⟩
                · cases hI2
                  k_steps
                  rename News _ _ _ _ => N0
                  have NL := led6 (e1 := (I, _)) (e2 := (L' + 1 + 1, _)) (e3 := (pa, _)) (e4 := (D2, _)) (e5 := (D, _)) (e6 := (L' + 1, _)) (base := W ++ (Z ++ news)) N0 (by walk_at "m_pulls") (by walk_at "m_splitR")
                  exact ⟨unr_led (by k_asm) NL (by k_all) (.mk (canon4 (fun z a1 a2 a3 a4 => by walk_at "m_off")) ok3 dT3 rfl (by k_all) (by k_all) (by k_all) (by walk_at "m_far"))⟩
                · obtain ⟨t6, vs7, rfl, hI3⟩ := hI2.cons_inv
                  k_steps
                  rename News _ _ _ _ => N0
                  have NL := led6 (e1 := (I, _)) (e2 := (L' + 1 + 1, _)) (e3 := (pa, _)) (e4 := (D2, _)) (e5 := (D, _)) (e6 := (L' + 1, _)) (base := W ++ (Z ++ news)) N0 (by walk_at "m_pulls") (by walk_at "m_splitR")
                  exact ⟨unr_led (by k_asm) NL (by k_all) (.mk (canon4 (fun z a1 a2 a3 a4 => by walk_at "m_off")) ok3 dT3 rfl (by k_all) (by k_all) (by k_all) (by walk_at "m_far"))⟩
theorem right_ok {prog : Program} {w : World} {p : Program} {loose : List Str} {mean : ExcName → Option Value} {mg mb : Str → Option Value} : PoolC prog w p loose mean mg mb 700 754 (fun pa => [.ref pa]) [] (fun nw v => v = .bool true) := Cright_ok.pack.2 (of_bad (by with_unfolding_all exact Cright_ok.core)) prog w p loose mean mg mb

/-! the joins -/
def OnAt (P : Params) (nw : Lst) (v : Value) : Option Ex → Prop
  | none => v = .none
  | some e => ExprAt P nw v e
theorem OnAt.mono {P : Params} {nw nw' : Lst} {v : Value} {on : Option Ex} (h : OnAt P nw v on) (hs : ∀ p ∈ nw, p ∈ nw') : OnAt P nw' v on := by
  cases on with
  | none => exact h
  | some e => exact ExprAt.mono h hs
/-- a list of texts -/
def UsAt (nw : Lst) (v : Value) (us : List Str) : Prop := ∃ (a : Addr) (vs : List Value) (n : Nat), v = .ref a ∧ (a, listOf vs.toArray n) ∈ nw ∧ DatAll nw vs (us.map Dat.str) ∧ us.length ≤ 2 ∧ ∀ s ∈ us, PyData.strOk s = true
theorem UsAt.mono {nw nw' : Lst} {v : Value} {us : List Str} (h : UsAt nw v us) (hs : ∀ p ∈ nw, p ∈ nw') : UsAt nw' v us := by
  obtain ⟨a, vs, n, h1, h2, h3, h4, h5⟩ := h
  exact ⟨a, vs, n, h1, hs _ h2, h3.mono hs, h4, h5⟩
theorem us_mk {nw : Lst} {a : Addr} {vs : List Value} {n : Nat} {us : List Str} (h2 : (a, listOf vs.toArray n) ∈ nw) (h3 : DatAll nw vs (us.map Dat.str)) (h4 : us.length ≤ 2) (h5 : ∀ s ∈ us, PyData.strOk s = true) : UsAt nw (.ref a) us := ⟨a, vs, n, rfl, h2, h3, h4, h5⟩
theorem ok_a : PyData.strOk (Str.ofString "a") = true := by decide +kernel
theorem ok_x : PyData.strOk (Str.ofString "x") = true := by decide +kernel
theorem us0 {nw : Lst} {a : Addr} {n : Nat} (h : (a, listOf #[] n) ∈ nw) : UsAt nw (.ref a) [] := ⟨a, [], n, rfl, h, .nil, Nat.zero_le _, fun _ h => (nomatch h)⟩
theorem us1 {nw : Lst} {a : Addr} {n : Nat} {t : Tok} (h : (a, listOf #[.str (Str.ofString "a") t] n) ∈ nw) : UsAt nw (.ref a) [Str.ofString "a"] :=
  ⟨a, [_], n, rfl, h, .cons (.str _ _) .nil, by decide, fun s h => by rw [List.mem_singleton.mp h]; exact ok_a⟩
theorem us2 {nw : Lst} {a : Addr} {n : Nat} {t u : Tok} (h : (a, listOf #[.str (Str.ofString "a") t, .str (Str.ofString "x") u] n) ∈ nw) : UsAt nw (.ref a) [Str.ofString "a", Str.ofString "x"] :=
  ⟨a, [_, _], n, rfl, h, .cons (.str _ _) (.cons (.str _ _) .nil), by decide, fun s h => by
    rcases List.mem_cons.mp h with rfl | h
    · exact ok_a
    · rw [List.mem_singleton.mp h]; exact ok_x⟩
def CondAt (P : Params) (nw : Lst) (k : Int) (r : Value) : Prop := ∃ (a : Addr) (ov uv : Value) (n : Nat) (on : Option Int) (us : List Str), r = .ref a ∧ (a, listOf #[ov, uv] n) ∈ nw ∧ (on = none ∨ on = some k) ∧ OnAt P nw ov (on.map .lit) ∧ UsAt nw uv us
theorem cond_mk {P : Params} {nw : Lst} {k : Int} {a : Addr} {ov uv : Value} {n : Nat} (on : Option Int) {us : List Str} (h1 : (a, listOf #[ov, uv] n) ∈ nw) (h2 : on = none ∨ on = some k) (h3 : OnAt P nw ov (on.map .lit)) (h4 : UsAt nw uv us) : CondAt P nw k (.ref a) := ⟨a, ov, uv, n, on, us, rfl, h1, h2, h3, h4⟩
structure MemOn : Prop where
theorem item_tupM {prog : Program} {w : World} {A : Around} {E : Value → Shared → Prop} {s : Shared} {h₀ : Heap} {L t : Addr} {led : Lst} {its : List Value} {n : Nat} {k : Int} {u : Tok} {j : Nat} {v : Value} {value slice : PySem.Expr} {Q : Value → Shared → Prop} (N : News h₀ L s.heap led) (hm : (t, ({ cls := .type "tuple", data := .seq its.toArray n } : Obj)) ∈ led) (hlo : -(2 ^ 63) ≤ k) (hhi : k < 2 ^ 63) (hj : seqIndex? k its.length = some j) (hx : its[j]? = some v) (h : Q v s)
    (hs : subscripted slice false (.ref t) (.int k u) = operate [.ref t, .int k u] (getItem (.ref t) (.int k u)) := by with_unfolding_all rfl) (hg : ∀ r, letTemporaryGo value (.ref t) r = pure () := by intro _; with_unfolding_all rfl) :
    wpAny (model prog w) A (subscriptTail value slice (.ref t) (.int k u)) Q E s :=
  item_tupleL ⟨_, (N _ hm).1, rfl, _, rfl⟩ hlo hhi hj hx h hs hg
theorem item_negM {prog : Program} {w : World} {A : Around} {E : Value → Shared → Prop} {s : Shared} {h₀ : Heap} {L l : Addr} {led : Lst} {vs : List Value} {n : Nat} {u : Tok} {v : Value} {value slice : PySem.Expr} {Q : Value → Shared → Prop} (N : News h₀ L s.heap led) (hm : (l, listOf vs.toArray n) ∈ led) (hx : vs.getLast? = some v) (h : Q v s)
    (hs : subscripted slice false (.ref l) (.int (-1) u) = operate [.ref l, .int (-1) u] (getItem (.ref l) (.int (-1) u)) := by with_unfolding_all rfl) :
    wpAny (model prog w) A (subscriptTail value slice (.ref l) (.int (-1) u)) Q E s := by
  have hl : s.heap.IsList l vs.toArray := ⟨_, (N _ hm).1, rfl, _, rfl⟩
  have hpos : 0 < vs.length := by
    cases vs with
    | nil => simp at hx
    | cons _ _ => exact Nat.succ_pos _
  refine tail_any hl.typeIs slot_list_getitem.lookup (wpAny_getItem_list_neg hl (by decide) (by rw [List.size_toArray]; omega) (by decide) ?_ h) hs
  rw [List.size_toArray, show ((-1 : Int) + (vs.length : Int)).toNat = vs.length - 1 by omega]
  rw [List.getLast?_eq_getElem?] at hx
  simpa using hx
theorem item_last2 {prog : Program} {w : World} {A : Around} {E : Value → Shared → Prop} {s : Shared} {h₀ : Heap} {L l : Addr} {led : Lst} {v1 v2 : Value} {n : Nat} {u : Tok} {value slice : PySem.Expr} {Q : Value → Shared → Prop} (N : News h₀ L s.heap led) (hm : (l, listOf #[v1, v2] n) ∈ led) (h : Q v2 s)
    (hs : subscripted slice false (.ref l) (.int (-1) u) = operate [.ref l, .int (-1) u] (getItem (.ref l) (.int (-1) u)) := by with_unfolding_all rfl) :
    wpAny (model prog w) A (subscriptTail value slice (.ref l) (.int (-1) u)) Q E s := item_negM (vs := [v1, v2]) N hm rfl h hs
structure SplitT : Prop where
theorem OnAt.handed {P : Params} {nw : Lst} {v : Value} {on : Option Ex} (h : OnAt P nw v on) : handedIn v = true := by
  cases on with
  | none => cases h; rfl
  | some e => obtain ⟨a, rfl⟩ := ExprAt.ref h; rfl
theorem copy_m {prog : Program} {w : World} {A : Around} {E : Value → Shared → Prop} {s : Shared} {h₀ : Heap} {L l : Addr} {m : Str → Option Value} {led : Lst} {vs : List Value} {n : Nat} {Q : Value → Shared → Prop} (F : Fr h₀ L s.heap m) (N : News h₀ L s.heap led) (hm : (l, listOf vs.toArray n) ∈ led) (hz : vs.length ≤ 1000000)
    (h : ∀ D c h', Fr h₀ L h' m → News h₀ L h' ((D, listOf vs.toArray c) :: led) → (∀ q ∈ led, q.1 < D) → Q (.ref D) { s with heap := h' }) : wpAny (model prog w) A (call (.type "list") [.ref l]) Q E s :=
  list_copyK F N ⟨_, (N _ hm).1, rfl, _, rfl⟩ h (by rw [List.size_toArray, sizeLine_eq]; omega)
theorem words11_17 : True := by
  k_with "@call type:list" => (
      k_here; (with_reducible show wpAny _ _ (call (Value.type "list") [Value.ref _]) _ _ _)
      k_dflt (refine' copy_m ?cF ?cN ?cm ?cz ?_; (case cF => k_asm); (case cN => k_asm); (case cm => k_mem); (case cz => first | omega | (simp only [List.length_nil]; omega)))
      intro D' c' h' F' N' l1; (try k_lt l1); (try dsimp only))
  k_with "@subscriptTail Name Constant ref int" => (
      k_here; (rename MemOn => mo9); (with_reducible show wpAny _ _ (subscriptTail _ _ (Value.ref _) (Value.int _ _)) _ _ _)
      first
      | (with_unfolding_all refine' item_memK ?iN ?im ?i0 ?ik ?ix ?_ ?is; (case iN => k_asm); (case im => k_mem); (case i0 => decide); (case ik => decide); (case ix => exact rfl); (case is => with_unfolding_all rfl))
      | (with_unfolding_all refine' item_tupM ?iN ?im ?i0 ?ik ?ij ?ix ?_ ?is ?ig; (case iN => k_asm); (case im => k_mem); (case i0 => decide); (case ik => decide); (case ij => exact rfl); (case ix => exact rfl); (case is => with_unfolding_all rfl); (case ig => intro _; with_unfolding_all rfl))
      (try dsimp only))
  k_with "@subscriptTail" => (
      k_here; (rename MemOn => mo9); (with_reducible show wpAny _ _ (subscriptTail _ _ (Value.ref _) (Value.int (-1) _)) _ _ _)
      (with_unfolding_all refine' item_last2 ?iN ?im ?_ ?is; (case iN => k_asm); (case im => k_mem); (case is => with_unfolding_all rfl))
      (try dsimp only))
  k_with "@call ref" => (
      k_here; (rename SplitT => st9); (with_reducible show wpAny _ _ (call (Value.ref 720) [Value.ref _, Value.int 2 _]) _ _ _);
      k_dflt (refine' take_ok ?t1 ?t2 ?B ?F ?X ?N ?P ?A ?T ?K ?O ?D ?U ?_; walk_at "m_take"); (rcases (show v9 = 0 ∨ v9 = 1 by omega) with e9 | e9) <;> subst e9 <;> (try dsimp only) <;> (try k_fold))
  trivial
section
variable {prog : Program} {w : World} {p : Program} {loose : List Str} {mean : ExcName → Option Value} {mg mb : Str → Option Value}
theorem cond_ok (k : Int) (tk : Tok) : PoolC prog w p loose mean mg mb 850 737 (fun pa => [.ref pa, .int k tk]) [] (fun nw v => CondAt w.params nw k v) := by
  unfold PoolC
  intro dp un gd cn cs a ccd cl outer A₀ base h₀ L m news s pa x y tx ty n Q E B F X N hoff T hk ok hdp hun hsub ret
  refine wpAny_call ?_
  k_dflt (refine' enter [(Str.ofString "source", .ref pa), (Str.ofString "number", .int k tk)] ?k1 ?k2 ?k3 ?k4 ?k5 ?kA ?kF ?kK ?k6 ?k7 ?k8 ?k9 ?kB ?_ ?c2 ?c3 ?c4 ?c5; walk_at "m_enter")
  have st9 : SplitT := ⟨⟩
  k_steps
  all_goals (refine ret _ _ _ _ _ _ _ _ _ (by with_reducible assumption) (by k_asm) (fin_pool (by k_asm) (by k_mem) (by walk_at "m_split")) (by k_all) (by walk_at "m_far") ?_)
  all_goals first
    | exact cond_mk (some k) (by k_mem) (.inr rfl) (ExprAt.lit (by k_mem) (by k_mem)) (us0 (by k_mem))
    | exact cond_mk (some k) (by k_mem) (.inr rfl) (ExprAt.lit (by k_mem) (by k_mem)) (us1 (by k_mem))
    | exact cond_mk (some k) (by k_mem) (.inr rfl) (ExprAt.lit (by k_mem) (by k_mem)) (us2 (by k_mem))
    | exact cond_mk none (by k_mem) (.inl rfl) rfl (us0 (by k_mem))
    | exact cond_mk none (by k_mem) (.inl rfl) rfl (us1 (by k_mem))
    | exact cond_mk none (by k_mem) (.inl rfl) rfl (us2 (by k_mem))
end
/-- a row of joins -/
inductive JT
  | tab (i : Nat)
  | step (kind : Str) (l : JT) (i : Nat) (on : Option Int) (us : List Str)
  | grp (l : JT) (inner : Option Int)
structure Row where
  i : Nat
  kind : Str
  on : Option Ex
  us : List Str
def grpOn : Option Int → Ex
  | none => .lit 9
  | some v => .bin (Str.ofString "and") (.lit v) (.lit 9)
def flat : JT → Str → List Row
  | .tab i, k => [⟨i, k, none, []⟩]
  | .step kind l i on us, k => flat l k ++ [⟨i, kind, on.map .lit, us⟩]
  | .grp l inner, k => flat l k ++ [⟨4, Str.ofString "cross", none, []⟩, ⟨5, Str.ofString "inner", some (grpOn inner), []⟩]
def jsize : JT → Nat
  | .tab _ => 0
  | .step _ l _ _ _ => jsize l + 1
  | .grp l _ => jsize l + 3
theorem flat_len : ∀ (t : JT) (k : Str), (flat t k).length ≤ jsize t + 1
  | .tab _, _ => Nat.le_refl _
  | .step _ l _ _ _, k => by simp only [flat, jsize, List.length_append, List.length_cons, List.length_nil]; have := flat_len l k; omega
  | .grp l _, k => by simp only [flat, jsize, List.length_append, List.length_cons, List.length_nil]; have := flat_len l k; omega
/-- a table of the law -/
def TabAt (tabs : List Addr) (nw : Lst) (v : Value) (i : Nat) : Prop := ∃ (b d : Addr) (es : List DictEntry) (n : Nat), v = .ref b ∧ tabs[i]? = some b ∧ (b, instObj 536 d) ∈ nw ∧ (d, dictOf es n) ∈ nw
theorem TabAt.mono {tabs : List Addr} {nw nw' : Lst} {v : Value} {i : Nat} (h : TabAt tabs nw v i) (hs : ∀ p ∈ nw, p ∈ nw') : TabAt tabs nw' v i := by
  obtain ⟨b, d, es, n, h1, h2, h3, h4⟩ := h
  exact ⟨b, d, es, n, h1, h2, hs _ h3, hs _ h4⟩
abbrev joinD (P : Params) (t1 t2 t3 t4 t5 : Tok) (kv lv rv ov uv : Value) (n : Nat) : Obj :=
  dictOf [ent P (Str.ofString "kind") t1 kv, ent P (Str.ofString "left") t2 lv, ent P (Str.ofString "right") t3 rv, ent P (Str.ofString "on") t4 ov, ent P (Str.ofString "using") t5 uv] n
inductive JoinT (P : Params) (tabs : List Addr) (nw : Lst) : Value → JT → Prop
  | tab {v : Value} {i : Nat} : TabAt tabs nw v i → JoinT P tabs nw v (.tab i)
  | step {x dx : Addr} {kind : Str} {tk t1 t2 t3 t4 t5 : Tok} {lv rv ov uv : Value} {l : JT} {i : Nat} {on : Option Int} {us : List Str} {n : Nat} : (x, instObj 562 dx) ∈ nw → (dx, joinD P t1 t2 t3 t4 t5 (.str kind tk) lv rv ov uv n) ∈ nw →
      PyData.strOk kind = true → JoinT P tabs nw lv l → TabAt tabs nw rv i → OnAt P nw ov (on.map .lit) → UsAt nw uv us → JoinT P tabs nw (.ref x) (.step kind l i on us)
  | grp {x dx y dy u : Addr} {es : List DictEntry} {k : Nat} {tk t1 t2 t3 t4 t5 : Tok} {lv ov : Value} {l : JT} {inner : Option Int} {n m : Nat} : (x, instObj 562 dx) ∈ nw → (dx, joinD P t1 t2 t3 t4 t5 (.str (Str.ofString "cross") tk) lv (.ref y) ov (.ref u) n) ∈ nw →
      JoinT P tabs nw lv l → (y, instObj 562 dy) ∈ nw → (dy, dictOf es k) ∈ nw → JoinT P tabs nw (.ref y) (.step (Str.ofString "inner") (.tab 4) 5 inner []) → ExprAt P nw ov (.lit 9) → (u, listOf #[] m) ∈ nw → JoinT P tabs nw (.ref x) (.grp l inner)
theorem JoinT.mono {P : Params} {tabs : List Addr} {nw nw' : Lst} {v : Value} {t : JT} (h : JoinT P tabs nw v t) (hs : ∀ p ∈ nw, p ∈ nw') : JoinT P tabs nw' v t := by
  induction h with
  | tab a => exact .tab (a.mono hs)
  | step a b c _ e f g ih => exact .step (hs _ a) (hs _ b) c ih (e.mono hs) (f.mono hs) (g.mono hs)
  | grp a b _ d e _ f g ih1 ih2 => exact .grp (hs _ a) (hs _ b) ih1 (hs _ d) (hs _ e) ih2 (f.mono hs) (hs _ g)
/-- a row that flatten_source gives -/
def RowAt (P : Params) (tabs : List Addr) (nw : Lst) (v : Value) (r : Row) : Prop := ∃ (t : Addr) (bv ov uv : Value) (kt : Tok) (n : Nat), v = .ref t ∧ (t, ({ cls := .type "tuple", data := .seq #[bv, .str r.kind kt, ov, uv] n } : Obj)) ∈ nw ∧ TabAt tabs nw bv r.i ∧ OnAt P nw ov r.on ∧ UsAt nw uv r.us ∧ PyData.strOk r.kind = true
theorem RowAt.mono {P : Params} {tabs : List Addr} {nw nw' : Lst} {v : Value} {r : Row} (h : RowAt P tabs nw v r) (hs : ∀ p ∈ nw, p ∈ nw') : RowAt P tabs nw' v r := by
  obtain ⟨t, bv, ov, uv, kt, n, h1, h2, h3, h4, h5, h6⟩ := h
  exact ⟨t, bv, ov, uv, kt, n, h1, hs _ h2, h3.mono hs, h4.mono hs, h5.mono hs, h6⟩
inductive RowsAt (P : Params) (tabs : List Addr) (nw : Lst) : List Value → List Row → Prop
  | nil : RowsAt P tabs nw [] []
  | cons {v : Value} {vs : List Value} {r : Row} {rs : List Row} : RowAt P tabs nw v r → RowsAt P tabs nw vs rs → RowsAt P tabs nw (v :: vs) (r :: rs)
theorem RowsAt.mono {P : Params} {tabs : List Addr} {nw nw' : Lst} {vs : List Value} {rs : List Row} (h : RowsAt P tabs nw vs rs) (hs : ∀ p ∈ nw, p ∈ nw') : RowsAt P tabs nw' vs rs := by
  induction h with
  | nil => exact .nil
  | cons a _ ih => exact .cons (a.mono hs) ih
theorem RowsAt.append {P : Params} {tabs : List Addr} {nw : Lst} {vs ws : List Value} {rs qs : List Row} (h : RowsAt P tabs nw vs rs) (k : RowsAt P tabs nw ws qs) : RowsAt P tabs nw (vs ++ ws) (rs ++ qs) := by
  induction h with
  | nil => exact k
  | cons a _ ih => exact .cons a ih
theorem RowsAt.length {P : Params} {tabs : List Addr} {nw : Lst} {vs : List Value} {rs : List Row} (h : RowsAt P tabs nw vs rs) : vs.length = rs.length := by
  induction h with
  | nil => rfl
  | cons _ _ ih => rw [List.length_cons, List.length_cons, ih]
def FlatR (P : Params) (tabs : List Addr) (rs : List Row) (nw : Lst) (r : Value) : Prop := ∃ (a : Addr) (vs : List Value) (n : Nat), r = .ref a ∧ (a, listOf vs.toArray n) ∈ nw ∧ RowsAt P tabs nw vs rs
theorem flatR_mk {P : Params} {tabs : List Addr} {rs : List Row} {nw : Lst} {a : Addr} {vs : List Value} {n : Nat} (h : (a, listOf vs.toArray n) ∈ nw) (k : RowsAt P tabs nw vs rs) : FlatR P tabs rs nw (.ref a) := ⟨a, vs, n, rfl, h, k⟩
theorem JoinT.handed {P : Params} {tabs : List Addr} {nw : Lst} {v : Value} {t : JT} (h : JoinT P tabs nw v t) : handedIn v = true := by
  cases h with
  | tab a => obtain ⟨b, d, es, n, rfl, _⟩ := a; rfl
  | step _ _ _ _ _ _ _ => rfl
  | grp _ _ _ _ _ _ _ _ => rfl
theorem row_mk {P : Params} {tabs : List Addr} {nw : Lst} {t : Addr} {bv ov uv : Value} {kt : Tok} {n : Nat} {i : Nat} {kind : Str} {on : Option Ex} {us : List Str} (h : (t, ({ cls := .type "tuple", data := .seq #[bv, .str kind kt, ov, uv] n } : Obj)) ∈ nw) (ht : TabAt tabs nw bv i) (ho : OnAt P nw ov on) (hu : UsAt nw uv us) (ok : PyData.strOk kind = true) : RowAt P tabs nw (.ref t) ⟨i, kind, on, us⟩ :=
  ⟨t, bv, ov, uv, kt, n, rfl, h, ht, ho, hu, ok⟩
theorem flat_any {P : Params} {tabs : List Addr} {rs : List Row} {nw : Lst} {r : Value} (h : FlatR P tabs rs nw r) : ∃ (a : Addr) (vs : List Value) (n : Nat), r = .ref a ∧ (a, listOf vs.toArray n) ∈ nw ∧ RowsAt P tabs nw vs rs := h
section
variable {prog : Program} {w : World} {p : Program} {loose : List Str} {mean : ExcName → Option Value} {mg mb : Str → Option Value}
theorem flat_tab {tabs : List Addr} {nw : Lst} {v : Value} {i : Nat} (h : TabAt tabs nw v i) (kind : Str) (tk : Tok) (ok : PyData.strOk kind = true) : ReadC prog w p loose mean mg mb 850 680 [v, .str kind tk] nw (FlatR w.params tabs (flat (.tab i) kind)) := by
  unfold ReadC
  intro dp un gd cn cs a ccd cl outer A₀ base h₀ L m news s Q E B F X N T hk hdp hun hsub ret
  refine wpAny_call ?_
  k_dflt (refine' enter [(Str.ofString "node", v), (Str.ofString "kind", .str kind tk)] ?k1 ?k2 ?k3 ?k4 ?k5 ?kA ?kF ?kK ?k6 ?k7 ?k8 ?k9 ?kB ?_ ?c2 ?c3 ?c4 ?c5; walk_at "m_enter")
  have h1 := h
  obtain ⟨b, d, es, n, rfl, h2, h3, h5⟩ := h
  have h4 := hsub _ h3
  have h6 := hsub _ h5
  k_steps
  exact ret _ _ _ _ (by k_asm) (fin_read (by k_asm) (by walk_at "m_splitR")) (by walk_at "m_far") (flatR_mk (vs := [_]) (by k_mem) (.cons (row_mk (by k_mem) (h1.mono (by walk_at "m_sub")) rfl (us0 (by k_mem)) ok) .nil))
theorem flat_step {tabs : List Addr} {nw : Lst} {x dx : Addr} {kd : Str} {tk t1 t2 t3 t4 t5 : Tok} {lv rv ov uv : Value} {l : JT} {i : Nat} {on : Option Int} {us : List Str} {n : Nat} (hx : (x, instObj 562 dx) ∈ nw) (hdx : (dx, joinD w.params t1 t2 t3 t4 t5 (.str kd tk) lv rv ov uv n) ∈ nw) (okd : PyData.strOk kd = true)
    (ht : TabAt tabs nw rv i) (ho : OnAt w.params nw ov (on.map .lit)) (hu : UsAt nw uv us) (hz : jsize l ≤ 100) (hlv : handedIn lv = true)
    (ih : ∀ (kind : Str) (tk : Tok), PyData.strOk kind = true → ReadC prog w p loose mean mg mb (850 - jsize l) 680 [lv, .str kind tk] nw (FlatR w.params tabs (flat l kind)))
    (kind : Str) (tk' : Tok) (ok : PyData.strOk kind = true) : ReadC prog w p loose mean mg mb (850 - (jsize l + 1)) 680 [.ref x, .str kind tk'] nw (FlatR w.params tabs (flat (.step kd l i on us) kind)) := by
  unfold ReadC
  intro dp un gd cn cs a ccd cl outer A₀ base h₀ L m news s Q E B F X N T hk hdp hun hsub ret
  refine wpAny_call ?_
  k_dflt (refine' enter [(Str.ofString "node", .ref x), (Str.ofString "kind", .str kind tk')] ?k1 ?k2 ?k3 ?k4 ?k5 ?kA ?kF ?kK ?k6 ?k7 ?k8 ?k9 ?kB ?_ ?c2 ?c3 ?c4 ?c5; walk_at "m_enter")
  have hx' := hsub _ hx
  have hdx' := hsub _ hdx
  simp only [joinD] at hdx'
  have ht0 := ht
  obtain ⟨b, d, es, n', rfl, h2, h3, h5⟩ := ht
  have h4 := hsub _ h3
  have h6 := hsub _ h5
  have hu0 := hu
  obtain ⟨ul, us', un', rfl, hu1, hu2, hu3, hu4⟩ := hu
  have hu5 := hsub _ hu1
  have hul := hu2.length
  rw [List.length_map] at hul
  have hfl := flat_len l kind
  have hov := ho.handed
  k_with "call ref" => ((with_reducible show wpAny _ _ (call (Value.ref 680) [_, _]) _ _ _); k_dflt (refine' ReadC.use (ih _ _ (by with_reducible assumption)) ?B ?F ?X ?N ?T ?K ?D ?U ?S ?Z ?_; walk_at "m_read"); (refine Exists.elim (flat_any q9) ?_); clear q9; intro l9 q9; (refine Exists.elim q9 ?_); clear q9; intro w9 q9; (refine Exists.elim q9 ?_); clear q9; intro c9 q9; obtain ⟨e9, i9, j9⟩ := q9; subst e9; have n9 := j9.length; (try dsimp only); (try k_fold))
  k_steps
  exact ret _ _ _ _ (by k_asm) (fin_read (by k_asm) (by walk_at "m_splitR")) (by walk_at "m_far") (flatR_mk (by k_mem) (RowsAt.append (j9.mono (by walk_at "m_sub")) (.cons (row_mk (by k_mem) (ht0.mono (by walk_at "m_sub")) (ho.mono (by walk_at "m_sub")) (us_mk (by k_mem) (hu2.mono (by walk_at "m_sub")) hu3 hu4) okd) .nil)))
end
theorem flat_two {P : Params} {tabs : List Addr} {r1 r2 : Row} {nw : Lst} {r : Value} (h : FlatR P tabs [r1, r2] nw r) : ∃ (a : Addr) (v1 v2 : Value) (n : Nat), r = .ref a ∧ (a, listOf #[v1, v2] n) ∈ nw ∧ RowAt P tabs nw v1 r1 ∧ RowAt P tabs nw v2 r2 := by
  obtain ⟨a, vs, n, rfl, hm, hx⟩ := h
  cases hx with
  | cons h1 hx =>
    cases hx with
    | cons h2 hx =>
      cases hx
      exact ⟨a, _, _, n, rfl, hm, h1, h2⟩
theorem row_any {P : Params} {tabs : List Addr} {nw : Lst} {v : Value} {i : Nat} {kind : Str} {on : Option Ex} {us : List Str} (h : RowAt P tabs nw v ⟨i, kind, on, us⟩) : ∃ (t : Addr) (bv ov uv : Value) (kt : Tok) (n : Nat), v = .ref t ∧ (t, ({ cls := .type "tuple", data := .seq #[bv, .str kind kt, ov, uv] n } : Obj)) ∈ nw ∧ TabAt tabs nw bv i ∧ OnAt P nw ov on ∧ UsAt nw uv us ∧ PyData.strOk kind = true := h
theorem on_none {P : Params} {nw : Lst} {v : Value} (h : OnAt P nw v none) : v = .none := h
theorem on_some {P : Params} {nw : Lst} {v : Value} {e : Ex} (h : OnAt P nw v (some e)) : ExprAt P nw v e := h
theorem on_ref {P : Params} {nw : Lst} {v : Value} {e : Ex} (h : OnAt P nw v (some e)) : ∃ a, v = .ref a := ExprAt.ref h
def Cflat_grp.pack : { P : CxP // (∀ prog w p loose mean mg mb dp un gd cn cs a ccd cl outer A₀ base h₀ L m' news s pa x0 y0 tx ty n0 Q E g' L' h' tk'0 o1 o2, P prog w p loose mean mg mb dp un gd cn cs a ccd cl outer A₀ base h₀ L m' news s pa x0 y0 tx ty n0 Q E g' L' h' tk'0 o1 o2) → ∀ (prog : Program) (w : World) (p : Program) (loose : List Str) (mean : ExcName → Option Value) (mg mb : Str → Option Value), ∀ (tabs : List Addr) (nw : Lst) (x dx y dy u : Addr) (es : List DictEntry) (k : Nat) (tk t1 t2 t3 t4 t5 : Tok) (lv ov : Value) (l : JT) (inner : Option Int) (n m : Nat) (hx : (x, instObj 562 dx) ∈ nw) (hdx : (dx, joinD w.params t1 t2 t3 t4 t5 (.str (Str.ofString "cross") tk) lv (.ref y) ov (.ref u) n) ∈ nw) (hy : (y, instObj 562 dy) ∈ nw) (hdy : (dy, dictOf es k) ∈ nw) (ho : ExprAt w.params nw ov (.lit 9)) (hu : (u, listOf #[] m) ∈ nw) (hz : jsize l ≤ 100) (hlv : handedIn lv = true) (ih : ∀ (kind : Str) (tk : Tok), PyData.strOk kind = true → ReadC prog w p loose mean mg mb (850 - jsize l) 680 [lv, .str kind tk] nw (FlatR w.params tabs (flat l kind))) (ihy : ∀ (tk : Tok), ReadC prog w p loose mean mg mb (850 - 1) 680 [.ref y, .str (Str.ofString "cross") tk] nw (FlatR w.params tabs [⟨4, Str.ofString "cross", none, []⟩, ⟨5, Str.ofString "inner", inner.map .lit, []⟩])) (kind : Str) (tk' : Tok) (ok : PyData.strOk kind = true), ReadC prog w p loose mean mg mb (850 - (jsize l + 3)) 680 [.ref x, .str kind tk'] nw (FlatR w.params tabs (flat (.grp l inner) kind)) } := ⟨_, fun h prog w p loose mean mg mb tabs nw x dx y dy u es k tk t1 t2 t3 t4 t5 lv ov l inner n m hx hdx hy hdy ho hu hz hlv ih ihy kind tk' ok => by
  unfold ReadC
  intro dp un gd cn cs a ccd cl outer A₀ base h₀ L m' news s Q E B F X N T hk hdp hun hsub ret
  refine wpAny_call ?_
  k_dflt (refine' enter [(Str.ofString "node", .ref x), (Str.ofString "kind", .str kind tk')] ?k1 ?k2 ?k3 ?k4 ?k5 ?kA ?kF ?kK ?k6 ?k7 ?k8 ?k9 ?kB ?_ ?c2 ?c3 ?c4 ?c5; walk_at "m_enterE")
  obtain ⟨pa, -⟩ : ∃ z : Addr, True := ⟨default, trivial⟩
  obtain ⟨x0, -⟩ : ∃ z : Int, True := ⟨default, trivial⟩
  obtain ⟨y0, -⟩ : ∃ z : Int, True := ⟨default, trivial⟩
  obtain ⟨tx, -⟩ : ∃ z : Tok, True := ⟨default, trivial⟩
  obtain ⟨ty, -⟩ : ∃ z : Tok, True := ⟨default, trivial⟩
  obtain ⟨n0, -⟩ : ∃ z : Nat, True := ⟨default, trivial⟩
  obtain ⟨tk'0, -⟩ : ∃ z : Nat, True := ⟨default, trivial⟩
  obtain ⟨o1, -⟩ : ∃ z : Obj, True := ⟨default, trivial⟩
  obtain ⟨o2, -⟩ : ∃ z : Obj, True := ⟨default, trivial⟩
  revert T'
  revert X'
  revert B'
  revert N'
  revert F'
  revert FG'
  revert ret
  revert hsub
  revert hun
  revert hdp
  revert hk
  revert T
  revert N
  revert X
  revert F
  revert B
  revert tabs nw x dx y dy u es k tk t1 t2 t3 t4 t5 lv ov l inner n m hx hdx hy hdy ho hu hz hlv ih ihy kind tk' ok
  exact h prog w p loose mean mg mb dp un gd cn cs a ccd cl outer A₀ base h₀ L m' news s pa x0 y0 tx ty n0 Q E g' L' h' tk'0 o1 o2⟩
noncomputable def Cflat_grp.c : Cx := bad Cflat_grp.pack.1
noncomputable def Cflat_grp.prog : Program := Cflat_grp.c.prog
noncomputable def Cflat_grp.w : World := Cflat_grp.c.w
noncomputable def Cflat_grp.p : Program := Cflat_grp.c.p
noncomputable def Cflat_grp.loose : List Str := Cflat_grp.c.loose
noncomputable def Cflat_grp.mean : ExcName → Option Value := Cflat_grp.c.mean
noncomputable def Cflat_grp.mg : Str → Option Value := Cflat_grp.c.mg
noncomputable def Cflat_grp.mb : Str → Option Value := Cflat_grp.c.mb
noncomputable def Cflat_grp.dp : Nat := Cflat_grp.c.dp
noncomputable def Cflat_grp.un : Nat := Cflat_grp.c.un
noncomputable def Cflat_grp.gd : Option (List Code) := Cflat_grp.c.gd
noncomputable def Cflat_grp.cn : Str := Cflat_grp.c.cn
noncomputable def Cflat_grp.cs : Scope := Cflat_grp.c.cs
noncomputable def Cflat_grp.a : Addr := Cflat_grp.c.a
noncomputable def Cflat_grp.ccd : Value := Cflat_grp.c.ccd
noncomputable def Cflat_grp.cl : List (Str × Addr) := Cflat_grp.c.cl
noncomputable def Cflat_grp.outer : List Env := Cflat_grp.c.outer
noncomputable def Cflat_grp.A₀ : Around := Cflat_grp.c.A₀
noncomputable def Cflat_grp.base : Heap := Cflat_grp.c.base
noncomputable def Cflat_grp.h₀ : Heap := Cflat_grp.c.h₀
noncomputable def Cflat_grp.L : Addr := Cflat_grp.c.L
noncomputable def Cflat_grp.m' : Str → Option Value := Cflat_grp.c.m
noncomputable def Cflat_grp.news : Lst := Cflat_grp.c.news
noncomputable def Cflat_grp.s : Shared := Cflat_grp.c.s
noncomputable def Cflat_grp.pa : Addr := Cflat_grp.c.pa
noncomputable def Cflat_grp.x0 : Int := Cflat_grp.c.x
noncomputable def Cflat_grp.y0 : Int := Cflat_grp.c.y
noncomputable def Cflat_grp.tx : Tok := Cflat_grp.c.tx
noncomputable def Cflat_grp.ty : Tok := Cflat_grp.c.ty
noncomputable def Cflat_grp.n0 : Nat := Cflat_grp.c.n
noncomputable def Cflat_grp.Q : Value → Shared → Prop := Cflat_grp.c.Q
noncomputable def Cflat_grp.E : Value → Shared → Prop := Cflat_grp.c.E
noncomputable def Cflat_grp.g' : Heap := Cflat_grp.c.g'
noncomputable def Cflat_grp.L' : Addr := Cflat_grp.c.L'
noncomputable def Cflat_grp.h' : Heap := Cflat_grp.c.h'
noncomputable def Cflat_grp.tk'0 : Nat := Cflat_grp.c.tk'
noncomputable def Cflat_grp.o1 : Obj := Cflat_grp.c.o1
noncomputable def Cflat_grp.o2 : Obj := Cflat_grp.c.o2
open Cflat_grp in
theorem Cflat_grp.core : Cflat_grp.pack.1 Cflat_grp.prog Cflat_grp.w Cflat_grp.p Cflat_grp.loose Cflat_grp.mean Cflat_grp.mg Cflat_grp.mb Cflat_grp.dp Cflat_grp.un Cflat_grp.gd Cflat_grp.cn Cflat_grp.cs Cflat_grp.a Cflat_grp.ccd Cflat_grp.cl Cflat_grp.outer Cflat_grp.A₀ Cflat_grp.base Cflat_grp.h₀ Cflat_grp.L Cflat_grp.m' Cflat_grp.news Cflat_grp.s Cflat_grp.pa Cflat_grp.x0 Cflat_grp.y0 Cflat_grp.tx Cflat_grp.ty Cflat_grp.n0 Cflat_grp.Q Cflat_grp.E Cflat_grp.g' Cflat_grp.L' Cflat_grp.h' Cflat_grp.tk'0 Cflat_grp.o1 Cflat_grp.o2 := by
  dsimp only [Cflat_grp.pack]
  intro tabs nw x dx y dy u es k tk t1 t2 t3 t4 t5 lv ov l inner n m hx hdx hy hdy ho hu hz hlv ih ihy kind tk' ok B F X N T hk hdp hun hsub ret FG' F' N' B' X' T'
  (try dsimp only); (try k_fold)
  have hx' := hsub _ hx
  have hy' := hsub _ hy
  have hdy' := hsub _ hdy
  have hu' := hsub _ hu
  have hdx' := hsub _ hdx
  simp only [joinD] at hdx'
  obtain ⟨oa, rfl⟩ := ho.ref
  have hfl := flat_len l kind
  have mo9 : MemOn := ⟨⟩
  cases inner with
  | none =>
    replace ihy : ∀ (tk : Tok), ReadC prog w p loose mean mg mb (850 - 1) 680 [.ref y, .str (Str.ofString "cross") tk] nw (FlatR w.params tabs [⟨4, Str.ofString "cross", none, []⟩, ⟨5, Str.ofString "inner", none, []⟩]) := ihy
    k_with "call ref" => ((with_reducible show wpAny _ _ (call (Value.ref 680) [_, _]) _ _ _); k_dflt (refine' ReadC.use ?C ?B ?F ?X ?N ?T ?K ?D ?U ?S ?Z ?_; (case C => first | exact ihy _ | exact ih _ _ (by with_reducible assumption)); walk_at "m_read"); first
      | ((refine Exists.elim (flat_two q9) ?_); clear q9; intro l8 q9; (refine Exists.elim q9 ?_); clear q9; intro v8 q9; (refine Exists.elim q9 ?_); clear q9; intro w8 q9; (refine Exists.elim q9 ?_); clear q9; intro c8 q9; obtain ⟨e8, i8, r7, q9⟩ := q9; subst e8; (obtain ⟨t8, b8, o8, u8, k8, n8, e8, m8, tb8, on8, us8, ok8⟩ := row_any q9); subst e8; first | (have e7 := on_none on8; subst e7; (try k_fold)) | ((refine Exists.elim (on_ref on8) ?_); intro a7 e7; subst e7; (try k_fold)))
      | ((refine Exists.elim (flat_any q9) ?_); clear q9; intro l9 q9; (refine Exists.elim q9 ?_); clear q9; intro w9 q9; (refine Exists.elim q9 ?_); clear q9; intro c9 q9; obtain ⟨e9, i9, j9⟩ := q9; subst e9; have n9 := j9.length; (try dsimp only); (try k_fold)))
    k_steps
    exact ret _ _ _ _ (by k_asm) (fin_read (by k_asm) (by walk_at "m_splitR")) (by walk_at "m_far") (flatR_mk (by k_mem) (by rw [List.append_assoc]; exact RowsAt.append (j9.mono (by walk_at "m_sub")) (.cons (RowAt.mono r7 (by walk_at "m_sub")) (.cons (row_mk (by k_mem) (tb8.mono (by walk_at "m_sub")) (ho.mono (by walk_at "m_sub")) (us8.mono (by walk_at "m_sub")) ok8) .nil))))
  | some v =>
    replace ihy : ∀ (tk : Tok), ReadC prog w p loose mean mg mb (850 - 1) 680 [.ref y, .str (Str.ofString "cross") tk] nw (FlatR w.params tabs [⟨4, Str.ofString "cross", none, []⟩, ⟨5, Str.ofString "inner", some (.lit v), []⟩]) := ihy
    k_with "call ref" => ((with_reducible show wpAny _ _ (call (Value.ref 680) [_, _]) _ _ _); k_dflt (refine' ReadC.use ?C ?B ?F ?X ?N ?T ?K ?D ?U ?S ?Z ?_; (case C => first | exact ihy _ | exact ih _ _ (by with_reducible assumption)); walk_at "m_read"); first
      | ((refine Exists.elim (flat_two q9) ?_); clear q9; intro l8 q9; (refine Exists.elim q9 ?_); clear q9; intro v8 q9; (refine Exists.elim q9 ?_); clear q9; intro w8 q9; (refine Exists.elim q9 ?_); clear q9; intro c8 q9; obtain ⟨e8, i8, r7, q9⟩ := q9; subst e8; (obtain ⟨t8, b8, o8, u8, k8, n8, e8, m8, tb8, on8, us8, ok8⟩ := row_any q9); subst e8; first | (have e7 := on_none on8; subst e7; (try k_fold)) | ((refine Exists.elim (on_ref on8) ?_); intro a7 e7; subst e7; (try k_fold)))
      | ((refine Exists.elim (flat_any q9) ?_); clear q9; intro l9 q9; (refine Exists.elim q9 ?_); clear q9; intro w9 q9; (refine Exists.elim q9 ?_); clear q9; intro c9 q9; obtain ⟨e9, i9, j9⟩ := q9; subst e9; have n9 := j9.length; (try dsimp only); (try k_fold)))
    k_steps
    exact ret _ _ _ _ (by k_asm) (fin_read (by k_asm) (by walk_at "m_splitR")) (by walk_at "m_far") (flatR_mk (by k_mem) (by rw [List.append_assoc]; exact RowsAt.append (j9.mono (by walk_at "m_sub")) (.cons (RowAt.mono r7 (by walk_at "m_sub")) (.cons (row_mk (by k_mem) (tb8.mono (by walk_at "m_sub")) (show OnAt _ _ _ (some (.bin (Str.ofString "and") (.lit v) (.lit 9))) from ExprAt.bin (by k_mem) (by k_mem) (by decide +kernel) ((on_some on8).mono (by walk_at "m_sub")) (ho.mono (by walk_at "m_sub"))) (us8.mono (by walk_at "m_sub")) ok8) .nil))))
theorem flat_grp {prog : Program} {w : World} {p : Program} {loose : List Str} {mean : ExcName → Option Value} {mg mb : Str → Option Value} {tabs : List Addr} {nw : Lst} {x dx y dy u : Addr} {es : List DictEntry} {k : Nat} {tk t1 t2 t3 t4 t5 : Tok} {lv ov : Value} {l : JT} {inner : Option Int} {n m : Nat} (hx : (x, instObj 562 dx) ∈ nw) (hdx : (dx, joinD w.params t1 t2 t3 t4 t5 (.str (Str.ofString "cross") tk) lv (.ref y) ov (.ref u) n) ∈ nw) (hy : (y, instObj 562 dy) ∈ nw) (hdy : (dy, dictOf es k) ∈ nw) (ho : ExprAt w.params nw ov (.lit 9)) (hu : (u, listOf #[] m) ∈ nw) (hz : jsize l ≤ 100) (hlv : handedIn lv = true) (ih : ∀ (kind : Str) (tk : Tok), PyData.strOk kind = true → ReadC prog w p loose mean mg mb (850 - jsize l) 680 [lv, .str kind tk] nw (FlatR w.params tabs (flat l kind))) (ihy : ∀ (tk : Tok), ReadC prog w p loose mean mg mb (850 - 1) 680 [.ref y, .str (Str.ofString "cross") tk] nw (FlatR w.params tabs [⟨4, Str.ofString "cross", none, []⟩, ⟨5, Str.ofString "inner", inner.map .lit, []⟩])) (kind : Str) (tk' : Tok) (ok : PyData.strOk kind = true) : ReadC prog w p loose mean mg mb (850 - (jsize l + 3)) 680 [.ref x, .str kind tk'] nw (FlatR w.params tabs (flat (.grp l inner) kind)) := Cflat_grp.pack.2 (of_bad (by with_unfolding_all exact Cflat_grp.core)) prog w p loose mean mg mb tabs nw x dx y dy u es k tk t1 t2 t3 t4 t5 lv ov l inner n m hx hdx hy hdy ho hu hz hlv ih ihy kind tk' ok
section
variable {prog : Program} {w : World} {p : Program} {loose : List Str} {mean : ExcName → Option Value} {mg mb : Str → Option Value}
theorem flat_ok {tabs : List Addr} : ∀ (t : JT), jsize t ≤ 100 → ∀ {nw : Lst} {v : Value}, JoinT w.params tabs nw v t → ∀ (kind : Str) (tk : Tok), PyData.strOk kind = true → ReadC prog w p loose mean mg mb (850 - jsize t) 680 [v, .str kind tk] nw (FlatR w.params tabs (flat t kind)) := by
  intro t
  induction t with
  | tab i =>
    intro _ nw v h kind tk ok
    cases h with
    | tab a => exact flat_tab a kind tk ok
  | step kd l i on us ih =>
    intro hz nw v h kind tk ok
    simp only [jsize] at hz
    cases h with
    | step a b c d e f g => exact flat_step a b c e f g (by omega) d.handed (ih (by omega) d) kind tk ok
  | grp l inner ih =>
    intro hz nw v h kind tk ok
    simp only [jsize] at hz
    cases h with
    | grp a b c d e f g hh =>
      refine flat_grp a b d e g hh (by omega) c.handed (ih (by omega) c) ?_ kind tk ok
      intro tk
      cases f with
      | step a1 b1 c1 d1 e1 f1 g1 =>
        cases d1 with
        | tab t1 => exact flat_step (l := .tab 4) a1 b1 c1 e1 f1 g1 (by decide) (JoinT.handed (P := w.params) (.tab t1)) (fun kind tk ok => flat_tab t1 kind tk ok) (Str.ofString "cross") tk (by decide +kernel)
end

/-! _law_joins_right -/
theorem jEnd_two {h₀ : Heap} {L : Addr} {m : Str → Option Value} {s₁ : Shared} {hs : List Addr} {its : Lst} {C D : Addr} {oC oD : Obj} {keep nw : Lst} {rest : Lst → Prop} {h' : Heap} {tk : Nat} {q1 q2 : Addr × Obj} (nw2 : Addr × Obj → Addr × Obj → Lst) (F : Fr h₀ L h' m) (N : News h₀ L h' (q1 :: q2 :: (C, oC) :: (D, oD) :: (its ++ nw)))
    (f : Far [q1, q2] ((C, oC) :: (D, oD) :: (its ++ nw))) (hmap : its.map (·.1) = hs) (off : ∀ p ∈ nw, p.1 ∉ hs ∧ p.1 ≠ C ∧ p.1 ≠ D) (h2 : ∀ p ∈ nw2 q1 q2, p ∈ q1 :: q2 :: nw) (hk : ∀ p ∈ keep, p ∈ nw2 q1 q2) (r : rest (nw2 q1 q2)) :
    JEnd h₀ L m s₁ hs ((C, oC) :: (D, oD) :: its) C D keep rest { s₁ with heap := h', toks := tk } := by
  have otl := off_tl f (.head _) (.tail _ (.head _)) (fun p hp => .tail _ (.tail _ (List.mem_append_left _ hp))) hmap
  refine jEnd_of F N ?_ ?_ hk r
  · intro p hp
    have := h2 p
    simp only [List.mem_cons, List.mem_append, List.cons_append] at hp this ⊢
    rcases hp with hp | hp | hp | hp
    · exact .inr (.inr (.inl hp))
    · exact .inr (.inr (.inr (.inl hp)))
    · exact .inr (.inr (.inr (.inr (.inl hp))))
    · rcases this hp with h | h | h
      · exact .inl h
      · exact .inr (.inl h)
      · exact .inr (.inr (.inr (.inr (.inr h))))
  · intro p hp
    rcases List.mem_cons.mp (h2 p hp) with rfl | hp
    · exact otl _ (.head _)
    · rcases List.mem_cons.mp hp with rfl | hp
      · exact otl _ (.tail _ (.head _))
      · exact off p hp
def TabsAt (nw : Lst) (vs : List Value) (tabs : List Addr) : Prop := vs = tabs.map Value.ref ∧ tabs.Nodup ∧ ∀ b ∈ tabs, ∃ d es n, (b, instObj 536 d) ∈ nw ∧ (d, dictOf es n) ∈ nw
theorem tabs_snoc {nw nw' : Lst} {vs : List Value} {tabs : List Addr} {b d : Addr} {es : List DictEntry} {n : Nat} (h : TabsAt nw vs tabs) (hs : ∀ p ∈ nw, p ∈ nw') (h1 : (b, instObj 536 d) ∈ nw') (h2 : (d, dictOf es n) ∈ nw') (hf : ∀ q ∈ nw, q.1 ≠ b) : TabsAt nw' (vs ++ [.ref b]) (tabs ++ [b]) := by
  obtain ⟨rfl, hn, hb⟩ := h
  refine ⟨by simp, ?_, fun c hc => ?_⟩
  · refine List.nodup_append.mpr ⟨hn, by simp, fun a ha c hc => ?_⟩
    obtain ⟨d', es', n', m1, _⟩ := hb a ha
    rw [List.mem_singleton.mp hc]
    exact hf _ m1
  · rcases List.mem_append.mp hc with hc | hc
    · obtain ⟨d', es', n', m1, m2⟩ := hb c hc
      exact ⟨d', es', n', hs _ m1, hs _ m2⟩
    · rw [List.mem_singleton.mp hc]
      exact ⟨d, es, n, h1, h2⟩
def onD : Option Ex → Dat
  | some (.lit k) => .int k
  | some (.bin _ (.lit a) (.lit b)) => .list [.int a, .int b]
  | _ => .none
def rowDat (r : Row) : Dat := .tuple [.int (r.i : Int), .str r.kind, onD r.on, .list (r.us.map Dat.str)]
theorem row0 {nw : Lst} {t a : Addr} {n n' : Nat} {t1 t2 : Tok} (h : (t, ({ cls := .type "tuple", data := .seq #[.int 0 t1, .str (Str.ofString "inner") t2, .none, .ref a] n } : Obj)) ∈ nw) (h2 : (a, listOf #[] n') ∈ nw) : DatAll nw [.ref t] ((flat (.tab 0) (Str.ofString "inner")).map rowDat) :=
  .cons (.tuple h (.cons (.int _ _) (.cons (.str _ _) (.cons .none (.cons (.list h2 .nil) .nil))))) .nil
theorem row_dat {nw : Lst} {t : Addr} {k : Int} {i n : Nat} {tk kt : Tok} {kd : Str} {on : Option Ex} {us : List Str} {ov uv : Value} (hk : ((i : Nat) : Int) = k) (h : (t, ({ cls := .type "tuple", data := .seq #[.int k tk, .str kd kt, ov, uv] n } : Obj)) ∈ nw) (ho : DatIn nw ov (onD on)) (hu : DatIn nw uv (.list (us.map Dat.str))) : DatIn nw (.ref t) (rowDat ⟨i, kd, on, us⟩) := by
  subst hk
  exact .tuple (vs := [_, _, _, _]) h (.cons (.int _ _) (.cons (.str _ _) (.cons ho (.cons hu .nil))))
theorem step_dat {nw nw' : Lst} {vs : List Value} {t : JT} {kd : Str} {i : Nat} {on : Option Int} {us : List Str} {v : Value} (h : DatAll nw vs ((flat t (Str.ofString "inner")).map rowDat)) (hs : ∀ p ∈ nw, p ∈ nw') (h2 : DatIn nw' v (rowDat ⟨i, kd, on.map .lit, us⟩)) : DatAll nw' (vs ++ [v]) ((flat (.step kd t i on us) (Str.ofString "inner")).map rowDat) := by
  rw [flat, List.map_append]
  exact (h.mono hs).append (.one h2)
theorem canonJ {a b c d x : Str} {m' base : Str → Option Value} {v : Option Value} (hv : m' x = v) (h : ∀ z, z ≠ a → z ≠ b → z ≠ c → z ≠ d → z ≠ x → m' z = base z) : m' = fun z => if z = a then m' z else if z = b then m' z else if z = c then m' z else if z = d then m' z else if z = x then v else base z := by
  funext z
  by_cases e1 : z = a
  · simp [e1]
  by_cases e2 : z = b
  · simp [e2]
  by_cases e3 : z = c
  · simp [e3]
  by_cases e4 : z = d
  · simp [e4]
  by_cases e5 : z = x
  · rw [if_neg e1, if_neg e2, if_neg e3, if_neg e4, if_pos e5, ← hv, e5]
  rw [if_neg e1, if_neg e2, if_neg e3, if_neg e4, if_neg e5, h z e1 e2 e3 e4 e5]
theorem canonG {a b c d e x y : Str} {m' base : Str → Option Value} {v w : Option Value} (hv : m' x = v) (hw : m' y = w) (h : ∀ z, z ≠ a → z ≠ b → z ≠ c → z ≠ d → z ≠ e → z ≠ x → z ≠ y → m' z = base z) : m' = fun z => if z = a then m' z else if z = b then m' z else if z = c then m' z else if z = d then m' z else if z = e then m' z else if z = x then v else if z = y then w else base z := by
  funext z
  by_cases e1 : z = a
  · simp [e1]
  by_cases e2 : z = b
  · simp [e2]
  by_cases e3 : z = c
  · simp [e3]
  by_cases e4 : z = d
  · simp [e4]
  by_cases e5 : z = e
  · simp [e5]
  by_cases e6 : z = x
  · rw [if_neg e1, if_neg e2, if_neg e3, if_neg e4, if_neg e5, if_pos e6, ← hv, e6]
  by_cases e7 : z = y
  · rw [if_neg e1, if_neg e2, if_neg e3, if_neg e4, if_neg e5, if_neg e6, if_pos e7, ← hw, e7]
  rw [if_neg e1, if_neg e2, if_neg e3, if_neg e4, if_neg e5, if_neg e6, if_neg e7, h z e1 e2 e3 e4 e5 e6 e7]
theorem nd_ne : Str.ofString "node" ≠ Str.ofString "due" := by decide +kernel
theorem grp_dat {nw nw' : Lst} {vs : List Value} {t : JT} {inner : Option Int} {v1 v2 : Value} (h : DatAll nw vs ((flat t (Str.ofString "inner")).map rowDat)) (hs : ∀ p ∈ nw, p ∈ nw') (h1 : DatIn nw' v1 (rowDat ⟨4, Str.ofString "cross", none, []⟩)) (h2 : DatIn nw' v2 (rowDat ⟨5, Str.ofString "inner", some (grpOn inner), []⟩)) : DatAll nw' (vs ++ [v1, v2]) ((flat (.grp t inner) (Str.ofString "inner")).map rowDat) := by
  rw [flat, List.map_append]
  exact (h.mono hs).append (.cons h1 (.cons h2 .nil))
section
variable {prog : Program} {w : World} {p : Program} {loose : List Str} {mean : ExcName → Option Value} {mg mb : Str → Option Value}
theorem flat_none (tk : Tok) : ReadC prog w p loose mean mg mb 850 680 [.none, .str (Str.ofString "inner") tk] [] (fun nw r => ∃ a n, r = .ref a ∧ (a, listOf #[] n) ∈ nw) := by
  unfold ReadC
  intro dp un gd cn cs a ccd cl outer A₀ base h₀ L m news s Q E B F X N T hk hdp hun hsub ret
  refine wpAny_call ?_
  k_dflt (refine' enter [(Str.ofString "node", .none), (Str.ofString "kind", .str (Str.ofString "inner") tk)] ?k1 ?k2 ?k3 ?k4 ?k5 ?kA ?kF ?kK ?k6 ?k7 ?k8 ?k9 ?kB ?_ ?c2 ?c3 ?c4 ?c5; walk_at "m_enter")
  k_steps
  exact ret _ _ _ _ (by k_asm) (fin_read (by k_asm) (by walk_at "m_splitR")) (by walk_at "m_far") ⟨_, _, rfl, by k_mem⟩
end
theorem rows_get {P : Params} {tabs : List Addr} {nw : Lst} {vs : List Value} {rs : List Row} (h : RowsAt P tabs nw vs rs) : ∀ {i : Nat} {v : Value}, vs[i]? = some v → ∃ r, rs[i]? = some r ∧ RowAt P tabs nw v r := by
  induction h with
  | nil => intro i v e; simp at e
  | @cons u us r rs a _ ih =>
    intro i v h
    cases i with
    | zero => exact ⟨r, rfl, by simpa using (Option.some.inj h) ▸ a⟩
    | succ i => exact ih h
def OnOk (on : Option Ex) : Prop := on = none ∨ (∃ k, on = some (.lit k)) ∨ ∃ a b, on = some (.bin (Str.ofString "and") (.lit a) (.lit b))
theorem flat_on : ∀ (t : JT) (k : Str), ∀ r ∈ flat t k, OnOk r.on
  | .tab i, k, r, h => by
    simp only [flat, List.mem_singleton] at h
    subst h
    exact .inl rfl
  | .step kd l i on us, k, r, h => by
    rw [flat] at h
    rcases List.mem_append.mp h with h | h
    · exact flat_on l k r h
    · rw [List.mem_singleton] at h
      subst h
      cases on with
      | none => exact .inl rfl
      | some v => exact .inr (.inl ⟨v, rfl⟩)
  | .grp l inner, k, r, h => by
    rw [flat] at h
    rcases List.mem_append.mp h with h | h
    · exact flat_on l k r h
    · rcases List.mem_cons.mp h with rfl | h
      · exact .inl rfl
      · rw [List.mem_singleton] at h
        subst h
        cases inner with
        | none => exact .inr (.inl ⟨9, rfl⟩)
        | some v => exact .inr (.inr ⟨v, 9, rfl⟩)
theorem rowDat_ok {r : Row} (h : OnOk r.on) (hk : PyData.strOk r.kind = true) (hu : ∀ s ∈ r.us, PyData.strOk s = true) : kqdOk 7 (rowDat r) = true := by
  obtain ⟨i, kd, on, us⟩ := r
  have hl : (us.map Dat.str).all (kqdOk 5) = true := by
    rw [List.all_eq_true]
    intro d hd
    obtain ⟨s, hs, rfl⟩ := List.mem_map.mp hd
    exact hu s hs
  rcases h with h | ⟨k, h⟩ | ⟨a, b, h⟩ <;> (simp only at h; subst h; simp only [rowDat, onD, kqdOk, List.all_cons, List.all_nil, Bool.and_true, Bool.true_and]; simp only [hl, Bool.and_true]; exact hk)
theorem rows_ok {P : Params} {tabs : List Addr} {nw : Lst} {vs : List Value} {rs : List Row} (h : RowsAt P tabs nw vs rs) (ho : ∀ r ∈ rs, OnOk r.on) : kqdOk 8 (.list (rs.map rowDat)) = true := by
  have go : ∀ d ∈ rs.map rowDat, kqdOk 7 d = true := by
    induction h with
    | nil => intro d hd; cases hd
    | cons a _ ih =>
      intro d hd
      rcases List.mem_cons.mp hd with rfl | hd
      · obtain ⟨t, bv, ov, uv, kt, n, _, _, _, _, ⟨_, _, _, _, _, _, _, h7⟩, h6⟩ := a
        exact rowDat_ok (ho _ (.head _)) h6 h7
      · exact ih (fun r hr => ho r (.tail _ hr)) d hd
  simp only [kqdOk]
  exact List.all_eq_true.mpr go
inductive RowO (P : Params) (tabs : List Addr) (nw : Lst) (v : Value) (r : Row) : Prop
  | mk (t b u : Addr) (ov : Value) (kt : Tok) (us' : List Value) (n n' : Nat) : v = .ref t → (t, ({ cls := .type "tuple", data := .seq #[.ref b, .str r.kind kt, ov, .ref u] n } : Obj)) ∈ nw → tabs[r.i]? = some b → OnAt P nw ov r.on → (u, listOf us'.toArray n') ∈ nw → DatAll nw us' (r.us.map Dat.str) → RowO P tabs nw v r
theorem row_open {P : Params} {tabs : List Addr} {nw : Lst} {v : Value} {r : Row} (h : RowAt P tabs nw v r) : RowO P tabs nw v r := by
  obtain ⟨t, bv, ov, uv, kt, n, rfl, h2, ⟨b, d, es, n4, rfl, h3, _, _⟩, h4, ⟨u, us', n', rfl, h5, h6, _, _⟩, _⟩ := h
  exact ⟨t, b, u, ov, kt, us', n, n', rfl, h2, h3, h4, h5, h6⟩
theorem dat_same {prog : Program} {w : World} {A : Around} {E : Value → Shared → Prop} {s : Shared} {h₀ : Heap} {L a b : Addr} {news n₁ n₂ : Lst} {vs ws : List Value} {n k : Nat} {ds : List Dat} {Q : Value → Shared → Prop} (N : News h₀ L s.heap news) (ma : (a, listOf vs.toArray n) ∈ news) (mb : (b, listOf ws.toArray k) ∈ news) (D1 : DatAll n₁ vs ds) (D2 : DatAll n₂ ws ds) (s1 : ∀ p ∈ n₁, p ∈ news) (s2 : ∀ p ∈ n₂, p ∈ news)
    (ok : kqdOk 8 (.list ds) = true) (hu : A.units + 64 < cLine) (h : Q (.bool true) s) : wpAny (model prog w) A (compareOp .Eq (.ref a) (.ref b)) Q E s := by
  refine dat_eq N (DatIn.list ma (D1.mono s1)) (fun _ h => h) (DatIn.list mb (D2.mono s2)) (fun _ h => h) ok ok hu ?_
  simpa using h
theorem append_m {prog : Program} {w : World} {A : Around} {E : Value → Shared → Prop} {s : Shared} {h₀ : Heap} {L l : Addr} {m : Str → Option Value} {led rest : Lst} {vs : List Value} {n : Nat} {v : Value} {Q : Value → Shared → Prop} (F : Fr h₀ L s.heap m) (N : News h₀ L s.heap led) (P : Pull l (listOf vs.toArray n) led rest) (a : ∀ q ∈ rest, q.1 ≠ l) (hz : vs.length ≤ 1000)
    (h : ∀ h', Fr h₀ L h' m → News h₀ L h' ((l, listOf (vs ++ [v]).toArray (n + 1)) :: rest) → Q .none { s with heap := h' }) : wpAny (model prog w) A (call (.builtin "list.append") [.ref l, v]) Q E s := by
  have z := N _ (P.sub _ (.head _))
  refine append_at (hsz := by rw [List.size_toArray, sizeLine_eq]; omega) z.1 fun h' hs hD => ?_
  refine h h' (F.change hs z.2.1 z.2.2) fun q hq => ?_
  rcases List.mem_cons.mp hq with rfl | hq
  · exact ⟨hD.trans (by rw [List.push_toArray]), z.2⟩
  · have y := N q (P.sub _ (.tail _ hq))
    exact ⟨hs.extBut _ _ (a q hq) y.1, y.2⟩
theorem six (l : List Addr) (h : l.length = 6) : ∃ b0 b1 b2 b3 b4 b5, l = [b0, b1, b2, b3, b4, b5] := by
  match l, h with
  | [a, b, c, d, e, f], _ => exact ⟨a, b, c, d, e, f, rfl⟩
section
open PySem.SeqAt PySem.Builtin
variable {prog : Program} {w : World} {A : Around} {E : Value → Shared → Prop} {s : Shared} {K : Frag} {x y C : Addr} {ox oy : Obj}
theorem in_type {M : Model} (hx : s.heap.get? x = some ox) (cx : ox.cls = .ref C) : Looks M s.heap (typeOf (.ref x)) (.ref C) := by
  intro A Q E s' k q
  show wpAny _ _ (loadPart _ _ >>= _) _ _ _
  exact wpAny_bind (wpAny_loadPart_at (k _ _ hx) (wpAny_pure (by rw [cx]; exact q)))
theorem right_same {M : Model} {α : Type} {k : Bool → Sem α} {Q : α → Shared → Prop} (hq : wpAny M A (k false) Q E s) :
    wpAny M A (if Value.ref C != Value.ref C then isSubtype (.ref C) (.ref C) >>= k else pure false >>= k) Q E s := by
  rw [if_neg (by simp)]
  exact wpAny_bind (wpAny_pure hq)
theorem rc_insts (X : K.In s.heap) (hx : s.heap.get? x = some ox) (cx : ox.cls = .ref C) (hy : s.heap.get? y = some oy) (cy : oy.cls = .ref C) (hxy : x ≠ y)
    (hf : findIn K (.ref C) "__eq__" = some (some (.builtin "object.__eq__"))) (hs : subIn K (.ref C) (.type "object") = some true) (hu : A.units < cLine) : RcAt A s (.ref x) (.ref y) false := by
  intro prog w E Q hq
  have nt : ox.cls ≠ .type "tuple" := by rw [cx]; intro e; cases e
  have nt' : oy.cls ≠ .type "tuple" := by rw [cy]; intro e; cases e
  have tc : ∀ {a b : Addr} {oa ob : Obj} {Q : Option Value → Shared → Prop}, s.heap.get? a = some oa → oa.cls = .ref C → s.heap.get? b = some ob → a ≠ b → Q none s → wpAny (model prog w) A (tryCompare (.ref a) "__eq__" (.ref b)) Q E s := by
    intro a b oa ob Q ha ca hb hab hq
    have nt : oa.cls ≠ .type "tuple" := by rw [ca]; intro e; cases e
    simp only [tryCompare]
    refine wpAny_bind ?_
    simp only [callSpecialIfBound?, bindSpecialIfBound?]
    refine wpAny_holding (wpAny_bind (wpAny_bind ?_))
    refine wpAny_bind ((in_type ha ca).here ((looks_findIn X hf).here ?_))
    simp only [PySem.F.cmp_object.eq.bind]
    have hc : ∀ Q : Value → Shared → Prop, Q .notImplemented s → wpAny (model prog w) A (call (.builtin "object.__eq__") ([.ref a] ++ [.ref b])) Q E s := fun Q hq =>
      wpAny_call (codeAny_call_builtin PySem.F.cmp_object.eq.plain F.cmpEntry_eq (check_slot F.cmpKind_eq F.cmpSplit_eq ((in_type ha ca).andThen (looks_subIn X hs)) (F.cmpArgs_eq _ _) (objEq_entry_other hab ha hb nt hq)))
    have fin : ∀ Q' : Option Value → Shared → Prop, Q' (some .notImplemented) s → wpAny (model prog w) A (call (.builtin "object.__eq__") ([.ref a] ++ [.ref b]) >>= fun v => pure (some v)) Q' E s := fun Q' hq' =>
      wpAny_bind (hc _ (wpAny_pure hq'))
    refine wpAny_bind (wpAny_askSetting (wpAny_ite ?_))
    split
    · exact wpAny_bind (wpAny_pure (wpAny_pure (fin _ (wpAny_pure hq))))
    · exact wpAny_tryCatch (wpAny_bind (wpAny_pure (wpAny_pure (fin _ (wpAny_pure hq)))))
  simp only [richCompare, cmpInfo_Eq, oneThing_ref]
  repeat (first | with_reducible refine wpAny_cRoomFor hu ?_ | (with_reducible refine wpAny_loadPart_at hx ?_; rw [cx]) | (with_reducible refine wpAny_loadPart_at hy ?_; rw [cy]) | with_reducible refine right_same ?_ | with_reducible refine tc hx cx hy hxy ?_ | with_reducible refine tc hy cy hx hxy.symm ?_ | with_reducible refine wpAny_isSame_ref_other hxy hx hy nt ?_ | wp_step)
  exact hq

theorem idx_insts {h₀ : Heap} {L D b : Addr} {m : Str → Option Value} {news : List (Addr × Obj)} {bs : List Addr} {n j : Nat} {Q : Value → Shared → Prop} (F : Fr h₀ L s.heap m) (N : News h₀ L s.heap news) (X : K.In h₀) (hm : (D, listOf (bs.map Value.ref).toArray n) ∈ news) (hb : ∀ b ∈ bs, ∃ d, (b, instObj C d) ∈ news) (hnd : bs.Nodup) (hj : bs[j]? = some b) (hz : bs.length ≤ 100)
    (hf : findIn K (.ref C) "__eq__" = some (some (.builtin "object.__eq__"))) (hs : subIn K (.ref C) (.type "object") = some true) (hu : A.units + 64 < cLine) (h : Q (.int j s.toks) { s with toks := s.toks + 1 }) : wpAny (model prog w) A (call (.builtin "list.index") [.ref D, .ref b]) Q E s := by
  have hjl : j < bs.length := (List.getElem?_eq_some_iff.mp hj).1
  have hjb : bs[j] = b := (List.getElem?_eq_some_iff.mp hj).2
  have hd := (N _ hm).1
  refine call_meets PySem.F.slot_list_index ⟨_, hd, rfl⟩ PySem.F.entry_list_index (PySem.F.args_list_index_2 _ _)
    (list_indexAt D (bs.map Value.ref).toArray n _ _ (.ref b) (fun v => v == .ref b) j (by simpa using hjl) (by omega) (by simp [hjb]) ?_) ⟨hd, ?_, h⟩
  · intro i hi hij
    have hi' : i < bs.length := by simpa using hi
    have : bs[i] ≠ b := by
      rw [← hjb]
      exact fun e => absurd ((List.getElem_inj hnd).mp e) (Nat.ne_of_lt hij)
    simpa using this
  · intro v hv
    have hv' : v ∈ bs.map Value.ref := by simpa using hv
    obtain ⟨c, hc, rfl⟩ := List.mem_map.mp hv'
    by_cases hcb : c = b
    · subst hcb
      have e : (Value.ref c == Value.ref c) = true := by simp
      rw [e]
      exact EqAt.same _
    · have e : (Value.ref c == Value.ref b) = false := by simpa using hcb
      rw [e]
      obtain ⟨d1, m1⟩ := hb c hc
      obtain ⟨d2, m2⟩ := hb b (List.mem_of_getElem? hj)
      exact EqAt.of_refs hcb (rc_insts (X.keeps F.keep) (N _ m1).1 rfl (N _ m2).1 rfl hcb hf hs (Nat.lt_of_le_of_lt (by show A.units + 1 ≤ A.units + 64; omega) hu))
end

theorem rl_loop {prog : Program} {w : World} {A : Around} {E : Value → Shared → Prop} {s : Shared} {env : Env} {h₀ : Heap} {target : PySem.Expr} {body : List Stmt} {Q : Flow → Shared → Prop} {I ax : Addr} {lo : Obj} {vs : List Value} {m₀ : Str → Option Value} {news₀ : Lst} (J : Nat → (Str → Option Value) → Lst → Prop) (hJ : J 0 m₀ news₀)
    (stop : ∀ m nw, J vs.length m nw → ∀ h tk, Fr h₀ env.locals h m → News h₀ env.locals h nw → Q .next { s with heap := h, toks := tk })
    (turn : ∀ (i : Nat) v m nw, vs[i]? = some v → J i m nw → ∀ (it : Obj) h tk, it.cls = .type "list_iterator" → Fr h₀ env.locals h m → News h₀ env.locals h ((I, it) :: nw) →
      wpAny (model prog w) A (assign target env v) (fun _ s₂ => wpAny (model prog w) A (execs body env) (UnrPostW h₀ env.locals { s with heap := h, toks := tk } [(I, it)] (fun m' n' => (ax, lo) ∈ n' ∧ J (i + 1) m' n') Q) E s₂) E { s with heap := h, toks := tk }) :
    ItemsRest prog w A E h₀ env target body Q s [(I, "list_iterator")] [(ax, lo)] (vs.map .val) m₀ news₀ := by
  have go : ∀ (k i : Nat) m nw, k + i = vs.length → J i m nw → ItemsRest prog w A E h₀ env target body Q s [(I, "list_iterator")] [(ax, lo)] ((vs.drop i).map .val) m nw := by
    intro k
    induction k with
    | zero =>
      intro i m nw hk hj
      have : i = vs.length := by omega
      subst this
      rw [List.drop_length]
      exact ItemsRest.zero (stop m nw hj)
    | succ k ih =>
      intro i m nw hk hj
      have hlt : i < vs.length := by omega
      rw [List.drop_eq_getElem_cons hlt, List.map_cons]
      refine ItemsRest.val fun h tk F => AllObj.cons fun it hit => AllObj.nil fun N => ?_
      refine wpAny_mono (turn i _ m nw (List.getElem?_eq_getElem hlt) hj it h tk hit F N) (fun _ s₂ q => ?_) fun _ _ e => e
      refine wpAny_mono q (fun f s₂ q => ?_) fun _ _ e => e
      cases f with
      | ret v => exact q
      | brk => exact q
      | next => obtain ⟨h', tk', m', n', e, F', N', o, hm, r⟩ := q; exact ⟨h', tk', m', n', e, F', N', o, ⟨hm, trivial⟩, ih _ _ _ (by omega) r⟩
      | cont => obtain ⟨h', tk', m', n', e, F', N', o, hm, r⟩ := q; exact ⟨h', tk', m', n', e, F', N', o, ⟨hm, trivial⟩, ih _ _ _ (by omega) r⟩
  exact go vs.length 0 m₀ news₀ rfl hJ
theorem unrW_led {h₀ : Heap} {L I ax : Addr} {it lo : Obj} {rest : (Str → Option Value) → Lst → Prop} {s₁ : Shared} {h' : Heap} {tk : Nat} {m' : Str → Option Value} {nw' : Lst} (F : Fr h₀ L h' m') (N : News h₀ L h' ((I, it) :: nw')) (off : ∀ p ∈ nw', p.1 ≠ I) (hm : (ax, lo) ∈ nw') (r : rest m' nw') : UnrEndW h₀ L s₁ [(I, it)] (fun m' n' => (ax, lo) ∈ n' ∧ rest m' n') { s₁ with heap := h', toks := tk } :=
  ⟨h', tk, m', nw', rfl, F, N, fun p hp q hq => by rw [List.mem_singleton.mp hq]; exact off p hp, hm, r⟩
inductive CondO (P : Params) (nw : Lst) (k : Int) (r : Value) : Prop
  | mk (a ul : Addr) (ov : Value) (us' : List Value) (n n' : Nat) (us : List Str) : r = .ref a → (a, listOf #[ov, .ref ul] n) ∈ nw → (ul, listOf us'.toArray n') ∈ nw → DatAll nw us' (us.map Dat.str) → us.length ≤ 2 → (∀ s ∈ us, PyData.strOk s = true) → (ov = .none ∨ ∃ x, ov = .ref x ∧ ExprAt P nw (.ref x) (.lit k)) → CondO P nw k r
theorem cond_any {P : Params} {nw : Lst} {k : Int} {r : Value} (h : CondAt P nw k r) : CondO P nw k r := by
  obtain ⟨a, ov, uv, n, on, us, rfl, h1, h2, h3, ul, us', n', rfl, h4, h5, h6, h7⟩ := h
  refine ⟨a, ul, ov, us', n, n', us, rfl, h1, h4, h5, h6, h7, ?_⟩
  rcases h2 with rfl | rfl
  · exact .inl h3
  · obtain ⟨x, rfl⟩ := ExprAt.ref h3
    exact .inr ⟨x, rfl, h3⟩
theorem pick_kind {prog : Program} {w : World} {A : Around} {E : Value → Shared → Prop} {s : Shared} {h₀ : Heap} {L : Addr} {led : Lst} {n : Nat} {value slice : PySem.Expr} {l : Addr} {k : Int} {u t0 t1 t2 : Tok} {Q : Value → Shared → Prop} (N : News h₀ L s.heap led) (hm : (l, listOf #[Value.str (Str.ofString "inner") t0, .str (Str.ofString "left") t1, .str (Str.ofString "cross") t2] n) ∈ led) (h0 : 0 ≤ k) (h2 : k < 3)
    (h : ∀ kd t, PyData.strOk kd = true → Q (.str kd t) s) (hs : subscripted slice false (.ref l) (.int k u) = operate [.ref l, .int k u] (getItem (.ref l) (.int k u)) := by with_unfolding_all rfl) :
    wpAny (model prog w) A (subscriptTail value slice (.ref l) (.int k u)) Q E s := by
  have hl : s.heap.IsList l [Value.str (Str.ofString "inner") t0, .str (Str.ofString "left") t1, .str (Str.ofString "cross") t2].toArray := ⟨_, (N _ hm).1, rfl, _, rfl⟩
  rcases (by omega : k = 0 ∨ k = 1 ∨ k = 2) with rfl | rfl | rfl
  · exact item_litK hl (by decide) (by decide) rfl (h _ _ (by decide +kernel)) hs
  · exact item_litK hl (by decide) (by decide) rfl (h _ _ (by decide +kernel)) hs
  · exact item_litK hl (by decide) (by decide) rfl (h _ _ (by decide +kernel)) hs
theorem ib_of {C : Addr} {bs : List Addr} {V led : Lst} (h : ∀ b ∈ bs, ∃ d, (b, instObj C d) ∈ V) (hs : ∀ q ∈ V, q ∈ led) : ∀ b ∈ bs, ∃ d, (b, instObj C d) ∈ led := fun b hb => (h b hb).imp fun _ m => hs _ m
structure KindOn : Prop where
theorem words12_18 : True := by
  k_with "@newList" => (k_here; (rename Halt => halt); k_dflt (refine' newList_K ?k1 ?k2 ?_; (case k1 => k_asm); (case k2 => k_asm)); (first | ((rename KindOn => kd9); intro lk h' F' N' l1) | intro ln h' F' N' l1); (try k_lt l1))
  k_with "@call type:range" => (
      (rename Halt => halt); k_here; (with_reducible show wpAny _ _ (call (Value.type "range") [Value.int _ _, Value.int _ _]) _ _ _)
      k_dflt (refine' range2_rows ?rF ?rN ?_; (case rF => k_asm); (case rN => k_asm)); intro h' tk' t' u' v' R' F' N' K')
  k_with "@call ref" => (
      k_here; (with_reducible show wpAny _ _ (call (Value.ref 737) [Value.ref _, Value.int _ _]) _ _ _);
      k_dflt (refine' PoolC.use (cond_ok _ _) ?B ?F ?X ?N ?P ?A ?T ?K ?O ?D ?U ?S ?Z ?_; walk_at "m_pool");
      (obtain ⟨a8, ul8, ov8, us8, n8, n7, sus8, e8, m8, mu8, du8, lu8, ou8, oo8⟩ := cond_any q9; clear q9; subst e8; simp only [List.append_nil] at m8 mu8 du8 oo8);
      (rcases oo8 with e8 | ⟨x8, e8, ex8⟩) <;> subst e8 <;> (try dsimp only) <;> (try k_fold))
  k_with "@subscriptTail" => (
      k_here; (rename KindOn => kd9); (with_reducible show wpAny _ _ (subscriptTail _ _ (Value.ref _) (Value.int _ _)) _ _ _)
      (with_unfolding_all refine' pick_kind ?kN ?km ?k2 ?k3 ?_ ?k6; (case kN => k_asm); (case km => k_mem); (case k2 => omega); (case k3 => omega); (case k6 => with_unfolding_all rfl))
      intro kd8 kt8 ok8; (try dsimp only))
  k_with "@subscriptTail Name Name ref int" => (
      k_here; (rename KindOn => kd9); (with_reducible show wpAny _ _ (subscriptTail _ _ (Value.ref _) (Value.int _ _)) _ _ _)
      (with_unfolding_all refine' item_memK ?iN ?im ?i0 ?ik ?ix ?_ ?is; (case iN => k_asm); (case ix => with_reducible assumption); (case im => k_mem); (case i0 => omega); (case ik => omega); (case is => with_unfolding_all rfl)); (try dsimp only))
  k_with "@exec For Tuple Call cons nil" => ((rename Halt => halt); k_here; (rename Fr _ _ _ _ => lF'); (with_unfolding_all refine' For_turns lF' ?_; k_whole))
  k_with "@UnrEndW" => ((rename Halt => halt); refine stop_of ?_)
  k_with "@call builtin:list.index" => (
      k_here; (with_reducible show wpAny _ _ (call (Value.builtin _) [Value.ref _, Value.ref _]) _ _ _)
      k_dflt (refine' idx_insts (C := 536) ?iF ?iN ?iX ?im ?ib ?id ?ij ?iz ?ie ?is ?iu ?_; (case iF => k_asm); (case iN => k_asm); (case iX => k_asm); (case ij => with_reducible assumption); (case im => k_mem); (case ib => exact ib_of (by with_reducible assumption) (by walk_at "m_sub")); (case id => with_reducible assumption); (case iz => exact Nat.le_of_ble_eq_true rfl); (case ie => k_is); (case is => k_is); (case iu => first | ke_room | ktr_units)); (try dsimp only))
  k_with "@compareOp Eq ref ref" => (
      (rename KindOn => kd9); k_here; (with_reducible show wpAny _ _ (compareOp CmpOp.Eq (Value.ref _) (Value.ref _)) _ _ _)
      k_dflt (refine' dat_same ?dN ?dA ?dB ?d1 ?d2 ?s1 ?s2 ?dO ?dU ?_; (case dN => k_asm); (case dA => k_mem); (case dB => k_mem); (case d1 => first | with_reducible assumption | exact DatAll.nil); (case d2 => first | with_reducible assumption | exact DatAll.nil); (case s1 => walk_at "m_sub"); (case s2 => walk_at "m_sub"); (case dO => first | with_reducible assumption | rfl); (case dU => first | ke_room | ktr_units)); (try dsimp only))
  k_with "@m_forget" => (repeat (with_reducible rename AllLt _ _ => zz9; clear zz9); repeat (with_reducible rename Far _ _ => zz9; clear zz9); repeat (with_reducible rename IsRange _ _ _ _ _ _ _ _ => zz9; clear zz9); repeat (with_reducible rename News g' L' _ _ => zz9; clear zz9); repeat (with_reducible rename Fr g' L' _ _ => zz9; clear zz9))
  k_with "@call builtin:list.append" => (
      (rename KindOn => kd9); k_here; (with_reducible show wpAny _ _ (call (Value.builtin _) [Value.ref _, _]) _ _ _)
      k_dflt (refine' append_m ?F ?N ?P ?A ?z ?_; (case F => k_asm); (case N => k_asm); (case P => walk_at "m_pull"); (case A => k_all); (case z => first | with_reducible assumption | omega)); intro h' F' N'; (try dsimp only))
  trivial

/-! _law_joins_right -/
/-! what holds between the turns -/
inductive P1J (rest : Lst) (i : Nat) (ys : List Value) (nw : Lst) : Prop
  | mk {Z : Lst} {tabs : List Addr} : nw = Z ++ rest → Far Z rest → ys.length = i → TabsAt Z ys tabs → P1J rest i ys nw
inductive P2J (P : Params) (pa ln I : Addr) (eD : Addr × Obj) (ix : List Addr) (Z news : Lst) (base : Str → Option Value) (i : Nat) (m : Str → Option Value) (nw : Lst) : Prop
  | mk {u : Str → Option Value} {nv : Value} {t : JT} {ds : List Value} {x y : Int} {tx ty : Tok} {n nd : Nat} {V : Lst} : m = (fun z => if z = Str.ofString "on" then u z else if z = Str.ofString "using" then u z else if z = Str.ofString "kind" then u z else if z = Str.ofString "number" then u z else if z = Str.ofString "node" then some nv else base z) →
      PoolOk x y → nw = (pa, src x y tx ty n) :: (ln, listOf ds.toArray nd) :: eD :: (V ++ news) → (∀ q ∈ V, q.1 ≠ pa) → (∀ q ∈ V, q.1 ≠ ln) → (∀ q ∈ V, q.1 ≠ I) → Far V news → (∀ q ∈ Z, q ∈ V) → JoinT P ix V nv t → jsize t = i → DatAll V ds ((flat t (Str.ofString "inner")).map rowDat) → ds.length = i + 1 → P2J P pa ln I eD ix Z news base i m nw
inductive P3J (P : Params) (pa : Addr) (eD : Addr × Obj) (ix : List Addr) (Z news : Lst) (base m : Str → Option Value) (nw : Lst) : Prop
  | mk {u : Str → Option Value} {nv : Value} {t : JT} {ds : List Value} {ld : Addr} {x y : Int} {tx ty : Tok} {n nd : Nat} {V : Lst} : m = (fun z => if z = Str.ofString "on" then u z else if z = Str.ofString "using" then u z else if z = Str.ofString "kind" then u z else if z = Str.ofString "inner" then u z else if z = Str.ofString "number" then u z else if z = Str.ofString "node" then some nv else if z = Str.ofString "due" then some (.ref ld) else base z) →
      PoolOk x y → nw = (pa, src x y tx ty n) :: eD :: (V ++ news) → (∀ q ∈ V, q.1 ≠ pa) → Far V news → (∀ q ∈ Z, q ∈ V) → (ld, listOf ds.toArray nd) ∈ V → JoinT P ix V nv t → jsize t ≤ 5 → DatAll V ds ((flat t (Str.ofString "inner")).map rowDat) → P3J P pa eD ix Z news base m nw
inductive P4J (pa K I : Addr) (eP eD : Addr × Obj) (Z news : Lst) (rows : List Row) (base : Str → Option Value) (i : Nat) (m : Str → Option Value) (nw : Lst) : Prop
  | mk {u : Str → Option Value} {ts : List Value} {nt : Nat} {V : Lst} : m = (fun z => if z = Str.ofString "one" then u z else if z = Str.ofString "kind" then u z else if z = Str.ofString "on" then u z else if z = Str.ofString "using" then u z else base z) →
      nw = (K, listOf ts.toArray nt) :: eP :: eD :: (V ++ news) → (∀ q ∈ V, q.1 ≠ pa) → (∀ q ∈ V, q.1 ≠ K) → (∀ q ∈ V, q.1 ≠ I) → Far V news → (∀ q ∈ Z, q ∈ V) → DatAll V ts ((rows.take i).map rowDat) → ts.length = i → P4J pa K I eP eD Z news rows base i m nw
def Cjoins_ok.pack : { P : CxP // (∀ prog w p loose mean mg mb dp un gd cn cs a ccd cl outer A₀ base h₀ L m news s pa x y tx ty n Q E g' L' h' tk' o1 o2, P prog w p loose mean mg mb dp un gd cn cs a ccd cl outer A₀ base h₀ L m news s pa x y tx ty n Q E g' L' h' tk' o1 o2) → ∀ (prog : Program) (w : World) (p : Program) (loose : List Str) (mean : ExcName → Option Value) (mg mb : Str → Option Value), PoolC prog w p loose mean mg mb 700 742 (fun pa => [.ref pa]) [] (fun nw v => v = .bool true) } := ⟨_, fun h prog w p loose mean mg mb => by
  unfold PoolC
  intro dp un gd cn cs a ccd cl outer A₀ base h₀ L m news s pa x y tx ty n Q E B F X N hoff T hk ok hdp hun hsub ret
  refine wpAny_call ?_
  k_dflt (refine' enter [(Str.ofString "source", .ref pa)] ?k1 ?k2 ?k3 ?k4 ?k5 ?kA ?kF ?kK ?k6 ?k7 ?k8 ?k9 ?kB ?_ ?c2 ?c3 ?c4 ?c5; walk_at "m_enterE")
  obtain ⟨tk', -⟩ : ∃ z : Nat, True := ⟨default, trivial⟩
  obtain ⟨o1, -⟩ : ∃ z : Obj, True := ⟨default, trivial⟩
  obtain ⟨o2, -⟩ : ∃ z : Obj, True := ⟨default, trivial⟩
  revert T'
  revert X'
  revert B'
  revert N'
  revert F'
  revert FG'
  revert ret
  revert hsub
  revert hun
  revert hdp
  revert ok
  revert hk
  revert T
  revert hoff
  revert N
  revert X
  revert F
  revert B
  exact h prog w p loose mean mg mb dp un gd cn cs a ccd cl outer A₀ base h₀ L m news s pa x y tx ty n Q E g' L' h' tk' o1 o2⟩
noncomputable def Cjoins_ok.c : Cx := bad Cjoins_ok.pack.1
noncomputable def Cjoins_ok.prog : Program := Cjoins_ok.c.prog
noncomputable def Cjoins_ok.w : World := Cjoins_ok.c.w
noncomputable def Cjoins_ok.p : Program := Cjoins_ok.c.p
noncomputable def Cjoins_ok.loose : List Str := Cjoins_ok.c.loose
noncomputable def Cjoins_ok.mean : ExcName → Option Value := Cjoins_ok.c.mean
noncomputable def Cjoins_ok.mg : Str → Option Value := Cjoins_ok.c.mg
noncomputable def Cjoins_ok.mb : Str → Option Value := Cjoins_ok.c.mb
noncomputable def Cjoins_ok.dp : Nat := Cjoins_ok.c.dp
noncomputable def Cjoins_ok.un : Nat := Cjoins_ok.c.un
noncomputable def Cjoins_ok.gd : Option (List Code) := Cjoins_ok.c.gd
noncomputable def Cjoins_ok.cn : Str := Cjoins_ok.c.cn
noncomputable def Cjoins_ok.cs : Scope := Cjoins_ok.c.cs
noncomputable def Cjoins_ok.a : Addr := Cjoins_ok.c.a
noncomputable def Cjoins_ok.ccd : Value := Cjoins_ok.c.ccd
noncomputable def Cjoins_ok.cl : List (Str × Addr) := Cjoins_ok.c.cl
noncomputable def Cjoins_ok.outer : List Env := Cjoins_ok.c.outer
noncomputable def Cjoins_ok.A₀ : Around := Cjoins_ok.c.A₀
noncomputable def Cjoins_ok.base : Heap := Cjoins_ok.c.base
noncomputable def Cjoins_ok.h₀ : Heap := Cjoins_ok.c.h₀
noncomputable def Cjoins_ok.L : Addr := Cjoins_ok.c.L
noncomputable def Cjoins_ok.m : Str → Option Value := Cjoins_ok.c.m
noncomputable def Cjoins_ok.news : Lst := Cjoins_ok.c.news
noncomputable def Cjoins_ok.s : Shared := Cjoins_ok.c.s
noncomputable def Cjoins_ok.pa : Addr := Cjoins_ok.c.pa
noncomputable def Cjoins_ok.x : Int := Cjoins_ok.c.x
noncomputable def Cjoins_ok.y : Int := Cjoins_ok.c.y
noncomputable def Cjoins_ok.tx : Tok := Cjoins_ok.c.tx
noncomputable def Cjoins_ok.ty : Tok := Cjoins_ok.c.ty
noncomputable def Cjoins_ok.n : Nat := Cjoins_ok.c.n
noncomputable def Cjoins_ok.Q : Value → Shared → Prop := Cjoins_ok.c.Q
noncomputable def Cjoins_ok.E : Value → Shared → Prop := Cjoins_ok.c.E
noncomputable def Cjoins_ok.g' : Heap := Cjoins_ok.c.g'
noncomputable def Cjoins_ok.L' : Addr := Cjoins_ok.c.L'
noncomputable def Cjoins_ok.h' : Heap := Cjoins_ok.c.h'
noncomputable def Cjoins_ok.tk' : Nat := Cjoins_ok.c.tk'
noncomputable def Cjoins_ok.o1 : Obj := Cjoins_ok.c.o1
noncomputable def Cjoins_ok.o2 : Obj := Cjoins_ok.c.o2
open Cjoins_ok in
theorem Cjoins_ok.core : Cjoins_ok.pack.1 Cjoins_ok.prog Cjoins_ok.w Cjoins_ok.p Cjoins_ok.loose Cjoins_ok.mean Cjoins_ok.mg Cjoins_ok.mb Cjoins_ok.dp Cjoins_ok.un Cjoins_ok.gd Cjoins_ok.cn Cjoins_ok.cs Cjoins_ok.a Cjoins_ok.ccd Cjoins_ok.cl Cjoins_ok.outer Cjoins_ok.A₀ Cjoins_ok.base Cjoins_ok.h₀ Cjoins_ok.L Cjoins_ok.m Cjoins_ok.news Cjoins_ok.s Cjoins_ok.pa Cjoins_ok.x Cjoins_ok.y Cjoins_ok.tx Cjoins_ok.ty Cjoins_ok.n Cjoins_ok.Q Cjoins_ok.E Cjoins_ok.g' Cjoins_ok.L' Cjoins_ok.h' Cjoins_ok.tk' Cjoins_ok.o1 Cjoins_ok.o2 := by
  dsimp only [Cjoins_ok.pack]
  intro B F X N hoff T hk ok hdp hun hsub ret FG' F' N' B' X' T'
  (try dsimp only); (try k_fold)
  have halt : Halt := ⟨⟩
  walk1
  refine jc_Assign (by decide) (by k_asm) rfl (by rfl) (by rfl) (by decide) (by rfl) (by decide) (by rfl) (by rfl) ?_
  k_steps
  refine ⟨?_⟩
  refine jat_range (a₀ := 0) (b₀ := 6) (n := 6) (P1J ((pa, src x y tx ty n) :: news)) rfl (by k_asm) (by k_asm) (by assumption) ?small ?size (Nat.le_of_ble_eq_true rfl) (by rfl) (by rfl) (.mk (Z := []) (tabs := []) rfl Far.nil rfl ⟨rfl, List.nodup_nil, fun _ h => (nomatch h)⟩) ?turn ?done
  case small => exact small_one (by omega) (by omega) (by omega) (by omega)
  case size => exact rangeSize_nat _ _
  case turn =>
    rintro s₂ i t ys hs news' its C oC D m₂ h tk E' hi hm hj - hNs hmap off offI hCD F' N'
    cases hj with
    | @mk Z tabs en fZ hyl htb =>
    subst en
    refine (show wpAny _ _ _ _ _ _ from ?_)
    k_steps
    rename News _ _ _ (_ :: _) => N9
    exact jEnd_two (fun q1 q2 => q1 :: q2 :: (Z ++ ((pa, src x y tx ty n) :: news))) (by k_asm) N9 (by walk_at "m_far") hmap off (by walk_at "m_sub") (fun _ h => (nomatch h)) (.mk (Z := _ :: _ :: Z) rfl (by walk_at "m_far") (by rw [List.length_append, hyl]; rfl) (tabs_snoc htb (by walk_at "m_sub") (by k_mem) (by k_mem) (by k_all)))
  case done =>
    rintro g ys news' hj D h tk F' N' offD
    cases hj with
    | @mk Z tabs en fZ hyl htb =>
    subst en
    obtain ⟨rfl, hnd, htb⟩ := htb
    obtain ⟨b0, b1, b2, b3, b4, b5, rfl⟩ := six tabs (by simpa using hyl)
    simp only [List.map_cons, List.map_nil] at N' offD
    replace F' : Fr g' L' h (fun z => if z = Str.ofString "tables" then some (.ref D) else List.lookup z [(Str.ofString "source", Value.ref pa)].reverse) := F'
    replace N' : News g' L' h ((D, LCg.lst [Value.ref b0, Value.ref b1, Value.ref b2, Value.ref b3, Value.ref b4, Value.ref b5]) :: (Z ++ ((pa, src x y tx ty n) :: news))) := N'
    k_steps
    refine ⟨?_⟩
    rename News _ _ _ _ => N0
    obtain ⟨V9, hV9, NL⟩ := led_endX (ps := [(pa, _), (ln, _), (D, _)]) (base := news) N0 (by walk_at "m_pulls") (by walk_at "m_splitR")
    simp only [List.cons_append, List.nil_append] at NL
    have v1 : ∀ q ∈ V9, q.1 ≠ pa := by subst hV9; k_all
    have v2 : ∀ q ∈ V9, q.1 ≠ ln := by subst hV9; k_all
    have v3 : Far V9 news := by subst hV9; walk_at "m_far"
    have v4 : ∀ q ∈ Z, q ∈ V9 := by subst hV9; walk_at "m_sub"
    have tb0 : ∀ (i : Nat) b, [b0, b1, b2, b3, b4, b5][i]? = some b → TabAt [b0, b1, b2, b3, b4, b5] Z (.ref b) i := fun i b hi => by
      obtain ⟨d, es, n, m1, m2⟩ := htb b (List.mem_of_getElem? hi)
      exact ⟨b, d, es, n, rfl, hi, m1, m2⟩
    obtain ⟨mt9, hmt9⟩ : ∃ z, z = tk9 := ⟨_, rfl⟩
    subst hmt9
    refine iter_rangeUnr (n := v9.toNat) rfl (by assumption) ?small ?size (by k_asm) NL ?_
    case small => exact small_one (by omega) (by omega) (by omega) (by omega)
    case size => rw [show v9.toNat = (1 + v9 - 1).toNat by omega]; exact rangeSize_nat _ _
    intro I hI
    have lI := allLt_of hI
    have v6 : ∀ q ∈ V9, q.1 ≠ I := allLt_ne lI (by walk_at "m_sub")
    have w1 : @Ne Nat ln pa := by k_ne
    have w2 : @Ne Nat D pa := by k_ne
    have w3 : @Ne Nat ln D := by k_ne
    have w4 : @Ne Nat I pa := ltneA lI (by k_mem)
    have w5 : @Ne Nat I ln := ltneA lI (by k_mem)
    have w6 : @Ne Nat I D := ltneA lI (by k_mem)
    have w7 : ∀ q ∈ news, q.1 ≠ I := allLt_ne lI (by walk_at "m_sub")
    have w8 : ∀ q ∈ news, q.1 ≠ ln := by k_all
    have w9 : ∀ q ∈ news, q.1 ≠ D := by k_all
    refine rr_loop (J := P2J w.params pa ln I (D, LCg.lst [Value.ref b0, Value.ref b1, Value.ref b2, Value.ref b3, Value.ref b4, Value.ref b5]) [b0, b1, b2, b3, b4, b5] Z news (fun z => if z = Str.ofString "due" then some (.ref ln) else if z = Str.ofString "many" then some (.int (1 + v9) mt9) else if z = Str.ofString "tables" then some (.ref D) else List.lookup z [(Str.ofString "source", Value.ref pa)].reverse)) ?_ ?_ ?_
    · exact .mk (nv := .ref b0) (t := .tab 0) (V := V9) (canon4 (fun z a1 a2 a3 a4 => rfl)) (by with_reducible assumption) rfl v1 v2 v6 v3 v4 (.tab ((tb0 0 b0 rfl).mono v4)) rfl (by subst hV9; exact row0 (by k_mem) (by k_mem)) rfl
    · walk_at "m_forget"
      rintro m' nw' hj h' tk' F' N'
      cases hj with
      | @mk u nv t dsV x2 y2 tx2 ty2 n2 nd V em ok2 en nP nL nI fV hZ hj hjs hds hdl =>
      subst em en
      --S after
      have jn : JoinOn := ⟨⟩
      k_steps
      refine ⟨?_⟩
      refine join g' L' (P3J w.params pa (D, LCg.lst [Value.ref b0, Value.ref b1, Value.ref b2, Value.ref b3, Value.ref b4, Value.ref b5]) [b0, b1, b2, b3, b4, b5] Z news (fun z => if z = Str.ofString "many" then some (.int (1 + v9) mt9) else if z = Str.ofString "tables" then some (.ref D) else List.lookup z [(Str.ofString "source", Value.ref pa)].reverse)) ?go ?k
      case go =>
        --S go
        (rename JoinOn => jn9); clear jn9
        have st9 : SplitT := ⟨⟩
        have mo9 : MemOn := ⟨⟩
        have hnv := hj.handed
        have hz5 : dsV.length ≤ 5 := by omega
        k_steps
        all_goals (
          rename News _ _ _ _ => N0
          have NL := led2 (e1 := (pa, _)) (e2 := (D, _)) (base := news) N0 (by walk_at "m_pulls") (by walk_at "m_splitR"))
        · refine' joinP (by k_asm) NL (.mk (t := .grp t (some 50)) ?e1 ?e2 rfl ?e7 ?e8 ?e9 ?e3 ?e4 ?e5 ?e6)
          case e1 =>
            refine canonG ?_ ?_ ?_
            · simp
              rfl
            · simp
              rfl
            · intro z a1 a2 a3 a4 a5 a6 a7
              simp only [a1, a2, a3, a4, a5, a6, a7, if_false]
          case e2 => with_reducible assumption
          case e7 => k_all
          case e8 => walk_at "m_far"
          case e9 => walk_at "m_sub"
          case e3 => k_mem
          case e4 =>
            refine' JoinT.grp ?f1 ?f2 ?f3 ?f4 ?f5 ?f6 ?f7 ?f8
            case f1 => k_mem
            case f2 => k_mem
            case f4 => k_mem
            case f5 => k_mem
            case f8 => k_mem
            case f3 => exact hj.mono (by walk_at "m_sub")
            case f7 => exact ExprAt.lit (by k_mem) (by k_mem)
            refine' JoinT.step (l := .tab 4) ?h1 ?h2 ?h3 ?h4 ?h5 ?h6 ?h7
            case h1 => k_mem
            case h2 => k_mem
            case h3 => decide +kernel
            case h4 => exact .tab ((tb0 4 b4 rfl).mono (by walk_at "m_sub"))
            case h5 => exact (tb0 5 b5 rfl).mono (by walk_at "m_sub")
            case h6 => exact ExprAt.lit (by k_mem) (by k_mem)
            case h7 => exact us0 (by k_mem)
          case e5 => simp only [jsize]; omega
          case e6 => exact grp_dat hds (by walk_at "m_sub") (row_dat rfl (by k_mem) .none (.list (vs := []) (by k_mem) .nil)) (row_dat rfl (by k_mem) (.list (vs := [_, _]) (by k_mem) (.cons (.int _ _) (.cons (.int _ _) .nil))) (.list (vs := []) (by k_mem) .nil))
        · refine' joinP (by k_asm) NL (.mk (t := .grp t (none)) ?e1 ?e2 rfl ?e7 ?e8 ?e9 ?e3 ?e4 ?e5 ?e6)
          case e1 =>
            refine canonG ?_ ?_ ?_
            · simp
              rfl
            · simp
              rfl
            · intro z a1 a2 a3 a4 a5 a6 a7
              simp only [a1, a2, a3, a4, a5, a6, a7, if_false]
          case e2 => with_reducible assumption
          case e7 => k_all
          case e8 => walk_at "m_far"
          case e9 => walk_at "m_sub"
          case e3 => k_mem
          case e4 => exact JoinT.grp (by k_mem) (by k_mem) (hj.mono (by walk_at "m_sub")) (by k_mem) (by k_mem) (JoinT.step (l := .tab 4) (by k_mem) (by k_mem) (by decide +kernel) (.tab ((tb0 4 b4 rfl).mono (by walk_at "m_sub"))) ((tb0 5 b5 rfl).mono (by walk_at "m_sub")) rfl (us0 (by k_mem))) (ExprAt.lit (by k_mem) (by k_mem)) (by k_mem)
          case e5 => simp only [jsize]; omega
          case e6 => exact grp_dat hds (by walk_at "m_sub") (row_dat rfl (by k_mem) .none (.list (vs := []) (by k_mem) .nil)) (row_dat rfl (by k_mem) (.int _ _) (.list (vs := []) (by k_mem) .nil))
        · refine' joinP (by k_asm) NL (.mk (t := t) ?e1 ?e2 rfl ?e7 ?e8 ?e9 ?e3 ?e4 ?e5 ?e6)
          case e1 =>
            refine canonG ?_ ?_ ?_
            · simp
              rfl
            · simp
              rfl
            · intro z a1 a2 a3 a4 a5 a6 a7
              simp only [a1, a2, a3, a4, a5, a6, a7, if_false]
          case e2 => with_reducible assumption
          case e7 => k_all
          case e8 => walk_at "m_far"
          case e9 => walk_at "m_sub"
          case e3 => k_mem
          case e4 => exact hj.mono (by walk_at "m_sub")
          case e5 => omega
          case e6 => exact hds.mono (by walk_at "m_sub")
        --/S go
      case k =>
        rintro h' tk' m' nw' F' N' hj
        cases hj with
        | @mk u3 nv3 t3 ds3 ld x3 y3 tx3 ty3 n3 nd3 V3 em ok3 en nP3 fV3 hZ3 hld hj3 hjz hd3 =>
        subst em en
        (rename JoinOn => jn9); clear jn9
        have kd9 : KindOn := ⟨⟩
        k_with "call ref" => ((with_reducible show wpAny _ _ (call (Value.ref 680) [_, _]) _ _ _); k_dflt (refine' ReadC.use (flat_ok t3 ?hz hj3 _ _ ?ok) ?B ?F ?X ?N ?T ?K ?D ?U ?S ?Z ?_; (case hz => omega); (case ok => decide +kernel); walk_at "m_read"); (obtain ⟨l9, w9, c9, e9, i9, j9⟩ := flat_any q9); subst e9; (try dsimp only); (try k_fold))
        k_steps
        refine ⟨?_⟩
        obtain ⟨tdl, etd⟩ : ∃ z, z = lk := ⟨_, rfl⟩
        subst etd
        obtain ⟨V9, hV9, NL⟩ := led_endX (ps := [(tdl, _), (pa, _), (D, _)]) (base := news) N9 (by walk_at "m_pulls") (by walk_at "m_splitR")
        simp only [List.cons_append, List.nil_append] at NL
        have zx1 : ∀ q ∈ V9, q.1 ≠ pa := by subst hV9; k_all
        have zx2 : ∀ q ∈ V9, q.1 ≠ tdl := by subst hV9; k_all
        have zx3 : Far V9 news := by subst hV9; walk_at "m_far"
        have zx4 : ∀ q ∈ tl9 ++ V3, q ∈ V9 := by subst hV9; walk_at "m_sub"
        have zy1 : @Ne Nat tdl pa := by k_ne
        have zy2 : @Ne Nat tdl D := by k_ne
        have zy3 : ∀ q ∈ news, q.1 ≠ tdl := by k_all
        have rok := rows_ok j9 (flat_on t3 _)
        have rlen := flat_len t3 (Str.ofString "inner")
        have wlen := j9.length
        have hib : ∀ b ∈ [b0, b1, b2, b3, b4, b5], ∃ d, (b, instObj 536 d) ∈ V3 := fun b hb => by
          obtain ⟨d, es, n, m1, _⟩ := htb b hb
          exact ⟨d, hZ3 _ m1⟩
        have j8 := j9.mono zx4
        have hib8 := ib_of hib fun q hq => zx4 q (List.mem_append_right _ hq)
        have hld8 := zx4 _ (List.mem_append_right _ hld)
        have hd8 := hd3.mono fun q hq => zx4 q (List.mem_append_right _ hq)
        refine iter_listTurns (vs := w9) (n := c9) rfl (by k_asm) NL (List.mem_cons_of_mem _ (List.mem_cons_of_mem _ (List.mem_cons_of_mem _ (List.mem_append_left _ (zx4 _ i9))))) rfl rfl ?_
        intro I hI
        have lI := allLt_of hI
        have zx5 : ∀ q ∈ V9, q.1 ≠ I := allLt_ne lI (by walk_at "m_sub")
        have zy4 : @Ne Nat I pa := ltneA lI (by k_mem)
        have zy5 : @Ne Nat I tdl := ltneA lI (by k_mem)
        have zy6 : @Ne Nat I D := ltneA lI (by k_mem)
        have zy7 : ∀ q ∈ news, q.1 ≠ I := allLt_ne lI (by walk_at "m_sub")
        have zc : Conds pa tdl I news V9 := ⟨zx1, zx2, zx5, zx3⟩
        clear hV9
        walk_at "m_forget"
        refine rl_loop (J := P4J pa tdl I (pa, src x3 y3 tx3 ty3 n3) (D, LCg.lst [Value.ref b0, Value.ref b1, Value.ref b2, Value.ref b3, Value.ref b4, Value.ref b5]) V9 news (flat t3 (Str.ofString "inner")) (fun z => if z = Str.ofString "told" then some (.ref tdl) else if z = Str.ofString "inner" then u3 z else if z = Str.ofString "number" then u3 z else if z = Str.ofString "node" then some nv3 else if z = Str.ofString "due" then some (.ref ld) else if z = Str.ofString "many" then some (.int (1 + v9) mt9) else if z = Str.ofString "tables" then some (.ref D) else List.lookup z [(Str.ofString "source", Value.ref pa)].reverse)) ?_ ?_ ?_
        · exact .mk (ts := []) (nt := 0) (V := V9) (canon4 (fun z a1 a2 a3 a4 => by simp only [a1, a2, a3, a4, if_false])) rfl zc.1 zc.2.1 zc.2.2.1 zc.2.2.2 (fun _ h => h) .nil rfl
        · rintro m' nw' hj h' tk' F' N'
          cases hj with
          | @mk u ts nt V em en nP nK nI fV hV hts htl =>
          subst em en
          rw [List.take_of_length_le (by omega)] at hts
          have hld7 := hV _ hld8
          have hd7 := hd8.mono hV
          k_steps
          exact ret _ _ _ _ _ _ _ _ _ (by with_reducible assumption) (by k_asm) (fin_pool (by k_asm) (by k_mem) (by walk_at "m_split")) (by k_all) (by walk_at "m_far") rfl
        · rintro i v m' nw' hv hj it h' tk' hit F' N'
          cases hj with
          | @mk u ts nt V em en nP nK nI fV hV hts htl =>
          subst em en
          obtain ⟨r, hr, hrow⟩ := rows_get j8 hv
          have hon := flat_on t3 _ r (List.mem_of_getElem? hr)
          obtain ⟨t, b, ua, ov, kt, us', n8, n7, rfl, hm1, hib1, hov, hm2, hus⟩ := row_open hrow
          have hm3 := hV _ hm1
          have hm4 := hV _ hm2
          have hus7 := hus.mono hV
          have hib7 := ib_of hib8 hV
          have hiw := (List.getElem?_eq_some_iff.mp hv).1
          have hsz : ts.length ≤ 1000 := by omega
          obtain ⟨ri, rk, ro, ru⟩ := r
          simp only at hon hm1 hib1 hov hus hm3 hus7
          have hl9 := hV _ (zx4 _ i9)
          rcases hon with rfl | ⟨k0, rfl⟩ | ⟨k1, k2, rfl⟩
          · cases hov
            clear hm1 hm2 hus hv hrow hiw
            k_steps
            refine ⟨?_⟩
            rename News _ _ _ (_ :: _) => N0
            have NL := led4 (e1 := (I, _)) (e2 := (tdl, _)) (e3 := (pa, _)) (e4 := (D, _)) (base := news) N0 (by walk_at "m_pulls") (by walk_at "m_splitR")
            refine unrW_led (by k_asm) NL (by k_all) (by k_mem) (.mk (canon4 (fun z a1 a2 a3 a4 => by walk_at "m_off")) rfl (by k_all) (by k_all) (by k_all) (by walk_at "m_far") (by walk_at "m_sub") ?_ (by rw [List.length_append, htl]; rfl))
            rw [take_snoc hr, List.map_append]
            exact (hts.mono (by walk_at "m_sub")).append (.one (row_dat rfl (by k_mem) (.none) (.list (by k_mem) (hus7.mono (by walk_at "m_sub")))))
          · obtain ⟨xo, rfl⟩ := ExprAt.ref hov
            cases hov with
            | lit e1 e2 =>
            have e3 := hV _ e1
            have e4 := hV _ e2
            clear hm1 hm2 hus hv hrow hiw
            k_steps
            refine ⟨?_⟩
            rename News _ _ _ (_ :: _) => N0
            have NL := led4 (e1 := (I, _)) (e2 := (tdl, _)) (e3 := (pa, _)) (e4 := (D, _)) (base := news) N0 (by walk_at "m_pulls") (by walk_at "m_splitR")
            refine unrW_led (by k_asm) NL (by k_all) (by k_mem) (.mk (canon4 (fun z a1 a2 a3 a4 => by walk_at "m_off")) rfl (by k_all) (by k_all) (by k_all) (by walk_at "m_far") (by walk_at "m_sub") ?_ (by rw [List.length_append, htl]; rfl))
            rw [take_snoc hr, List.map_append]
            exact (hts.mono (by walk_at "m_sub")).append (.one (row_dat rfl (by k_mem) (.int _ _) (.list (by k_mem) (hus7.mono (by walk_at "m_sub")))))
          · obtain ⟨xo, rfl⟩ := ExprAt.ref hov
            cases hov with
            | bin e1 e2 e5 hl hr9 =>
            cases hl with
            | lit f1 f2 =>
            cases hr9 with
            | lit g1 g2 =>
            have e3 := hV _ e1
            have e4 := hV _ e2
            have f3 := hV _ f1
            have f4 := hV _ f2
            have g3 := hV _ g1
            have g4 := hV _ g2
            clear hm1 hm2 hus hv hrow hiw
            k_steps
            refine ⟨?_⟩
            rename News _ _ _ (_ :: _) => N0
            have NL := led4 (e1 := (I, _)) (e2 := (tdl, _)) (e3 := (pa, _)) (e4 := (D, _)) (base := news) N0 (by walk_at "m_pulls") (by walk_at "m_splitR")
            refine unrW_led (by k_asm) NL (by k_all) (by k_mem) (.mk (canon4 (fun z a1 a2 a3 a4 => by walk_at "m_off")) rfl (by k_all) (by k_all) (by k_all) (by walk_at "m_far") (by walk_at "m_sub") ?_ (by rw [List.length_append, htl]; rfl))
            rw [take_snoc hr, List.map_append]
            exact (hts.mono (by walk_at "m_sub")).append (.one (row_dat rfl (by k_mem) (.list (vs := [_, _]) (by k_mem) (.cons (.int _ _) (.cons (.int _ _) .nil))) (.list (by k_mem) (hus7.mono (by walk_at "m_sub")))))
      --/S after
    · walk_at "m_forget"
      rintro i m' nw' hi hj t' h' tk' F' N'
      cases hj with
      | @mk u nv t dsV x2 y2 tx2 ty2 n2 nd V em ok2 en nP nL nI fV hZ hj hjs hds hdl =>
      subst em en
      obtain ⟨b, hb⟩ : ∃ b, [b0, b1, b2, b3, b4, b5][i + 1]? = some b := ⟨_, List.getElem?_eq_getElem (by simp only [List.length_cons, List.length_nil]; omega)⟩
      have hbv : [Value.ref b0, .ref b1, .ref b2, .ref b3, .ref b4, .ref b5][(1 + (i : Int)).toNat]? = some (.ref b) := by
        rw [show (1 + (i : Int)).toNat = i + 1 by omega]
        have e := List.getElem?_map (f := Value.ref) (l := [b0, b1, b2, b3, b4, b5]) (i := i + 1)
        rw [hb] at e
        exact e
      have hnv := hj.handed
      have kd9 : KindOn := ⟨⟩
      --S turn
      k_steps
      all_goals (
        rename News _ _ _ _ => N0
        have NL := led4 (e1 := (I, _)) (e2 := (pa, _)) (e3 := (ln, _)) (e4 := (D, _)) (base := news) N0 (by walk_at "m_pulls") (by walk_at "m_splitR"))
      · refine ⟨unr_led (by k_asm) NL (by k_all) (.mk (t := .step kd8 t (i + 1) none sus8) (canonJ (if_pos rfl) (fun z a1 a2 a3 a4 a5 => by walk_at "m_off")) (by with_reducible assumption) rfl (by k_all) (by k_all) (by k_all) (by walk_at "m_far") (by walk_at "m_sub") ?_ ?_ ?_ ?_)⟩
        · exact JoinT.step (by k_mem) (by k_mem) ok8 (hj.mono (by walk_at "m_sub")) ((tb0 (i + 1) b hb).mono (by walk_at "m_sub")) rfl (us_mk (by k_mem) (du8.mono (by walk_at "m_sub")) lu8 ou8)
        · simp only [jsize, hjs]
        · exact step_dat hds (by walk_at "m_sub") (row_dat (k := 1 + (i : Int)) (by omega) (by k_mem) .none (.list (by k_mem) (du8.mono (by walk_at "m_sub"))))
        · rw [List.length_append, hdl]; rfl
      · refine ⟨unr_led (by k_asm) NL (by k_all) (.mk (t := .step kd8 t (i + 1) (some (1 + (i : Int))) sus8) (canonJ (if_pos rfl) (fun z a1 a2 a3 a4 a5 => by walk_at "m_off")) (by with_reducible assumption) rfl (by k_all) (by k_all) (by k_all) (by walk_at "m_far") (by walk_at "m_sub") ?_ ?_ ?_ ?_)⟩
        · exact JoinT.step (by k_mem) (by k_mem) ok8 (hj.mono (by walk_at "m_sub")) ((tb0 (i + 1) b hb).mono (by walk_at "m_sub")) (ex8.mono (by walk_at "m_sub")) (us_mk (by k_mem) (du8.mono (by walk_at "m_sub")) lu8 ou8)
        · simp only [jsize, hjs]
        · exact step_dat hds (by walk_at "m_sub") (row_dat (k := 1 + (i : Int)) (by omega) (by k_mem) (.int _ _) (.list (by k_mem) (du8.mono (by walk_at "m_sub"))))
        · rw [List.length_append, hdl]; rfl
      --/S turn
theorem joins_ok {prog : Program} {w : World} {p : Program} {loose : List Str} {mean : ExcName → Option Value} {mg mb : Str → Option Value} : PoolC prog w p loose mean mg mb 700 742 (fun pa => [.ref pa]) [] (fun nw v => v = .bool true) := Cjoins_ok.pack.2 (of_bad (by with_unfolding_all exact Cjoins_ok.core)) prog w p loose mean mg mb

/-! the star: small letters -/
section
open PyProof.Rows.LCg
variable {prog : Program} {w : World} {A : Around} {E : Value → Shared → Prop} {s : Shared} {env : Env}
/-- a comprehension over one iterator, its target a name -/
theorem jat_name {h₀ : Heap} {L : Addr} {m : Str → Option Value} {elt : PySem.Expr} {ifs : List PySem.Expr} {a : Str} {px : Pos} {scope : Scope} {cl : List (Str × Addr)} {done : Shared → List Value → Lst → Prop} {o : Obj} {n : Nat} {P : Nat → Value → Prop} {St : Nat → Heap → Prop} {fp : List Addr} {keep news : Lst} (J : Nat → List Value → Lst → Prop)
    (W : Walks prog w A s.heap.objs.size fp [s.heap.objs.size] n P St) (hst : St 0 (s.heap.push o)) (hobj : ∀ i h, St i h → ∃ o, h.get? s.heap.objs.size = some o) (hfI : s.heap.objs.size ∈ fp) (hfp : ∀ b ∈ fp, b = s.heap.objs.size ∨ ∃ o, (b, o) ∈ keep)
    (F : Fr h₀ L s.heap m) (N : News h₀ L s.heap news) (hk : ∀ p ∈ keep, p ∈ news) (hsz : n ≤ sizeLine)
    (hkind : scope.kind = .function) (hxa : scope.names.lookup a = some .local) (hJ : J 0 [] news)
    (turn : ∀ (s₂ : Shared) (i : Nat) v ys hs news' its C oC D m₂ h tk (E' : Value → Shared → Prop), i < n → P i v → m₂ a = some v → J i ys news' → ys.length ≤ i → (∀ p ∈ keep, p ∈ news') → NsObj oC m₂ → its.map (·.1) = hs → (∀ p ∈ news', p.1 ∉ hs ∧ p.1 ≠ C ∧ p.1 ≠ D) → (∀ p ∈ its, p.1 ≠ C ∧ p.1 ≠ D) → C ≠ D →
      Fr h₀ L h m → News h₀ L h ((C, oC) :: (D, lst ys) :: (its ++ news')) →
      Tst prog w A ifs (compEnvC scope cl C env)
        (fun s₃ => wpAny (model prog w) A (eval elt (compEnvC scope cl C env)) (fun y => JEnd h₀ L m { s₂ with heap := h, toks := tk } hs ((C, oC) :: (D, lst ys) :: its) C D keep (J (i + 1) (ys ++ [y]))) E' s₃)
        (JEnd h₀ L m { s₂ with heap := h, toks := tk } hs ((C, oC) :: (D, lst ys) :: its) C D keep (J (i + 1) ys)) E' { s₂ with heap := h, toks := tk })
    (hdone : ∀ g ys news', (∀ p ∈ keep, p ∈ news') → J n ys news' → done { s with heap := g } ys news') :
    JAt prog w A h₀ L m env elt (.Name a px) ifs scope cl done (.ref s.heap.objs.size) { s with heap := s.heap.push o } := by
  refine ⟨_, [s.heap.objs.size], fp, _, n, _, _, St, fun i v m₂ => P i v ∧ m₂ a = some v, keep, news, J, rfl,
    KTurns.ofWalks W (fun i v s Q E st q => by unfold letOwnedTupleGo; exact wpAny_pure q), hsz, ?_, (fun b hb => hb), ?_, ?_, fun s' Q E' st hQ => W.self 0 s' Q E' st hQ, ?_, hst, F.push _, fun p hp => ⟨Heap.get?_push_of_some _ (N p hp).1, (N p hp).2⟩, ?_, ?_, hk, hJ, ?_, ?_⟩
  · intro b hb
    rw [List.mem_singleton.mp hb]
    exact ⟨hfI, next_is_new F, by show s.heap.objs.size < (s.heap.push _).objs.size; rw [Heap.size_push]; exact Nat.lt_succ_self _⟩
  · intro b hb
    rcases hfp b hb with rfl | h
    · exact .inl (.head _)
    · exact .inr h
  · intro i h st
    obtain ⟨o', ho⟩ := hobj i h st
    exact ⟨[(s.heap.objs.size, o')], rfl, fun p hp => by rw [List.mem_singleton.mp hp]; exact ho⟩
  · intro i v C s' m₁ news' Q E' hP N' hk' hn' hQ
    refine wpAny_assign_Name (wpAny_storeName_local (lookup_relabel_local hxa) hn' (fun h₂ hn₂ hs₂ => ?_) (by simp [compEnvC, relabel, hkind]))
    exact hQ h₂ _ _ hn₂ ⟨hP, by simp⟩ fun c o hc e => hs₂.extBut c o hc e
  · exact fun h => absurd F.ns.lt ((List.mem_singleton.mp h) ▸ Nat.lt_irrefl _)
  · exact fun p hp h => absurd (Heap.lt_size (N p hp).1) ((List.mem_singleton.mp h) ▸ Nat.lt_irrefl _)
  · intro i v ys news' its C oC D m₂ h tk E' hi ⟨hP, ht⟩ hJ' hyl hk' hNs hmap off offI hCD F' N'
    exact turn _ i v ys _ news' its C oC D m₂ h tk E' hi hP ht hJ' hyl hk' hNs hmap off offI hCD F' N'
  · intro ys news' hk' hJ'
    exact hdone _ ys news' hk' hJ'
/-- over a list -/
theorem jat_list {h₀ : Heap} {L l : Addr} {m : Str → Option Value} {elt : PySem.Expr} {ifs : List PySem.Expr} {a : Str} {px : Pos} {scope : Scope} {cl : List (Str × Addr)} {done : Shared → List Value → Lst → Prop} {vs : List Value} {n₀ : Nat} {keep news : Lst} (J : Nat → List Value → Lst → Prop)
    (hh : A.handled = none) (F : Fr h₀ L s.heap m) (N : News h₀ L s.heap news) (hk : ∀ p ∈ keep, p ∈ news) (hl : (l, listOf vs.toArray n₀) ∈ keep) (hsz : vs.length ≤ sizeLine)
    (hkind : scope.kind = .function) (hxa : scope.names.lookup a = some .local) (hJ : J 0 [] news)
    (turn : ∀ (s₂ : Shared) (i : Nat) v ys hs news' its C oC D m₂ h tk (E' : Value → Shared → Prop), i < vs.length → vs[i]? = some v → m₂ a = some v → J i ys news' → ys.length ≤ i → (∀ p ∈ keep, p ∈ news') → NsObj oC m₂ → its.map (·.1) = hs → (∀ p ∈ news', p.1 ∉ hs ∧ p.1 ≠ C ∧ p.1 ≠ D) → (∀ p ∈ its, p.1 ≠ C ∧ p.1 ≠ D) → C ≠ D →
      Fr h₀ L h m → News h₀ L h ((C, oC) :: (D, lst ys) :: (its ++ news')) →
      Tst prog w A ifs (compEnvC scope cl C env)
        (fun s₃ => wpAny (model prog w) A (eval elt (compEnvC scope cl C env)) (fun y => JEnd h₀ L m { s₂ with heap := h, toks := tk } hs ((C, oC) :: (D, lst ys) :: its) C D keep (J (i + 1) (ys ++ [y]))) E' s₃)
        (JEnd h₀ L m { s₂ with heap := h, toks := tk } hs ((C, oC) :: (D, lst ys) :: its) C D keep (J (i + 1) ys)) E' { s₂ with heap := h, toks := tk })
    (hdone : ∀ g ys news', (∀ p ∈ keep, p ∈ news') → J vs.length ys news' → done { s with heap := g } ys news') :
    wpAny (model prog w) A (pyIter (.ref l)) (JAt prog w A h₀ L m env elt (.Name a px) ifs scope cl done) E s := by
  have hol : s.heap.get? l = some (listOf vs.toArray n₀) := (N _ (hk _ hl)).1
  have hls : s.heap.IsList l vs.toArray := ⟨_, hol, rfl, n₀, rfl⟩
  have hne : l ≠ s.heap.objs.size := Nat.ne_of_lt (Heap.lt_size hol)
  have W := Walks.list (prog := prog) (w := w) hh s.heap.objs.size l hne vs.toArray
  rw [show vs.toArray.size = vs.length by simp] at W
  refine wpAny_pyIter_list hls (jat_name J W ⟨⟨_, Heap.get?_push_size _ rfl, rfl, rfl⟩, hls.at fun o e => Heap.get?_push_of_some _ e⟩ (fun i h st => ?_) (.head _) (fun b hb => ?_) F N hk hsz hkind hxa hJ ?_ hdone)
  · obtain ⟨⟨o, ho, _⟩, _⟩ := st
    exact ⟨o, ho⟩
  · rcases List.mem_cons.mp hb with rfl | hb
    · exact .inl rfl
    · rw [List.mem_singleton.mp hb]; exact .inr ⟨_, hl⟩
  · intro s₂ i v ys hs news' its C oC D m₂ h tk E' hi hP
    exact turn s₂ i v ys hs news' its C oC D m₂ h tk E' hi (by simpa using hP)
/-- over a text's signs -/
theorem jat_str {h₀ : Heap} {L : Addr} {m : Str → Option Value} {elt : PySem.Expr} {ifs : List PySem.Expr} {a : Str} {px : Pos} {scope : Scope} {cl : List (Str × Addr)} {done : Shared → List Value → Lst → Prop} {x : Str} {t : Tok} {news : Lst} (J : Nat → List Value → Lst → Prop)
    (hh : A.handled = none) (ha : x.cps.all (· < 128) = true) (F : Fr h₀ L s.heap m) (N : News h₀ L s.heap news) (hsz : x.cps.size ≤ sizeLine)
    (hkind : scope.kind = .function) (hxa : scope.names.lookup a = some .local) (hJ : J 0 [] news)
    (turn : ∀ (s₂ : Shared) (i : Nat) c u ys hs news' its C oC D m₂ h tk (E' : Value → Shared → Prop), x.cps[i]? = some c → m₂ a = some (.str ⟨#[c]⟩ u) → J i ys news' → ys.length ≤ i → NsObj oC m₂ → its.map (·.1) = hs → (∀ p ∈ news', p.1 ∉ hs ∧ p.1 ≠ C ∧ p.1 ≠ D) → (∀ p ∈ its, p.1 ≠ C ∧ p.1 ≠ D) → C ≠ D →
      Fr h₀ L h m → News h₀ L h ((C, oC) :: (D, lst ys) :: (its ++ news')) →
      Tst prog w A ifs (compEnvC scope cl C env)
        (fun s₃ => wpAny (model prog w) A (eval elt (compEnvC scope cl C env)) (fun y => JEnd h₀ L m { s₂ with heap := h, toks := tk } hs ((C, oC) :: (D, lst ys) :: its) C D [] (J (i + 1) (ys ++ [y]))) E' s₃)
        (JEnd h₀ L m { s₂ with heap := h, toks := tk } hs ((C, oC) :: (D, lst ys) :: its) C D [] (J (i + 1) ys)) E' { s₂ with heap := h, toks := tk })
    (hdone : ∀ g ys news', J x.cps.size ys news' → done { s with heap := g } ys news') :
    wpAny (model prog w) A (pyIter (.str x t)) (JAt prog w A h₀ L m env elt (.Name a px) ifs scope cl done) E s := by
  refine wpAny_pyIter_ascii ha (jat_name J (Walks.strAscii hh _ x t) ⟨_, Heap.get?_push_size _ rfl, rfl, rfl⟩ (fun i h st => ?_) (.head _) (fun b hb => .inl (List.mem_singleton.mp hb)) F N (List.forall_mem_nil _) hsz hkind hxa hJ ?_ fun g ys news' _ h => hdone g ys news' h)
  · obtain ⟨o, ho, _⟩ := st
    exact ⟨o, ho⟩
  · rintro s₂ i v ys hs news' its C oC D m₂ h tk E' hi ⟨c, u, hc, rfl⟩ h1 h2 h3 _ h4
    exact turn s₂ i c u ys hs news' its C oC D m₂ h tk E' hc h1 h2 h3 h4
end
/-- the names that the law draws -/
def nms : List Str := ["T", "u", "v", "t", "U", "zz", "a", "B", "b", "c", "d"].map Str.ofString
def lowC (c : Nat) : Nat := if 65 ≤ c ∧ c ≤ 90 then c + 32 else c
def lowS (c : Nat) : Str := ⟨#[lowC c]⟩
def nmOk (s : Str) : Bool := s.cps.all (· < 128) && decide (s.cps.size ≤ 2) && PyData.strOk s && decide (Txt.join (Str.ofString "") (s.cps.toList.map lowS) = Txt.lower s) && PyData.strOk (Txt.lower s)
theorem nms_ok : ∀ s ∈ nms, nmOk s = true := by decide +kernel
structure Nm (s : Str) : Prop where
  ascii : s.cps.all (· < 128) = true
  short : s.cps.size ≤ 2
  ok : PyData.strOk s = true
  low : Txt.join (Str.ofString "") (s.cps.toList.map lowS) = Txt.lower s
  okl : PyData.strOk (Txt.lower s) = true
theorem nm_of {s : Str} (h : s ∈ nms) : Nm s := by
  have := nms_ok s h
  simp only [nmOk, Bool.and_eq_true, decide_eq_true_eq] at this
  obtain ⟨⟨⟨⟨h1, h2⟩, h3⟩, h4⟩, h5⟩ := this
  exact ⟨h1, h2, h3, h4, h5⟩
theorem le_sign {prog : Program} {w : World} {A : Around} {E : Value → Shared → Prop} {s : Shared} {a c : Nat} {t u : Tok} {Q : Value → Shared → Prop} (h : Q (.bool (decide (a ≤ c))) s) : wpAny (model prog w) A (compareOp .LtE (.str ⟨#[a]⟩ t) (.str ⟨#[c]⟩ u)) Q E s := by
  refine PySem.P.le_str ?_
  have e : (!decide ((⟨#[c]⟩ : Str).cps.toList < (⟨#[a]⟩ : Str).cps.toList)) = decide (a ≤ c) := by
    show (!decide ([c] < [a])) = decide (a ≤ c)
    by_cases q : a ≤ c
    · rw [decide_eq_true q, decide_eq_false (fun z => by
        rcases List.cons_lt_cons_iff.mp z with z | ⟨_, z⟩
        · exact Nat.not_lt.mpr q z
        · exact absurd z (List.not_lt_nil _))]
      rfl
    · rw [decide_eq_false q, decide_eq_true (List.cons_lt_cons_iff.mpr (.inl (Nat.not_le.mp q)))]
      rfl
  rw [e]
  exact h
theorem str_A : Str.ofString "A" = ⟨#[65]⟩ := by decide +kernel
theorem str_Z : Str.ofString "Z" = ⟨#[90]⟩ := by decide +kernel
theorem le_A {prog : Program} {w : World} {A : Around} {E : Value → Shared → Prop} {s : Shared} {c : Nat} {t u : Tok} {Q : Value → Shared → Prop} (h : Q (.bool (decide (65 ≤ c))) s) : wpAny (model prog w) A (compareOp .LtE (.str (Str.ofString "A") t) (.str ⟨#[c]⟩ u)) Q E s := by
  rw [str_A]; exact le_sign h
theorem le_Z {prog : Program} {w : World} {A : Around} {E : Value → Shared → Prop} {s : Shared} {c : Nat} {t u : Tok} {Q : Value → Shared → Prop} (h : Q (.bool (decide (c ≤ 90))) s) : wpAny (model prog w) A (compareOp .LtE (.str ⟨#[c]⟩ u) (.str (Str.ofString "Z") t)) Q E s := by
  rw [str_Z]; exact le_sign h
theorem low_up {c : Nat} (h1 : 65 ≤ c) (h2 : c ≤ 90) : (⟨#[((c : Int) + 32).toNat]⟩ : Str) = lowS c := by
  unfold lowS lowC
  rw [if_pos ⟨h1, h2⟩, show ((c : Int) + 32).toNat = c + 32 by omega]
theorem low_no {c : Nat} (h : ¬ (65 ≤ c ∧ c ≤ 90)) : (⟨#[c]⟩ : Str) = lowS c := by
  unfold lowS lowC
  rw [if_neg h]
theorem low_sum : ∀ l : List Nat, ((l.map lowS).map (·.length)).sum = l.length
  | [] => rfl
  | c :: l => by
    rw [List.map_cons, List.map_cons, List.sum_cons, low_sum l, List.length_cons, show (lowS c).length = 1 from rfl, Nat.add_comm]
theorem strs_snoc {vs : List Value} {ys : List Str} {x : Str} {t : Tok} (h : StrsAre vs ys) : StrsAre (vs ++ [.str x t]) (ys ++ [x]) := StrsAre.append' h (.cons _ _ .nil)
structure FoldOn : Prop where
theorem words14_19 : True := by
  k_with "@eval ListComp" => ((rename Halt => halt); refine stop_of ?_)
  k_with "@compareOp LtE str str" => ((rename FoldOn => fo9); with_reducible first | refine le_A ?_ | refine le_Z ?_)
  trivial
section
variable {prog : Program} {w : World} {p : Program} {loose : List Str} {mean : ExcName → Option Value} {mg mb : Str → Option Value}
theorem fold_ok {x : Str} (hx : Nm x) (t : Tok) : ReadC prog w p loose mean mg mb 890 569 [.str x t] [] (fun _ r => ∃ t', r = .str (Txt.lower x) t') := by
  unfold ReadC
  intro dp un gd cn cs a ccd cl outer A₀ base h₀ L m news s Q E B F X N T hk hdp hun hsub ret
  refine wpAny_call ?_
  k_dflt (refine' enter [(Str.ofString "name", .str x t)] ?k1 ?k2 ?k3 ?k4 ?k5 ?kA ?kF ?kK ?k6 ?k7 ?k8 ?k9 ?kB ?_ ?c2 ?c3 ?c4 ?c5; walk_at "m_enter")
  have halt : Halt := ⟨⟩
  have fo9 : FoldOn := ⟨⟩
  k_steps
  refine ⟨?_⟩
  refine jc_ListComp (by decide) (by k_asm) (by rfl) (by decide) (by rfl) (by decide) ?_
  k_steps
  refine jat_str (fun i ys nw' => nw' = news ∧ StrsAre ys ((x.cps.toList.take i).map lowS)) rfl hx.ascii (by k_asm) (by k_asm) (Nat.le_trans hx.short (Nat.le_of_ble_eq_true rfl)) rfl (by rfl) ⟨rfl, .nil⟩ ?turn ?done
  case turn =>
    rintro s₂ i c u ys hs news' its C oC D m₂ h tk E' hc hm ⟨rfl, hys⟩ - hNs hmap off offI hCD F' N'
    have hc9 : c < 128 := by simpa using Array.all_eq_true_iff_forall_mem.mp hx.ascii c (Array.mem_of_getElem? hc)
    have hct : x.cps.toList[i]? = some c := by simpa using hc
    refine (show wpAny _ _ _ _ _ _ from ?_)
    k_steps
    all_goals (refine jEnd_of (by k_asm) (by k_asm) (fun _ h => h) off (List.forall_mem_nil _) ⟨rfl, ?_⟩)
    all_goals (rw [take_snoc hct, List.map_append])
    all_goals first
      | (rw [low_up (by assumption) (by assumption)]; exact strs_snoc hys)
      | (rw [low_no (by omega)]; exact strs_snoc hys)
  case done =>
    rintro g ys news' ⟨rfl, hys⟩ D h tk F' N' offD
    k_steps
    rw [List.take_of_length_le (Nat.le_of_eq Array.length_toList)] at hys
    have hz := hx.short
    refine PyProof.Rows.join_listW ⟨_, (N' _ (.head _)).1, rfl, _, rfl⟩ (by simpa [LCg.lst] using hys) (by decide +kernel) (by rw [low_sum, List.length_map, Array.length_toList]; omega) fun t' k => ?_
    k_steps
    exact ret _ _ _ _ (by k_asm) (fin_read (by k_asm) (by walk_at "m_splitR")) (by walk_at "m_far") ⟨_, congrArg (fun z => Value.str z _) hx.low⟩
end

/-! the star: the sources -/
/-- an expression whose ways meet -/
def JoinE (h₀ : Heap) (L : Addr) (m : Str → Option Value) (s₀ : Shared) (rest : Value → Lst → Prop) (v : Value) (s' : Shared) : Prop :=
  ∃ h' tk' nw', s' = { s₀ with heap := h', toks := tk' } ∧ Fr h₀ L h' m ∧ News h₀ L h' nw' ∧ rest v nw'
theorem joinE {M : Model} {A : Around} {E : Value → Shared → Prop} {s : Shared} {t : Sem Value} {Q : Value → Shared → Prop} {h₀ : Heap} {L : Addr} {m : Str → Option Value} (_F : Fr h₀ L s.heap m) (rest : Value → Lst → Prop)
    (go : wpAny M A t (JoinE h₀ L m s rest) E s) (k : ∀ v h' tk' nw', Fr h₀ L h' m → News h₀ L h' nw' → rest v nw' → Q v { s with heap := h', toks := tk' }) : wpAny M A t Q E s :=
  wpAny_mono go (fun v s' ⟨h', tk', nw', e2, F, N, r⟩ => by subst e2; exact k v h' tk' nw' F N r) fun _ _ e => e
theorem joinE_mk {h₀ : Heap} {L : Addr} {m : Str → Option Value} {s₀ : Shared} {rest : Value → Lst → Prop} {v : Value} {h' : Heap} {tk' : Nat} {nw' : Lst} (F : Fr h₀ L h' m) (N : News h₀ L h' nw') (r : rest v nw') : JoinE h₀ L m s₀ rest v { s₀ with heap := h', toks := tk' } := ⟨h', tk', nw', rfl, F, N, r⟩
theorem re_loop {prog : Program} {w : World} {A : Around} {E : Value → Shared → Prop} {s : Shared} {env : Env} {h₀ : Heap} {a b : Str} {pa pb tp : Pos} {kk : Nat} {body : List Stmt} {Q : Flow → Shared → Prop} {I ax : Addr} {lo : Obj} {vs : List Value} {m₀ : Str → Option Value} {news₀ : Lst}
    (hh : A.handled = none) (ha : env.kindOf a = some .local) (hb : env.kindOf b = some .local) (hp : (env.scope.kind == .class || (env.scope.kind == .module && env.locals != env.globals)) = false)
    (J : Nat → (Str → Option Value) → Lst → Prop) (hJ : J 0 m₀ news₀)
    (stop : ∀ m nw, J vs.length m nw → ∀ h tk, Fr h₀ env.locals h m → News h₀ env.locals h nw → Q .next { s with heap := h, toks := tk })
    (turn : ∀ (i : Nat) v m nw, vs[i]? = some v → J i m nw → ∀ (t : Tok) (ie il : Obj) h tk, ie.cls = .type "enumerate" → il.cls = .type "list_iterator" → Fr h₀ env.locals h (fun z => if z = b then some v else if z = a then some (.int (i : Int) t) else m z) → News h₀ env.locals h ((I + 1, ie) :: (I, il) :: nw) →
      wpAny (model prog w) A (execs body env) (UnrPostW h₀ env.locals { s with heap := h, toks := tk } [(I + 1, ie), (I, il)] (fun m' n' => (ax, lo) ∈ n' ∧ J (i + 1) m' n') Q) E { s with heap := h, toks := tk }) :
    ItemsRest prog w A E h₀ env (.Tuple [.Name a pa, .Name b pb] kk tp) body Q s [(I + 1, "enumerate"), (I, "list_iterator")] [(ax, lo)] (enumItems 0 vs) m₀ news₀ := by
  have go : ∀ (k i : Nat) m nw, k + i = vs.length → J i m nw → ItemsRest prog w A E h₀ env (.Tuple [.Name a pa, .Name b pb] kk tp) body Q s [(I + 1, "enumerate"), (I, "list_iterator")] [(ax, lo)] (enumItems i (vs.drop i)) m nw := by
    intro k
    induction k with
    | zero =>
      intro i m nw hk hj
      have : i = vs.length := by omega
      subst this
      rw [List.drop_length]
      exact ItemsRest.zero (stop m nw hj)
    | succ k ih =>
      intro i m nw hk hj
      have hlt : i < vs.length := by omega
      rw [List.drop_eq_getElem_cons hlt]
      refine ItemsRest.pair fun T t h tk hT F => AllObj.cons fun ie he => AllObj.cons fun il hl => AllObj.nil fun N => ?_
      refine kcp_assign hh hT ha hb hp F.ns fun h' tk' hn hs => ?_
      have hL₀ : h₀.get? env.locals = none := Heap.get?_none_of_le F.above
      refine wpAny_mono (turn i _ m nw (List.getElem?_eq_getElem hlt) hj t ie il h' tk' he hl ⟨hn, fun b o e => hs b o (fun q => by rw [q, hL₀] at e; cases e) (F.keep b o e), F.above⟩ (fun p hp => ⟨hs _ _ (N p hp).2.1 (N p hp).1, (N p hp).2⟩)) (fun f s₂ q => ?_) fun _ _ e => e
      cases f with
      | ret v => exact q
      | brk => exact q
      | next => obtain ⟨h', tk', m', n', e, F', N', o, hm, r⟩ := q; exact ⟨h', tk', m', n', e, F', N', o, ⟨hm, trivial⟩, ih _ _ _ (by omega) r⟩
      | cont => obtain ⟨h', tk', m', n', e, F', N', o, hm, r⟩ := q; exact ⟨h', tk', m', n', e, F', N', o, ⟨hm, trivial⟩, ih _ _ _ (by omega) r⟩
  exact go vs.length 0 m₀ news₀ rfl hJ
theorem unrW2_led {h₀ : Heap} {L I K ax : Addr} {it jt lo : Obj} {rest : (Str → Option Value) → Lst → Prop} {s₁ : Shared} {h' : Heap} {tk : Nat} {m' : Str → Option Value} {nw' : Lst} (F : Fr h₀ L h' m') (N : News h₀ L h' ((K, jt) :: (I, it) :: nw')) (o1 : ∀ p ∈ nw', p.1 ≠ K) (o2 : ∀ p ∈ nw', p.1 ≠ I) (hm : (ax, lo) ∈ nw') (r : rest m' nw') : UnrEndW h₀ L s₁ [(K, jt), (I, it)] (fun m' n' => (ax, lo) ∈ n' ∧ rest m' n') { s₁ with heap := h', toks := tk } :=
  ⟨h', tk, m', nw', rfl, F, N, fun p hp q hq => by
    rcases List.mem_cons.mp hq with rfl | hq
    · exact o1 p hp
    · rw [List.mem_singleton.mp hq]; exact o2 p hp, hm, r⟩
structure SrcD where
  num : Nat
  al : Str
  cols : List Str
  us : List Str
structure SOk (d : SrcD) : Prop where
  al : Nm d.al
  cols : ∀ c ∈ d.cols, Nm c
  few : d.cols.length ≤ 3
  us : d.us.length ≤ 2
def ColAt (nw : Lst) (v : Value) (c : Str) : Prop := ∃ (t : Addr) (n : Nat) (t1 t2 t3 : Tok), v = .ref t ∧ (t, ({ cls := .type "tuple", data := .seq #[.str c t1, .str (Str.ofString "text") t2, .str (Str.ofString "nocase") t3] n } : Obj)) ∈ nw
inductive ColsAt (nw : Lst) : List Value → List Str → Prop
  | nil : ColsAt nw [] []
  | cons {v : Value} {vs : List Value} {c : Str} {cs : List Str} : ColAt nw v c → ColsAt nw vs cs → ColsAt nw (v :: vs) (c :: cs)
theorem ColsAt.mono {nw nw' : Lst} {vs : List Value} {cs : List Str} (h : ColsAt nw vs cs) (hs : ∀ p ∈ nw, p.2.cls = .type "tuple" → p ∈ nw') : ColsAt nw' vs cs := by
  induction h with
  | nil => exact .nil
  | cons a _ ih => obtain ⟨t, n, t1, t2, t3, e, hm⟩ := a; exact .cons ⟨t, n, t1, t2, t3, e, hs _ hm rfl⟩ ih
theorem ColsAt.snoc {nw : Lst} {vs : List Value} {cs : List Str} {v : Value} {c : Str} (h : ColsAt nw vs cs) (k : ColAt nw v c) : ColsAt nw (vs ++ [v]) (cs ++ [c]) := by
  induction h with
  | nil => exact .cons k .nil
  | cons a _ ih => exact .cons a ih
theorem ColsAt.length {nw : Lst} {vs : List Value} {cs : List Str} (h : ColsAt nw vs cs) : vs.length = cs.length := by
  induction h with
  | nil => rfl
  | cons _ _ ih => rw [List.length_cons, List.length_cons, ih]
inductive ColO (nw : Lst) (cs : List Str) (i : Nat) (v : Value) : Prop
  | mk (c : Str) (hc : cs[i]? = some c) (t : Addr) (n : Nat) (t1 t2 t3 : Tok) : v = .ref t → (t, ({ cls := .type "tuple", data := .seq #[.str c t1, .str (Str.ofString "text") t2, .str (Str.ofString "nocase") t3] n } : Obj)) ∈ nw → ColO nw cs i v
theorem ColsAt.get {nw : Lst} {vs : List Value} {cs : List Str} (h : ColsAt nw vs cs) : ∀ {i : Nat} {v : Value}, vs[i]? = some v → ColO nw cs i v := by
  induction h with
  | nil => intro i v e; simp at e
  | @cons u us c cs a _ ih =>
    intro i v h
    cases i with
    | zero =>
      obtain rfl := Option.some.inj (show some u = some v from h)
      obtain ⟨t, n, t1, t2, t3, e, hm⟩ := a
      exact ⟨c, rfl, t, n, t1, t2, t3, e, hm⟩
    | succ i =>
      obtain ⟨c', hc, t, n, t1, t2, t3, e, hm⟩ := ih (show us[i]? = some v from h)
      exact ⟨c', hc, t, n, t1, t2, t3, e, hm⟩
abbrev srcO (P : Params) (τ : Nat → Tok) (num : Int) (al : Str) (cl ul : Addr) : Obj :=
  dictOf [ent P (Str.ofString "number") (τ 1) (.int num (τ 11)), ent P (Str.ofString "alias") (τ 2) (.str al (τ 12)), ent P (Str.ofString "table") (τ 3) (.str (Str.ofString "a table") (τ 13)), ent P (Str.ofString "columns") (τ 4) (.ref cl), ent P (Str.ofString "select") (τ 5) .none, ent P (Str.ofString "kind") (τ 6) (.str (Str.ofString "inner") (τ 16)), ent P (Str.ofString "hint") (τ 7) .none, ent P (Str.ofString "on") (τ 8) .none, ent P (Str.ofString "using") (τ 9) (.ref ul)] 9
inductive SrcAt (P : Params) (nw : Lst) : Addr → SrcD → Prop
  | mk {x dx cl ul : Addr} {τ : Nat → Tok} {num : Nat} {al : Str} {cols us : List Str} {cvs uvs : List Value} {ncl nul : Nat} : (x, instObj 619 dx) ∈ nw → (dx, srcO P τ num al cl ul) ∈ nw → (cl, listOf cvs.toArray ncl) ∈ nw → ColsAt nw cvs cols → (ul, listOf uvs.toArray nul) ∈ nw → StrsAre uvs us → SrcAt P nw x ⟨num, al, cols, us⟩
theorem SrcAt.mono {P : Params} {nw nw' : Lst} {x : Addr} {d : SrcD} (h : SrcAt P nw x d) (hs : ∀ p ∈ nw, p ∈ nw') : SrcAt P nw' x d := by
  cases h with
  | mk a b c d e f => exact .mk (hs _ a) (hs _ b) (hs _ c) (d.mono fun p hp _ => hs p hp) (hs _ e) f
inductive Srcs (P : Params) (nw : Lst) : List Addr → List SrcD → Prop
  | nil : Srcs P nw [] []
  | cons {x : Addr} {xs : List Addr} {d : SrcD} {ds : List SrcD} : SrcAt P nw x d → SOk d → Srcs P nw xs ds → Srcs P nw (x :: xs) (d :: ds)
theorem Srcs.mono {P : Params} {nw nw' : Lst} {xs : List Addr} {ds : List SrcD} (h : Srcs P nw xs ds) (hs : ∀ p ∈ nw, p ∈ nw') : Srcs P nw' xs ds := by
  induction h with
  | nil => exact .nil
  | cons a o _ ih => exact .cons (a.mono hs) o ih
theorem Srcs.snoc {P : Params} {nw : Lst} {xs : List Addr} {ds : List SrcD} {x : Addr} {d : SrcD} (h : Srcs P nw xs ds) (k : SrcAt P nw x d) (o : SOk d) : Srcs P nw (xs ++ [x]) (ds ++ [d]) := by
  induction h with
  | nil => exact .cons k o .nil
  | cons a o' _ ih => exact .cons a o' ih
theorem Srcs.length {P : Params} {nw : Lst} {xs : List Addr} {ds : List SrcD} (h : Srcs P nw xs ds) : xs.length = ds.length := by
  induction h with
  | nil => rfl
  | cons _ _ _ ih => rw [List.length_cons, List.length_cons, ih]
theorem Srcs.get {P : Params} {nw : Lst} {xs : List Addr} {ds : List SrcD} (h : Srcs P nw xs ds) : ∀ {i : Nat} {x : Addr}, xs[i]? = some x → ∃ d, ds[i]? = some d ∧ SrcAt P nw x d ∧ SOk d := by
  induction h with
  | nil => intro i v e; simp at e
  | @cons u us d ds a o _ ih =>
    intro i v h
    cases i with
    | zero => exact ⟨d, rfl, by simpa using (Option.some.inj h) ▸ a, o⟩
    | succ i => exact ih h
/-- one entry taken out by its address -/
def dropA (dx : Addr) (V : Lst) : Lst := V.filter fun p => p.1 != dx
theorem dropA_sub {dx : Addr} {V : Lst} : ∀ p ∈ dropA dx V, p ∈ V := fun _ h => (List.mem_filter.mp h).1
theorem dropA_ne {dx : Addr} {V : Lst} : ∀ p ∈ dropA dx V, p.1 ≠ dx := fun _ h => by simpa using (List.mem_filter.mp h).2
theorem dropA_mem {dx : Addr} {V : Lst} {p : Addr × Obj} (h : p ∈ V) (hn : p.1 ≠ dx) : p ∈ dropA dx V := List.mem_filter.mpr ⟨h, by simpa using hn⟩
theorem dropA_ne2 {dx a : Addr} {V : Lst} (h : ∀ q ∈ V, q.1 ≠ a) : ∀ q ∈ dropA dx V, q.1 ≠ a := fun q hq => h q (dropA_sub q hq)
theorem same_at {h₀ h : Heap} {L : Addr} {V : Lst} (N : News h₀ L h V) {a : Addr} {o o' : Obj} (m1 : (a, o) ∈ V) (m2 : (a, o') ∈ V) : o = o' := Option.some.inj ((N _ m1).1.symm.trans (N _ m2).1)
/-- the source that is told its USING -/
def setU (us : List Str) (ds : List SrcD) : List SrcD := ds.map fun d => if d.num = 1 then { d with us := us } else d
theorem srcO_num {P : Params} {τ τ' : Nat → Tok} {num k : Int} {al al' : Str} {cl cl' ul ul' : Addr} (h : srcO P τ num al cl ul = srcO P τ' k al' cl' ul') : num = k := by
  have := congrArg (fun o => match o.data with | .dict es _ => (match es.toList with | e :: _ => (match e.val with | .int k _ => k | _ => 0) | _ => 0) | _ => 0) h
  exact this
theorem ndictT : (Value.type "tuple") ≠ .type "dict" := fun e => absurd (Value.type.inj e) (by decide)
theorem ndictL : (Value.type "list") ≠ .type "dict" := fun e => absurd (Value.type.inj e) (by decide)
theorem ndictI {C : Addr} : (Value.ref C) ≠ .type "dict" := fun e => by cases e
theorem srcs_upd {P : Params} {h₀ h : Heap} {L : Addr} {V V2 : Lst} (N : News h₀ L h V) {x1 dx cl ul ul' : Addr} {τ τ' : Nat → Tok} {al : Str} {cols us : List Str} {cvs uvs : List Value} {ncl nul : Nat} (hx : (x1, instObj 619 dx) ∈ V) (hd : (dx, srcO P τ 1 al cl ul) ∈ V) (hc : (cl, listOf cvs.toArray ncl) ∈ V) (hcs : ColsAt V cvs cols)
    (sub : ∀ p ∈ V, p.1 ≠ dx → p ∈ V2) (hd' : (dx, srcO P τ' 1 al cl ul') ∈ V2) (hu : (ul', listOf uvs.toArray nul) ∈ V2) (hus : StrsAre uvs us) (hl : us.length ≤ 2) : ∀ {xs : List Addr} {ds : List SrcD}, Srcs P V xs ds → (∀ p ∈ xs.zip ds, p.2.num = 1 → p.1 = x1 ∧ p.2.al = al ∧ p.2.cols = cols) → Srcs P V2 xs (setU us ds) := by
  have keep : ∀ p ∈ V, p.2.cls ≠ .type "dict" → p ∈ V2 := fun p hp hc => sub p hp fun e => hc (by
    obtain ⟨a, o⟩ := p
    simp only at e
    subst e
    rw [same_at N hp hd])
  intro xs ds h
  induction h with
  | nil => exact fun _ => .nil
  | @cons x xs d ds a o _ ih =>
    intro hz
    refine .cons ?_ ?_ (ih fun p hp => hz p (.tail _ hp))
    · have hz0 := hz (x, d) (.head _)
      obtain ⟨num, al1, cols1, us1⟩ := d
      by_cases hn : num = 1
      · subst hn
        obtain ⟨e1, e2, e3⟩ := hz0 rfl
        simp only at e1 e2 e3
        subst e1 e2 e3
        exact .mk (keep _ hx ndictI) hd' (keep _ hc ndictL) (hcs.mono fun p hp hc => keep p hp (by rw [hc]; exact ndictT)) hu hus
      · simp only [hn, if_false]
        cases a with
        | mk a1 a2 a3 a4 a5 a6 =>
        refine .mk (keep _ a1 ndictI) (sub _ a2 ?_) (keep _ a3 ndictL) (a4.mono fun p hp hc => keep p hp (by rw [hc]; exact ndictT)) (keep _ a5 ndictL) a6
        intro e
        simp only at e
        subst e
        have := srcO_num (same_at N a2 hd)
        omega
    · by_cases hn : d.num = 1
      · simp only [if_pos hn]
        exact ⟨o.al, o.cols, o.few, hl⟩
      · simp only [if_neg hn]
        exact o

/-! _law_sources -/
theorem nm_T : Nm (Str.ofString "T") := nm_of (by decide +kernel)
theorem nm_u : Nm (Str.ofString "u") := nm_of (by decide +kernel)
theorem nm_v : Nm (Str.ofString "v") := nm_of (by decide +kernel)
theorem nm_a : Nm (Str.ofString "a") := nm_of (by decide +kernel)
theorem nm_B : Nm (Str.ofString "B") := nm_of (by decide +kernel)
theorem nm_b : Nm (Str.ofString "b") := nm_of (by decide +kernel)
theorem nm_c : Nm (Str.ofString "c") := nm_of (by decide +kernel)
theorem nm_d : Nm (Str.ofString "d") := nm_of (by decide +kernel)
theorem pick_names {prog : Program} {w : World} {A : Around} {E : Value → Shared → Prop} {s : Shared} {h₀ : Heap} {L : Addr} {led : Lst} {value slice : PySem.Expr} {l a b c : Addr} {n n1 n2 n3 : Nat} {k : Int} {u t1 t2 t3 t4 t5 t6 : Tok} {Q : Value → Shared → Prop} (N : News h₀ L s.heap led) (hm : (l, listOf #[Value.ref a, .ref b, .ref c] n) ∈ led)
    (ha : (a, listOf #[Value.str (Str.ofString "a") t1, .str (Str.ofString "B") t2] n1) ∈ led) (hb : (b, listOf #[Value.str (Str.ofString "b") t3] n2) ∈ led) (hc : (c, listOf #[Value.str (Str.ofString "c") t4, .str (Str.ofString "a") t5, .str (Str.ofString "d") t6] n3) ∈ led) (h0 : 0 ≤ k) (h2 : k < 3)
    (h : ∀ d vs ns n', (d, listOf vs.toArray n') ∈ led → StrsAre vs ns → (∀ c ∈ ns, Nm c) → ns.length ≤ 3 → Q (.ref d) s) (hs : subscripted slice false (.ref l) (.int k u) = operate [.ref l, .int k u] (getItem (.ref l) (.int k u)) := by with_unfolding_all rfl) :
    wpAny (model prog w) A (subscriptTail value slice (.ref l) (.int k u)) Q E s := by
  have hl : s.heap.IsList l [Value.ref a, .ref b, .ref c].toArray := ⟨_, (N _ hm).1, rfl, _, rfl⟩
  rcases (by omega : k = 0 ∨ k = 1 ∨ k = 2) with rfl | rfl | rfl
  · exact item_litK hl (by decide) (by decide) rfl (h _ [_, _] [_, _] _ ha (.cons _ _ (.cons _ _ .nil)) (List.forall_mem_cons.mpr ⟨nm_a, List.forall_mem_singleton.mpr nm_B⟩) (by decide)) hs
  · exact item_litK hl (by decide) (by decide) rfl (h _ [_] [_] _ hb (.cons _ _ .nil) (List.forall_mem_singleton.mpr nm_b) (by decide)) hs
  · exact item_litK hl (by decide) (by decide) rfl (h _ [_, _, _] [_, _, _] _ hc (.cons _ _ (.cons _ _ (.cons _ _ .nil))) (List.forall_mem_cons.mpr ⟨nm_c, List.forall_mem_cons.mpr ⟨nm_a, List.forall_mem_singleton.mpr nm_d⟩⟩) (by decide)) hs
section
variable (prog : Program) (w : World) (p : Program) (loose : List Str) (mean : ExcName → Option Value) (mg mb : Str → Option Value)
def SrcNew (num : Int) (tn : Tok) (al : Str) (ta tt : Tok) (cl : Addr) (tk : Tok) : Prop :=
  ∀ (dp un : Nat) (gd : Option (List Code)) (cn : Str) (cs : Scope) (a : Addr) (ccd : Value) (cl' : List (Str × Addr)) (outer : List Env) (A₀ : Around) (base h₀ : Heap) (L : Addr) (m : Str → Option Value) (news : Lst) (s : Shared)
    (Q E : Value → Shared → Prop),
    Below A₀ base outer h₀ → Fr h₀ L s.heap m → (top.heap_1_39 w.params).In h₀ → News h₀ L s.heap news → Top p loose mean mg mb h₀ → cs.kind = .function →
    dp < 900 → un < 5 * 900 →
    (∀ (x d ul : Addr) (τ : Nat → Tok) h' tk', Fr h₀ L h' m → News h₀ L h' ((ul, listOf #[] 0) :: (x, instObj 619 d) :: (d, srcO w.params τ num al cl ul) :: news) → (∀ p ∈ news, p.1 < d) → @LT.lt Nat _ d x → @LT.lt Nat _ x ul → Q (.ref x) { s with heap := h', toks := tk' }) →
    wpAny (model prog w) (ktrTop dp un gd cn cs L a ccd cl' outer) (call (.ref 619) [.int num tn, .str al ta, .str (Str.ofString "a table") tt, .ref cl, .none, .str (Str.ofString "inner") tk, .none]) Q E s
end
section
variable {prog : Program} {w : World} {p : Program} {loose : List Str} {mean : ExcName → Option Value} {mg mb : Str → Option Value}
theorem src_new (num : Int) (tn : Tok) (al : Str) (ta tt : Tok) (cl : Addr) (tk : Tok) : SrcNew prog w p loose mean mg mb num tn al ta tt cl tk := by
  unfold SrcNew
  intro dp un gd cn cs a ccd cl' outer A₀ base h₀ L m news s Q E B F X N T hk hdp hun ret
  k_dflt (refine' call_cls ?k1 ?k2 ?k3 ?k4 ?k5 ?k6 ?_; (case k1 => k_asm); (case k2 => k_asm); (case k3 => k_asm); (case k4 => k_is); (case k5 => k_is); (case k6 => k_is); k_whole; intro x' d' h' F' N' l1 l2)
  have l0 := l1
  have l3 := allLt_of l1
  k_lt2 l2
  k_dflt (refine' enter [(Str.ofString "self", .ref x'), (Str.ofString "number", .int num tn), (Str.ofString "alias", .str al ta), (Str.ofString "table", .str (Str.ofString "a table") tt), (Str.ofString "columns", .ref cl), (Str.ofString "select", .none), (Str.ofString "kind", .str (Str.ofString "inner") tk), (Str.ofString "hint", .none)] ?k1 ?k2 ?k3 ?k4 ?k5 ?kA ?kF ?kK ?k6 ?k7 ?k8 ?k9 ?kB ?_ ?c2 ?c3 ?c4 ?c5; walk_at "m_enter")
  k_steps
  refine ret _ _ _ (tks [0, _, _, _, _, _, _, _, _, _, 0, _, _, _, 0, 0, _]) _ _ (by k_asm) (by k_asm) (by assumption) (by assumption) ?_
  rename AllLt _ _ => q9
  exact q9.1
end
theorem SrcNew.use {prog : Program} {w : World} {p : Program} {loose : List Str} {mean : ExcName → Option Value} {mg mb : Str → Option Value} {num : Int} {tn : Tok} {al : Str} {ta tt : Tok} {cl : Addr} {tk : Tok} {dp un : Nat} {gd : Option (List Code)} {cn : Str} {cs : Scope} {a : Addr} {ccd : Value} {cl' : List (Str × Addr)} {outer : List Env} {A₀ : Around} {base h₀ : Heap} {L : Addr} {m : Str → Option Value} {news : Lst} {s : Shared} {Q E : Value → Shared → Prop}
    (c : SrcNew prog w p loose mean mg mb num tn al ta tt cl tk) (B : Below A₀ base outer h₀) (F : Fr h₀ L s.heap m) (X : (top.heap_1_39 w.params).In h₀) (N : News h₀ L s.heap news) (T : Top p loose mean mg mb h₀) (hk : cs.kind = .function) (hdp : dp < 900) (hun : un < 5 * 900)
    (ret : ∀ (x d ul : Addr) (τ : Nat → Tok) h' tk', Fr h₀ L h' m → News h₀ L h' ((ul, listOf #[] 0) :: (x, instObj 619 d) :: (d, srcO w.params τ num al cl ul) :: news) → (∀ p ∈ news, p.1 < d) → @LT.lt Nat _ d x → @LT.lt Nat _ x ul → Q (.ref x) { s with heap := h', toks := tk' }) :
    wpAny (model prog w) (ktrTop dp un gd cn cs L a ccd cl' outer) (call (.ref 619) [.int num tn, .str al ta, .str (Str.ofString "a table") tt, .ref cl, .none, .str (Str.ofString "inner") tk, .none]) Q E s := c _ _ _ _ _ _ _ _ _ _ _ _ _ _ _ _ _ _ B F X N T hk hdp hun ret
inductive AlsR (pa fl : Addr) (news : Lst) (v : Value) (nw : Lst) : Prop
  | mk {l : Addr} {avs : List Value} {als : List Str} {na : Nat} {x1 y1 : Int} {tx1 ty1 : Tok} {n1 : Nat} {Z : Lst} : v = .ref l → nw = (pa, src x1 y1 tx1 ty1 n1) :: (fl, listOf #[] 0) :: (Z ++ news) → StrsAre avs als → (∀ c ∈ als, Nm c) → als.length ≤ 3 → PoolOk x1 y1 → (∀ q ∈ Z, q.1 ≠ pa) → (∀ q ∈ Z, q.1 ≠ fl) → Far Z news → (l, listOf avs.toArray na) ∈ Z → AlsR pa fl news v nw
inductive SrcJ (P : Params) (pa fl I : Addr) (news Z : Lst) (base : Str → Option Value) (i : Nat) (m : Str → Option Value) (nw : Lst) : Prop
  | mk {u : Str → Option Value} {xs : List Addr} {ds : List SrcD} {nf : Nat} {x2 y2 : Int} {tx2 ty2 : Tok} {n2 : Nat} {V : Lst} : m = (fun z => if z = Str.ofString "number" then u z else if z = Str.ofString "alias" then u z else if z = Str.ofString "names" then u z else if z = Str.ofString "columns" then u z else base z) → nw = (pa, src x2 y2 tx2 ty2 n2) :: (fl, listOf (xs.map Value.ref).toArray nf) :: (V ++ news) →
      PoolOk x2 y2 → Srcs P V xs ds → xs.length = i → (∀ (j : Nat) (d : SrcD), ds[j]? = some d → d.num = j) → (∀ q ∈ V, q.1 ≠ pa) → (∀ q ∈ V, q.1 ≠ fl) → (∀ q ∈ V, q.1 ≠ I) → (∀ q ∈ V, q.1 ≠ I + 1) → Far V news → (∀ q ∈ Z, q ∈ V) → SrcJ P pa fl I news Z base i m nw
inductive ColJ (led : Lst) (ns : List Str) (j : Nat) (ys : List Value) (nw : Lst) : Prop
  | mk {W : Lst} : nw = W ++ led → Far W led → ys.length = j → ColsAt W ys (ns.take j) → ColJ led ns j ys nw
structure Split4 : Prop where
structure MeetOn : Prop where
structure NamesOn : Prop where
structure GetAs : Prop where
theorem slice_m {prog : Program} {w : World} {A : Around} {E : Value → Shared → Prop} {h₀ : Heap} {L l : Addr} {m : Str → Option Value} {news : Lst} {h : Heap} {gn : Array GenState} {dr : Drawn} {tk : Nat} {os : OsState} {its : Array Value} {zs : List Value} {vl vu : Value} {lo hi : Option Int} {value slice : PySem.Expr} {Q : Value → Shared → Prop}
    (F : Fr h₀ L h m) (N : News h₀ L h news) (hl : h.IsList l its) (pl : IsPart vl lo) (pu : IsPart vu hi) (e : (slicePick its lo hi none).toList = zs)
    (k : ∀ D h', Fr h₀ L h' m → News h₀ L h' ((D, listOf zs.toArray 0) :: news) → (∀ p ∈ news, p.1 < D) → Q (.ref D) ⟨h', gn, dr, tk, os⟩)
    (hs : subscripted slice false (.ref l) (.ref h.objs.size) = operate [.ref h.objs.size, .ref l] (getItem (.ref l) (.ref h.objs.size))) (ht : ∀ r, letTemporaryGo value (.ref l) r = pure ()) (hz : its.size ≤ sizeLine) :
    wpAny (model prog w) A (subscriptTail value slice (.ref l) (.ref h.objs.size)) Q E ⟨h.push { cls := .type "slice", data := .fields #[vl, vu, .none] }, gn, dr, tk, os⟩ :=
  kmk_slice_lit (s := ⟨h, gn, dr, tk, os⟩) F N hl pl pu e k hs ht hz
theorem set_using {prog : Program} {w : World} {A : Around} {E : Value → Shared → Prop} {s : Shared} {h₀ : Heap} {L x dx cl ul ul' : Addr} {m : Str → Option Value} {led rest : Lst} {τ : Nat → Tok} {num : Int} {al : Str} {Q : Unit → Shared → Prop}
    (F : Fr h₀ L s.heap m) (X : (top.heap_1_39 w.params).In h₀) (N : News h₀ L s.heap led) (hx : (x, instObj 619 dx) ∈ led) (P : Pull dx (srcO w.params τ num al cl ul) led rest) (hxd : @Ne Nat x dx) (off : ∀ q ∈ rest, q.1 ≠ dx)
    (h : ∀ h' tk', Fr h₀ L h' m → News h₀ L h' ((dx, srcO w.params τ num al cl ul') :: rest) → Q () { s with heap := h', toks := tk' }) : wpAny (model prog w) A (setAttr (.ref x) (Str.ofString "using") (.ref ul')) Q E s := by
  have N2 : News h₀ L s.heap ((dx, srcO w.params τ num al cl ul) :: rest) := fun q hq => N q (P.sub q hq)
  refine' set_dict (K := top.heap_1_39 w.params) (C := 619) (n := 9) (n' := 9) F X N2 (InstAt.of_news N hx (P.sub _ (.head _))) rfl ?k6 ?k7 ?k8 ?k9 ?k10 ?k11 (Upd.head off) ?k13 fun h' F' N' => h h' _ F' N'
  case k6 => k_is
  case k7 => k_is
  case k8 => k_is
  case k9 => k_is
  case k10 => k_get
  case k11 => k_put
  case k13 => exact Nat.le_of_ble_eq_true rfl
/-- what _law_sources gives -/
inductive SrcsR (P : Params) (nw : Lst) (r : Value) : Prop
  | mk (l : Addr) (xs : List Addr) (n : Nat) (ds : List SrcD) : r = .ref l → (l, listOf (xs.map Value.ref).toArray n) ∈ nw → Srcs P nw xs ds → xs.length ≤ 3 → SrcsR P nw r
theorem srcs_end {P : Params} {nw : Lst} {l : Addr} {xs : List Addr} {n : Nat} {ds : List SrcD} {us : List Str} (h1 : (l, listOf (xs.map Value.ref).toArray n) ∈ nw) (h2 : Srcs P nw xs (setU us ds)) (h3 : xs.length ≤ 3) : SrcsR P nw (.ref l) := ⟨l, xs, n, _, rfl, h1, h2, h3⟩
theorem words16_20 : True := by
  k_with "@call ref" => (
      k_here; (rename Split4 => st9); (with_reducible show wpAny _ _ (call (Value.ref 720) [Value.ref _, Value.int 4 _]) _ _ _);
      k_dflt (refine' take_ok ?t1 ?t2 ?B ?F ?X ?N ?P ?A ?T ?K ?O ?D ?U ?_; walk_at "m_take"); (rcases (show v9 = 0 ∨ v9 = 1 ∨ v9 = 2 ∨ v9 = 3 by omega) with e9 | e9 | e9 | e9) <;> subst e9 <;> (try dsimp only) <;> (try k_fold))
  k_with "@subscriptTail Name Slice ref ref" => (
      (rename Split4 => st9); k_here
      k_dflt (refine' slice_m ?hF ?hN ?hl ?hp ?hq ?he ?_ ?hs ?ht ?hz; (case hF => k_asm); (case hN => k_asm); (case hl => kmk_list); (case hp => kmk_part); (case hq => kmk_part); (case he => kl_lit); (case hs => with_unfolding_all rfl); (case ht => kmk_pure); (case hz => kmk_size))
      intro D' h' F' N' l1; (try k_lt l1))
  k_with "@m_forget2" => (repeat (with_reducible rename AllLt _ _ => zz9; clear zz9))
  k_with "@subscriptTail Name Constant ref int" => (
      k_here; (rename GetAs => ga9); (with_reducible show wpAny _ _ (subscriptTail _ _ (Value.ref _) (Value.int _ _)) _ _ _)
      (with_unfolding_all refine' item_memK ?iN ?im ?i0 ?ik ?ix ?_ ?is; (case iN => k_asm); (case ix => with_reducible assumption); (case im => k_mem); (case i0 => decide); (case ik => decide); (case is => with_unfolding_all rfl)); (try dsimp only))
  k_with "@setAttr ref" => (
      (rename GetAs => ga9); k_here
      k_dflt (refine' set_using ?sF ?sX ?sN ?sx ?sP ?sd ?so ?_; (case sF => k_asm); (case sX => k_asm); (case sN => k_asm); (case sx => k_mem); (case sP => walk_at "m_pull"); (case sd => with_reducible assumption); (case so => k_all))
      intro h' tk' F' N'; (try dsimp only))
  k_with "@eval Subscript" => ((rename MeetOn => mt9); refine stop_of ?_)
  k_with "@call ref" => (
      k_here; (with_reducible show wpAny _ _ (call (Value.ref 619) _) _ _ _);
      k_dflt (refine' SrcNew.use (src_new _ _ _ _ _ _ _) ?B ?F ?X ?N ?T ?K ?D ?U ?_; (case B => k_asm); (case F => k_asm); (case X => k_asm); (case N => k_asm); (case T => k_asm); (case K => first | exact rfl | assumption); (case D => first | ktr_room | omega); (case U => first | ktr_units | omega));
      intro x' d' ul' τ' h' tk' F' N' l1 l2 l3; (have l4 := Nat.lt_trans l2 l3); (try k_lt l1); (try k_lt2 l2); (try k_lt2 l3); (try k_lt2 l4); (try dsimp only); (try k_fold))
  k_with "@subscriptTail" => (
      k_here; (rename NamesOn => no9); (with_reducible show wpAny _ _ (subscriptTail _ _ (Value.ref _) (Value.int _ _)) _ _ _)
      (with_unfolding_all refine' pick_names ?kN ?km ?ka ?kb ?kc ?k2 ?k3 ?_ ?k6; (case kN => k_asm); (case km => k_mem); (case ka => k_mem); (case kb => k_mem); (case kc => k_mem); (case k2 => omega); (case k3 => omega); (case k6 => with_unfolding_all rfl))
      intro nl8 vs8 ns8 nn8 nm8 sa8 nn9 nz9; (try dsimp only))
  trivial
def Csources_ok.pack : { P : CxP // (∀ prog w p loose mean mg mb dp un gd cn cs a ccd cl outer A₀ base h₀ L m news s pa x y tx ty n Q E g' L' h' tk' o1 o2, P prog w p loose mean mg mb dp un gd cn cs a ccd cl outer A₀ base h₀ L m news s pa x y tx ty n Q E g' L' h' tk' o1 o2) → ∀ (prog : Program) (w : World) (p : Program) (loose : List Str) (mean : ExcName → Option Value) (mg mb : Str → Option Value), PoolC prog w p loose mean mg mb 850 725 (fun pa => [.ref pa]) [] (fun nw v => SrcsR w.params nw v) } := ⟨_, fun h prog w p loose mean mg mb => by
  unfold PoolC
  intro dp un gd cn cs a ccd cl outer A₀ base h₀ L m news s pa x y tx ty n Q E B F X N hoff T hk ok hdp hun hsub ret
  refine wpAny_call ?_
  k_dflt (refine' enter [(Str.ofString "source", .ref pa)] ?k1 ?k2 ?k3 ?k4 ?k5 ?kA ?kF ?kK ?k6 ?k7 ?k8 ?k9 ?kB ?_ ?c2 ?c3 ?c4 ?c5; walk_at "m_enterE")
  obtain ⟨tk', -⟩ : ∃ z : Nat, True := ⟨default, trivial⟩
  obtain ⟨o1, -⟩ : ∃ z : Obj, True := ⟨default, trivial⟩
  obtain ⟨o2, -⟩ : ∃ z : Obj, True := ⟨default, trivial⟩
  revert T'
  revert X'
  revert B'
  revert N'
  revert F'
  revert FG'
  revert ret
  revert hsub
  revert hun
  revert hdp
  revert ok
  revert hk
  revert T
  revert hoff
  revert N
  revert X
  revert F
  revert B
  exact h prog w p loose mean mg mb dp un gd cn cs a ccd cl outer A₀ base h₀ L m news s pa x y tx ty n Q E g' L' h' tk' o1 o2⟩
noncomputable def Csources_ok.c : Cx := bad Csources_ok.pack.1
noncomputable def Csources_ok.prog : Program := Csources_ok.c.prog
noncomputable def Csources_ok.w : World := Csources_ok.c.w
noncomputable def Csources_ok.p : Program := Csources_ok.c.p
noncomputable def Csources_ok.loose : List Str := Csources_ok.c.loose
noncomputable def Csources_ok.mean : ExcName → Option Value := Csources_ok.c.mean
noncomputable def Csources_ok.mg : Str → Option Value := Csources_ok.c.mg
noncomputable def Csources_ok.mb : Str → Option Value := Csources_ok.c.mb
noncomputable def Csources_ok.dp : Nat := Csources_ok.c.dp
noncomputable def Csources_ok.un : Nat := Csources_ok.c.un
noncomputable def Csources_ok.gd : Option (List Code) := Csources_ok.c.gd
noncomputable def Csources_ok.cn : Str := Csources_ok.c.cn
noncomputable def Csources_ok.cs : Scope := Csources_ok.c.cs
noncomputable def Csources_ok.a : Addr := Csources_ok.c.a
noncomputable def Csources_ok.ccd : Value := Csources_ok.c.ccd
noncomputable def Csources_ok.cl : List (Str × Addr) := Csources_ok.c.cl
noncomputable def Csources_ok.outer : List Env := Csources_ok.c.outer
noncomputable def Csources_ok.A₀ : Around := Csources_ok.c.A₀
noncomputable def Csources_ok.base : Heap := Csources_ok.c.base
noncomputable def Csources_ok.h₀ : Heap := Csources_ok.c.h₀
noncomputable def Csources_ok.L : Addr := Csources_ok.c.L
noncomputable def Csources_ok.m : Str → Option Value := Csources_ok.c.m
noncomputable def Csources_ok.news : Lst := Csources_ok.c.news
noncomputable def Csources_ok.s : Shared := Csources_ok.c.s
noncomputable def Csources_ok.pa : Addr := Csources_ok.c.pa
noncomputable def Csources_ok.x : Int := Csources_ok.c.x
noncomputable def Csources_ok.y : Int := Csources_ok.c.y
noncomputable def Csources_ok.tx : Tok := Csources_ok.c.tx
noncomputable def Csources_ok.ty : Tok := Csources_ok.c.ty
noncomputable def Csources_ok.n : Nat := Csources_ok.c.n
noncomputable def Csources_ok.Q : Value → Shared → Prop := Csources_ok.c.Q
noncomputable def Csources_ok.E : Value → Shared → Prop := Csources_ok.c.E
noncomputable def Csources_ok.g' : Heap := Csources_ok.c.g'
noncomputable def Csources_ok.L' : Addr := Csources_ok.c.L'
noncomputable def Csources_ok.h' : Heap := Csources_ok.c.h'
noncomputable def Csources_ok.tk' : Nat := Csources_ok.c.tk'
noncomputable def Csources_ok.o1 : Obj := Csources_ok.c.o1
noncomputable def Csources_ok.o2 : Obj := Csources_ok.c.o2
open Csources_ok in
theorem Csources_ok.core : Csources_ok.pack.1 Csources_ok.prog Csources_ok.w Csources_ok.p Csources_ok.loose Csources_ok.mean Csources_ok.mg Csources_ok.mb Csources_ok.dp Csources_ok.un Csources_ok.gd Csources_ok.cn Csources_ok.cs Csources_ok.a Csources_ok.ccd Csources_ok.cl Csources_ok.outer Csources_ok.A₀ Csources_ok.base Csources_ok.h₀ Csources_ok.L Csources_ok.m Csources_ok.news Csources_ok.s Csources_ok.pa Csources_ok.x Csources_ok.y Csources_ok.tx Csources_ok.ty Csources_ok.n Csources_ok.Q Csources_ok.E Csources_ok.g' Csources_ok.L' Csources_ok.h' Csources_ok.tk' Csources_ok.o1 Csources_ok.o2 := by
  dsimp only [Csources_ok.pack]
  intro B F X N hoff T hk ok hdp hun hsub ret FG' F' N' B' X' T'
  (try dsimp only); (try k_fold)
  have halt : Halt := ⟨⟩
  have mt9 : MeetOn := ⟨⟩
  k_steps
  refine ⟨?_⟩
  obtain ⟨fl, efl⟩ : ∃ z, z = ln := ⟨_, rfl⟩
  subst efl
  have w1 : @Ne Nat fl pa := by k_ne
  have w2 : ∀ q ∈ news, q.1 ≠ fl := by k_all
  refine joinE (h₀ := g') (L := L') (by k_asm) (AlsR pa fl news) ?go ?k
  case go =>
    (rename MeetOn => mt9); clear mt9
    have st9 : Split4 := ⟨⟩
    k_steps
    all_goals (
      rename News _ _ _ _ => N0
      have NL := led2 (e1 := (pa, _)) (e2 := (fl, _)) (base := news) N0 (by walk_at "m_pulls") (by walk_at "m_splitR"))
    · refine' joinE_mk (by k_asm) NL (AlsR.mk (avs := []) (als := []) rfl rfl .nil (List.forall_mem_nil _) (by decide) ?g1 ?g2 ?g3 ?g4 ?g5)
      case g1 => with_reducible assumption
      case g2 => k_all
      case g3 => k_all
      case g4 => walk_at "m_far"
      case g5 => k_mem
    · refine' joinE_mk (by k_asm) NL (AlsR.mk (avs := [_]) (als := [_]) rfl rfl (.cons _ _ .nil) (List.forall_mem_singleton.mpr nm_T) (by decide) ?g1 ?g2 ?g3 ?g4 ?g5)
      case g1 => with_reducible assumption
      case g2 => k_all
      case g3 => k_all
      case g4 => walk_at "m_far"
      case g5 => k_mem
    · refine' joinE_mk (by k_asm) NL (AlsR.mk (avs := [_, _]) (als := [_, _]) rfl rfl (.cons _ _ (.cons _ _ .nil)) (List.forall_mem_cons.mpr ⟨nm_T, List.forall_mem_singleton.mpr nm_u⟩) (by decide) ?g1 ?g2 ?g3 ?g4 ?g5)
      case g1 => with_reducible assumption
      case g2 => k_all
      case g3 => k_all
      case g4 => walk_at "m_far"
      case g5 => k_mem
    · refine' joinE_mk (by k_asm) NL (AlsR.mk (avs := [_, _, _]) (als := [_, _, _]) rfl rfl (.cons _ _ (.cons _ _ (.cons _ _ .nil))) (List.forall_mem_cons.mpr ⟨nm_T, List.forall_mem_cons.mpr ⟨nm_u, List.forall_mem_singleton.mpr nm_v⟩⟩) (by decide) ?g1 ?g2 ?g3 ?g4 ?g5)
      case g1 => with_reducible assumption
      case g2 => k_all
      case g3 => k_all
      case g4 => walk_at "m_far"
      case g5 => k_mem
  case k =>
    rintro v h' tk' nw' F' N' hals
    cases hals with
    | @mk l avs als na x1 y1 tx1 ty1 n1 Z ev en hav hnm hal ok1 nP nF fZ hl =>
    subst ev en
    (rename MeetOn => mt9); clear mt9
    k_steps
    refine ⟨?_⟩
    refine ktu_enum (n := na) (vs := avs) rfl (by k_asm) (by k_asm) (List.mem_cons_of_mem _ (List.mem_cons_of_mem _ (List.mem_append_left _ hl))) rfl rfl rfl ?_
    intro I hI
    have lI := allLt_of hI
    have zI : ∀ q ∈ Z, q.1 ≠ I := allLt_ne lI (by walk_at "m_sub")
    have zI1 : ∀ q ∈ Z, q.1 ≠ I + 1 := allLt_ne (allLt_add lI) (by walk_at "m_sub")
    have w3 : @Ne Nat I pa := ltneA lI (by k_mem)
    have w4 : @Ne Nat I fl := ltneA lI (by k_mem)
    have w5 : @Ne Nat (I + 1) pa := ltneA (allLt_add lI) (by k_mem)
    have w6 : @Ne Nat (I + 1) fl := ltneA (allLt_add lI) (by k_mem)
    have w7 : ∀ q ∈ news, q.1 ≠ I := allLt_ne lI (by walk_at "m_sub")
    have w8 : ∀ q ∈ news, q.1 ≠ I + 1 := allLt_ne (allLt_add lI) (by walk_at "m_sub")
    have w9 : @Ne Nat (I + 1) I := Nat.succ_ne_self I
    refine re_loop rfl (by rfl) (by rfl) (by rfl) (SrcJ w.params pa fl I news Z (fun y => if y = Str.ofString "found" then some (Value.ref fl) else List.lookup y [(Str.ofString "source", Value.ref pa)].reverse)) ?_ ?_ ?_
    · exact .mk (xs := []) (ds := []) (canon4 (fun z a1 a2 a3 a4 => rfl)) rfl ok1 .nil rfl (fun j d h => by simp at h) nP nF zI zI1 fZ fun _ h => h
    · walk_at "m_forget"
      rintro m' nw' hj h' tk' F' N'
      cases hj with
      | @mk u xs ds nf x2 y2 tx2 ty2 n2 V em en ok2 hsr hxl hnum nP2 nF2 nI2 nJ2 fV hZ =>
      subst em en
      have hsz := hav.length
      rcases Nat.lt_or_ge 1 xs.length with hlt | hle
      · obtain ⟨d1, hd1, ha1, ho1⟩ := hsr.get (List.getElem?_eq_getElem hlt)
        have hn1 := hnum 1 d1 hd1
        obtain ⟨x1, hx1⟩ : ∃ x, x = xs[1] := ⟨_, rfl⟩
        rw [← hx1] at ha1
        cases ha1 with
        | @mk dx cl1 ul1 τ1 num1 al1 cols1 us1 cvs1 uvs1 ncl1 nul1 a1 a2 a3 a4 a5 a6 =>
        have hn1' : num1 = 1 := hn1
        subst hn1'
        have NV : News g' L' h' V := fun q hq => N' q (.tail _ (.tail _ (List.mem_append_left _ hq)))
        replace N' : News g' L' h' ((dx, srcO w.params τ1 1 al1 cl1 ul1) :: (pa, src x2 y2 tx2 ty2 n2) :: (fl, listOf (xs.map Value.ref).toArray nf) :: (dropA dx V ++ news)) := fun q hq => N' q (by
          rcases List.mem_cons.mp hq with rfl | hq
          · exact .tail _ (.tail _ (List.mem_append_left _ a2))
          rcases List.mem_cons.mp hq with rfl | hq
          · exact .head _
          rcases List.mem_cons.mp hq with rfl | hq
          · exact .tail _ (.head _)
          rcases List.mem_append.mp hq with hq | hq
          · exact .tail _ (.tail _ (List.mem_append_left _ (dropA_sub _ hq)))
          · exact .tail _ (.tail _ (List.mem_append_right _ hq)))
        have y1 : @Ne Nat dx pa := nP2 _ a2
        have y2 : @Ne Nat dx fl := nF2 _ a2
        have y3 : ∀ q ∈ dropA dx V, q.1 ≠ dx := dropA_ne
        have y4 : ∀ q ∈ dropA dx V, q.1 ≠ pa := dropA_ne2 nP2
        have y5 : ∀ q ∈ dropA dx V, q.1 ≠ fl := dropA_ne2 nF2
        have y6 : ∀ q ∈ news, q.1 ≠ dx := fun q hq => fV _ a2 q hq
        have y7 : Far (dropA dx V) news := fun q hq => fV q (dropA_sub _ hq)
        have hxd : (x1, instObj 619 dx) ∈ dropA dx V := dropA_mem a1 fun e => by
          simp only at e
          subst e
          exact absurd (congrArg Obj.cls (same_at NV a1 a2)) ndictI
        have hxn : @Ne Nat x1 dx := dropA_ne _ hxd
        have hcov : ∀ p ∈ V, p ∈ (dx, srcO w.params τ1 1 al1 cl1 ul1) :: dropA dx V := fun p hp => by
          by_cases e : p.1 = dx
          · obtain ⟨a, o⟩ := p
            simp only at e
            subst e
            rw [same_at NV hp a2]
            exact .head _
          · exact .tail _ (dropA_mem hp e)
        have hsr2 := hsr.mono hcov
        have hget : (xs.map Value.ref)[(1 : Int).toNat]? = some (.ref x1) := by
          rw [List.getElem?_map, show (1 : Int).toNat = 1 from rfl, List.getElem?_eq_getElem hlt, hx1]; rfl
        have hz : ∀ p ∈ xs.zip ds, p.2.num = 1 → p.1 = x1 ∧ p.2.al = al1 ∧ p.2.cols = cols1 := by
          intro p hp hpn
          obtain ⟨j, hj, e⟩ := List.getElem_of_mem hp
          have hj2 : j < xs.length ∧ j < ds.length := by rw [List.length_zip] at hj; omega
          have e2 : p = (xs[j]'hj2.1, ds[j]'hj2.2) := by rw [← e, List.getElem_zip]
          have e3 := hnum j _ (List.getElem?_eq_getElem hj2.2)
          have e4 : j = 1 := by rw [e2] at hpn; rw [← e3]; exact hpn
          subst e4
          have e5 : ds[1]'hj2.2 = ⟨1, al1, cols1, us1⟩ := Option.some.inj ((List.getElem?_eq_getElem hj2.2).symm.trans hd1)
          rw [e2, e5]
          exact ⟨hx1.symm, rfl, rfl⟩
        have hupd : ∀ (V2 : Lst) (ul' : Addr) (nul : Nat) (uvs : List Value) (us : List Str), (∀ p ∈ dropA dx V, p ∈ V2) → (dx, srcO w.params τ1 1 al1 cl1 ul') ∈ V2 → (ul', listOf uvs.toArray nul) ∈ V2 → StrsAre uvs us → us.length ≤ 2 → Srcs w.params V2 xs (setU us ds) := fun V2 ul' nul uvs us q1 q2 q3 q4 q5 => srcs_upd NV a1 a2 a3 a4 (fun p hp hn => q1 p (dropA_mem hp hn)) q2 q3 q4 q5 hsr hz
        have hlm : (xs.map Value.ref).length ≤ 3 := by rw [List.length_map]; omega
        have hlm2 : 2 ≤ (xs.map Value.ref).length := by rw [List.length_map]; omega
        have st9 : SplitT := ⟨⟩
        have ga9 : GetAs := ⟨⟩
        k_steps
        · exact ret _ _ _ _ _ _ _ _ _ (by with_reducible assumption) (by k_asm) (fin_pool (by k_asm) (by k_mem) (by walk_at "m_split")) (by k_all) (by walk_at "m_far") (srcs_end (us := [Str.ofString "a"]) (by k_mem) (hupd _ _ _ _ _ (by walk_at "m_sub") (by k_mem) (by k_mem) (.cons _ _ .nil) (Nat.le_of_ble_eq_true rfl)) (by omega))
        · exact ret _ _ _ _ _ _ _ _ _ (by with_reducible assumption) (by k_asm) (fin_pool (by k_asm) (by k_mem) (by walk_at "m_split")) (by k_all) (by walk_at "m_far") (srcs_end (us := [Str.ofString "a", Str.ofString "b"]) (by k_mem) (hupd _ _ _ _ _ (by walk_at "m_sub") (by k_mem) (by k_mem) (.cons _ _ (.cons _ _ .nil)) (Nat.le_of_ble_eq_true rfl)) (by omega))
        · exact ret _ _ _ _ _ _ _ _ _ (by with_reducible assumption) (by k_asm) (fin_pool (by k_asm) (by k_mem) (by walk_at "m_split")) (by k_all) (by walk_at "m_far") ⟨fl, xs, nf, ds, rfl, by k_mem, hsr2.mono (by walk_at "m_sub"), by omega⟩
      · have hlm : (xs.map Value.ref).length ≤ 1 := by rw [List.length_map]; omega
        k_steps
        exact ret _ _ _ _ _ _ _ _ _ (by with_reducible assumption) (by k_asm) (fin_pool (by k_asm) (by k_mem) (by walk_at "m_split")) (by k_all) (by walk_at "m_far") ⟨fl, xs, nf, ds, rfl, by k_mem, hsr.mono (by walk_at "m_sub"), by omega⟩
    · walk_at "m_forget"
      rintro i v m' nw' hv hj t' ie il h' tk' hie hil F' N'
      cases hj with
      | @mk u xs ds nf x2 y2 tx2 ty2 n2 V em en ok2 hsr hxl hnum nP2 nF2 nI2 nJ2 fV hZ =>
      subst em en
      obtain ⟨al, ta, ev, hali⟩ := StrsAre.item hav i v hv
      subst ev
      have hnal := hnm al (List.mem_of_getElem? hali)
      have hl2 := hZ _ hl
      have no9 : NamesOn := ⟨⟩
      k_steps
      refine ⟨?_⟩
      rename News _ _ _ _ => N0
      obtain ⟨V9, hV9, NL⟩ := led_endX (ps := [(I + 1, _), (I, _), (pa, _), (fl, _)]) (base := news) N0 (by walk_at "m_pulls") (by walk_at "m_splitR")
      simp only [List.cons_append, List.nil_append] at NL
      have z1 : ∀ q ∈ V9, q.1 ≠ pa := by subst hV9; k_all
      have z2 : ∀ q ∈ V9, q.1 ≠ fl := by subst hV9; k_all
      have z3 : ∀ q ∈ V9, q.1 ≠ I := by subst hV9; k_all
      have z4 : ∀ q ∈ V9, q.1 ≠ I + 1 := by subst hV9; k_all
      have z5 : Far V9 news := by subst hV9; walk_at "m_far"
      have z6 : ∀ q ∈ V, q ∈ V9 := by subst hV9; walk_at "m_sub"
      have z7 : ∀ p ∈ [(nl8, listOf vs8.toArray nn8)], p ∈ (I + 1, ie) :: (I, il) :: (pa, src x9 y9 tx9 ty9 n9) :: (fl, listOf (xs.map Value.ref).toArray nf) :: (V9 ++ news) := List.forall_mem_singleton.mpr ((show ∀ q ∈ _, q ∈ _ by subst hV9; walk_at "m_sub") _ nm8)
      clear hV9 nm8
      have z8 := sa8.length
      obtain ⟨led, hLd⟩ : ∃ z, z = (I + 1, ie) :: (I, il) :: (pa, src x9 y9 tx9 ty9 n9) :: (fl, listOf (xs.map Value.ref).toArray nf) :: (V9 ++ news) := ⟨_, rfl⟩
      rw [← hLd] at NL z7
      walk_at "m_forget2"
      refine jc_Assign (by decide) (by k_asm) rfl (by rfl) (by rfl) (by decide) (by rfl) (by decide) (by rfl) (by rfl) ?_
      k_steps
      refine ⟨?_⟩
      refine jat_list (keep := [(nl8, listOf vs8.toArray nn8)]) (ColJ led ns8) rfl (by k_asm) NL z7 (.head _) (Nat.le_trans (show vs8.length ≤ 4 by omega) (Nat.le_of_ble_eq_true rfl)) rfl (by rfl) (.mk (W := []) rfl Far.nil rfl .nil) ?turn ?done
      case turn =>
        rintro s₂ j v2 ys hs news' its C oC D m₂ h tk E' hj hv2 hm ⟨ew, fW, hyl, hcl⟩ - hk' hNs hmap off offI hCD F' N'
        subst ew
        obtain ⟨c, tc, ec, hc⟩ := StrsAre.item sa8 j v2 hv2
        subst ec
        refine (show wpAny _ _ _ _ _ _ from ?_)
        k_steps
        rename News _ _ _ (_ :: _) => N9
        refine jEnd_one (fun q => q :: (_ ++ led)) (by k_asm) N9 (by walk_at "m_far") hmap off (by walk_at "m_sub") (fun p hp => .tail _ (hk' p hp)) (.mk (W := _ :: _) rfl (by walk_at "m_far") (by rw [List.length_append, hyl]; rfl) ?_)
        rw [take_snoc hc]
        exact (hcl.mono fun _ h _ => .tail _ h).snoc ⟨_, _, _, _, _, rfl, .head _⟩
      case done =>
        rintro g ys news' hk' ⟨ew, fW, hyl, hcl⟩ D h tk F' N' offD
        subst ew
        subst hLd
        (try dsimp only at F' N')
        have kd9 : KindOn := ⟨⟩
        have z9 : ∀ q ∈ Z, q ∈ V9 := fun q hq => z6 q (hZ q hq)
        have hs9 := hsr.mono z6
        have hia := (List.getElem?_eq_some_iff.mp hali).1
        have hxz : (xs.map Value.ref).length ≤ 1000 := by rw [List.length_map]; omega
        rw [List.take_of_length_le (by omega)] at hcl
        k_steps
        refine ⟨?_⟩
        rename News _ _ _ (_ :: _) => N0
        have NL := led4 (e1 := (I + 1, _)) (e2 := (I, _)) (e3 := (pa, _)) (e4 := (fl, _)) (base := news) N0 (by walk_at "m_pulls") (by walk_at "m_splitR")
        refine' unrW2_led (by k_asm) NL ?g1 ?g2 ?g3 (.mk (xs := xs ++ [_]) (ds := ds ++ [⟨i, al, ns8, []⟩]) (canon4 (fun z a1 a2 a3 a4 => by walk_at "m_off")) (by rw [List.map_append]; rfl) ?g4 ?g5 ?g6 ?g7 ?g8 ?g9 ?gA ?gB ?gC ?gD)
        case g1 => k_all
        case g2 => k_all
        case g4 => with_reducible assumption
        case g3 => k_mem
        case g5 =>
          refine' Srcs.snoc ?s0 (.mk (uvs := []) ?s1 ?s2 ?s3 (hcl.mono ?s4) ?s5 .nil) ⟨hnal, nn9, nz9, Nat.zero_le _⟩
          case s0 =>
            refine hs9.mono ?_
            walk_at "m_sub"
          case s1 => k_mem
          case s2 => k_mem
          case s3 => k_mem
          case s5 => k_mem
          case s4 =>
            intro p hp _
            exact (show ∀ q ∈ _, q ∈ _ by walk_at "m_sub") p hp
        case g6 => rw [List.length_append, hxl]; rfl
        case g7 =>
          intro j d hd
          have hdl := hsr.length
          by_cases hj : j < ds.length
          · rw [List.getElem?_append_left hj] at hd
            exact hnum j d hd
          · have hj2 := (List.getElem?_eq_some_iff.mp hd).1
            rw [List.length_append, List.length_singleton] at hj2
            have : j = ds.length := by omega
            subst this
            rw [List.getElem?_append_right (Nat.le_refl _), Nat.sub_self] at hd
            cases hd
            show i = ds.length
            omega
        case g8 => k_all
        case g9 => k_all
        case gA => k_all
        case gB => k_all
        case gC => walk_at "m_far"
        case gD => walk_at "m_sub"
theorem sources_ok {prog : Program} {w : World} {p : Program} {loose : List Str} {mean : ExcName → Option Value} {mg mb : Str → Option Value} : PoolC prog w p loose mean mg mb 850 725 (fun pa => [.ref pa]) [] (fun nw v => SrcsR w.params nw v) := Csources_ok.pack.2 (of_bad (by with_unfolding_all exact Csources_ok.core)) prog w p loose mean mg mb

/-! the star: an exception of the program's own, its __init__ in a class above -/
abbrev bm51 : List Value := [.ref 38, .type "Exception", .type "BaseException", .type "object"]
inductive Cls51 (h : Heap) : Prop
  | mk (nm q : Str) (N : Addr) (bs : List Value) (hdct : Bool) (sn : List Str) (sub : List Value) (ab : Bool) (col : Option Bool) (dd : Option Addr) (k0 k1 k2 k3 k5 : Option Value) : h.get? 51 = some (excClassObj nm q 51 N bs bm51 hdct sn sub ab col dd k0 k1 k2 k3 k5 "Exception.__new__") → Cls51 h
theorem cls51_of {K : Frag} {h : Heap} {nm q : Str} {N : Addr} {bs : List Value} {hdct : Bool} {sn : List Str} {sub : List Value} {ab : Bool} {col : Option Bool} {dd : Option Addr} {k0 k1 k2 k3 k5 : Option Value} (X : K.In h) (e : K.lookup 51 = some (excClassObj nm q 51 N bs bm51 hdct sn sub ab col dd k0 k1 k2 k3 k5 "Exception.__new__")) :
    Cls51 h := ⟨_, _, _, _, _, _, _, _, _, _, _, _, _, _, _, X _ _ e⟩
theorem cls51 {P : Params} {h : Heap} (X : (top.heap_1_39 P).In h) : Cls51 h := cls51_of X (by k_is)
section
variable {prog : Program} {w : World} {A : Around} {E : Value → Shared → Prop} {R : Result → Shared → Prop} {h : Heap} {g : Array GenState} {d : Drawn} {t : Nat} {os : OsState}
variable {nm q : Str} {N : Addr} {bs : List Value} {hdct : Bool} {sn : List Str} {sub : List Value} {ab : Bool} {col : Option Bool} {dd : Option Addr} {k0 k1 k2 k3 k5 : Option Value}
theorem has51 : (Value.ref 51 :: bm51).contains (.type "Exception") = true := by decide +kernel
theorem has51a : (Value.ref 51 :: bm51).contains (.type "AttributeError") = false := by decide +kernel
theorem has51n : (Value.ref 51 :: bm51).contains (.type "NameError") = false := by decide +kernel
theorem has51b : (Value.ref 51 :: bm51).contains (.type "BaseException") = true := by decide +kernel
theorem has51s : (Value.ref 51 :: bm51).contains (.ref 51) = true := by decide +kernel
theorem has51t : (Value.ref 51 :: bm51).contains (.type "tuple") = false := by decide +kernel
theorem chk51 {rest : List Value} {Q : Unit → Shared → Prop} (hC : h.get? 51 = some (excClassObj nm q 51 N bs bm51 hdct sn sub ab col dd k0 k1 k2 k3 k5 "Exception.__new__")) (hq : Q () ⟨h, g, d, t, os⟩) :
    wpAny (model prog w) A (checkBuiltinCall "Exception.__new__" ⟨.ref 51 :: rest, []⟩) Q E ⟨h, g, d, t, os⟩ := by
  have F := PySem.F.excBase_Exception
  have hstar := F.noStar
  simp only [checkBuiltinCall, F.newKind, F.newSplit, F.newRow]
  repeat (first | refine wpAny_loadPart_at hC ?_ | (refine wpAny_isSubtype_exc hC ?_; rw [has51]) | refine wpAny_staticBase_exc hC ?_ | refine wpAny_madeBy_exc hC ?_ | simp only [bne_self_eq_false, Bool.false_eq_true, if_false] | wp_step)
  exact hq
theorem new51 {rest : List Value} (hC : h.get? 51 = some (excClassObj nm q 51 N bs bm51 hdct sn sub ab col dd k0 k1 k2 k3 k5 "Exception.__new__"))
    (hq : R (.ok (.ret (.ref (h.objs.size + 1)))) ⟨(h.push { cls := .type "tuple", data := .seq rest.toArray }).push { cls := .ref 51, data := .fields #[.ref h.objs.size, .none, .none, .none, .bool false, .none] }, g, d, t, os⟩) (hrest : rest.length ≤ sizeLine) :
    codeAny (model prog w) A (.builtin "Exception.__new__" ⟨.ref 51 :: rest, []⟩) R ⟨h, g, d, t, os⟩ := by
  have F := PySem.F.excBase_Exception
  have hends := F.ends
  refine codeAny_builtinAt F.entry ?_
  unfold Builtin.«BaseException.__new__»
  refine PySem.wpAt_bind ?_
  show PySem.wpAt _ _ _ (stack >>= _) _ _ _
  refine PySem.wpAt_bind (PySem.wpAt_stack fun p below => PySem.wpAt_of_wpAny ?_)
  wp_walk
  refine PySem.wpAt_of_wpAny ?_
  rw [F.owner]
  repeat (first | with_reducible refine wpAny_madeHere_exc F.canon hC ?_ | with_reducible refine wpAny_loadPart_at hC ?_ | (with_reducible refine wpAny_isSubtype_exc hC ?_; first | rw [has51] | rw [has51a] | rw [has51n]) | wp_step)
  show R _ _
  rw [Heap.size_push]
  exact hq
end
theorem fn35_of {K : Frag} {h : Heap} {o : Obj} (X : K.In h) (e : K.lookup 35 = some o) (c : o.cls = .type "function") : ∃ o, h.get? 35 = some o ∧ o.cls = .type "function" := ⟨o, X _ _ e, c⟩
theorem fn35 {P : Params} {h : Heap} (X : (top.heap_1_39 P).In h) : ∃ o, h.get? 35 = some o ∧ o.cls = .type "function" := fn35_of X (by k_is) rfl
/-- the exception as it lies in the ledger -/
abbrev exc0 (t : Addr) (dd : Option Addr) : Obj := { cls := .ref 51, dict := dd, data := .fields #[.ref t, .none, .none, .none, .bool false, .none] }
section
variable {prog : Program} {w : World} {A : Around} {E : Value → Shared → Prop} {h : Heap} {g : Array GenState} {d : Drawn} {t : Nat} {os : OsState}
theorem type51 {rest : List Value} {Q : PySem.Fin → Shared → Prop} (Xs : (top.heap_1_39 w.params).In h) (hrest : rest.length ≤ sizeLine)
    (hq : wpAny (model prog w) A (call (.ref 35) (.ref (h.objs.size + 1) :: rest)) (fun r s' => r = .none ∧ Q (.done (.ret (.ref (h.objs.size + 1)))) s') E ⟨(h.push { cls := .type "tuple", data := .seq rest.toArray }).push (exc0 h.objs.size none), g, d, t, os⟩) :
    wpAny (model prog w) A (Builtin.«type.__call__» ⟨.ref 51 :: rest, []⟩) Q E ⟨h, g, d, t, os⟩ := by
  obtain ⟨nm, q, N', bs, hdct, sn, sub, ab, col, dd, k0, k1, k2, k3, k5, hC⟩ := cls51 Xs
  have BF := PySem.F.excBase_Exception
  repeat (first | with_reducible refine wpAny_loadPart_at hC ?_ | with_reducible refine wpAny_madeBy_exc hC ?_ | wp_step)
  refine codeAny_call_builtin_code (Code.quiet_builtin _ BF.quiet) (chk51 hC ?_)
  refine new51 hC ?_ hrest
  show wpAny _ _ _ _ _ _
  have keep : ∀ b o, h.get? b = some o → ((h.push { cls := .type "tuple", data := .seq rest.toArray }).push { cls := .ref 51, data := .fields #[.ref h.objs.size, .none, .none, .none, .bool false, .none] }).get? b = some o := fun b o e => Heap.get?_push_of_some _ (Heap.get?_push_of_some _ e)
  have hC₁ := keep _ _ hC
  have hget : ((h.push { cls := .type "tuple", data := .seq rest.toArray }).push { cls := .ref 51, data := .fields #[.ref h.objs.size, .none, .none, .none, .bool false, .none] }).get? (h.objs.size + 1) = some { cls := .ref 51, data := .fields #[.ref h.objs.size, .none, .none, .none, .bool false, .none] } := by heap_get
  have X₁ : (top.heap_1_39 w.params).In ((h.push { cls := .type "tuple", data := .seq rest.toArray }).push { cls := .ref 51, data := .fields #[.ref h.objs.size, .none, .none, .none, .bool false, .none] }) := Xs.keeps keep
  unfold isInstance
  repeat (first | with_reducible refine wpAny_loadPart_at hget ?_ | (with_reducible refine wpAny_isSubtype_exc hC₁ ?_; rw [has51s]) | wp_step)
  show wpAny _ _ (typeLookup (.ref 51) _) _ _ _
  refine (looks_findIn (name := "__init__") (r := some (.ref 35)) X₁ (by k_is)).here ?_
  obtain ⟨oI, hI, cI⟩ := fn35 X₁
  refine wpAny_holding (wpAny_bind ?_)
  unfold bindSpecial
  refine wpAny_bind (wpAny_typeOf (T := "function") ⟨_, hI, cI⟩ ?_)
  rw [if_pos (by decide)]
  refine wpAny_pure (wpAny_bind (wpAny_mono hq (fun r s' hr => ?_) fun _ _ x => x))
  obtain ⟨rfl, hQ⟩ := hr
  wp_walk
  exact hQ
end
section
variable {prog : Program} {w : World} {A : Around} {E : Value → Shared → Prop} {s : Shared} {h₀ : Heap} {L : Addr} {m : Str → Option Value} {news : Lst}
/-- the class called: the new object, then its __init__ -/
theorem call51 {rest : List Value} {Q : Value → Shared → Prop} (F : Fr h₀ L s.heap m) (X : (top.heap_1_39 w.params).In h₀) (N : News h₀ L s.heap news) (hrest : rest.length ≤ sizeLine)
    (hq : ∀ h' t, Fr h₀ L h' m → News h₀ L h' ((t + 1, exc0 t none) :: (t, ({ cls := .type "tuple", data := .seq rest.toArray } : Obj)) :: news) → (∀ p ∈ news, p.1 < t) →
      wpAny (model prog w) (A.under (.builtin "type.__call__" ⟨.ref 51 :: rest, []⟩)) (call (.ref 35) (.ref (t + 1) :: rest)) (fun r s' => r = .none ∧ Q (.ref (t + 1)) s') E { s with heap := h' }) :
    wpAny (model prog w) A (call (.ref 51) rest) Q E s := by
  have Xs := X.keeps F.keep
  obtain ⟨nm, q, N', bs, hdct, sn, sub, ab, col, dd, k0, k1, k2, k3, k5, hC⟩ := cls51 Xs
  obtain ⟨h, g, d, t, os⟩ := s
  have f1 := tc_lookup
  have f2 := tc_bind (.ref 51)
  have hT : (⟨h, g, d, t, os⟩ : Shared).TypeIs (.ref 51) "type" := ⟨_, hC, rfl⟩
  refine wpAny_call (codeAny_of_tree ?_)
  show wpAny _ _ (callAny (.ref 51) _) _ _ _
  repeat (any_goals (first | assumption | with_reducible refine wpAny_loadPart_at hC ?_ | wp_step))
  refine ⟨rfl, ?_⟩
  refine codeAny_call_builtin_at (Code.quiet_builtin _ (by decide +kernel)) entry_typeCall (wpAny_check_type_call_sub hC (type51 Xs hrest ?_))
  have F1 := F.push { cls := .type "tuple", data := .seq rest.toArray }
  have F2 := F1.push (exc0 h.objs.size none)
  refine wpAny_mono (hq _ h.objs.size F2 ?_ fun p hp => Heap.lt_size (N p hp).1) (fun _ _ x => x) (fun _ _ x => x)
  intro p hp
  have new0 : ∀ b, h.objs.size ≤ b → h₀.get? b = none := fun b hb => ktu_new F hb
  rcases List.mem_cons.mp hp with rfl | hp
  · exact ⟨Heap.get?_push_at (by simp only [Heap.size_push]) rfl, fun e => absurd F.ns.lt (by rw [← e]; exact Nat.not_lt.mpr (Nat.le_succ _)), new0 _ (Nat.le_succ _)⟩
  rcases List.mem_cons.mp hp with rfl | hp
  · exact ⟨Heap.get?_push_of_some _ (Heap.get?_push_size _ rfl), fun e => absurd F.ns.lt (by rw [← e]; exact Nat.lt_irrefl _), new0 _ (Nat.le_refl _)⟩
  · exact ⟨Heap.get?_push_of_some _ (Heap.get?_push_of_some _ (N p hp).1), (N p hp).2⟩
end
section
theorem refuse51 (self : Value) : refuseLoop self "__setattr__" (.ref 51 :: bm51) = pure () := by
  rw [refuseLoop_ref, bm51, refuseLoop_ref]
  kernel_rfl
variable {prog : Program} {w : World} {A : Around} {E : Value → Shared → Prop} {s : Shared} {h₀ : Heap} {L e t : Addr} {m : Str → Option Value} {led rest : Lst}
/-- a name laid on the new exception -/
theorem set51 {v : Value} {Q : Unit → Shared → Prop} (F : Fr h₀ L s.heap m) (X : (top.heap_1_39 w.params).In h₀) (N : News h₀ L s.heap led) (P : Pull e (exc0 t none) led rest) (off : ∀ q ∈ rest, q.1 ≠ e)
    (hq : ∀ h' d tk', Fr h₀ L h' m → News h₀ L h' ((e, exc0 t (some d)) :: rest) → Q () { s with heap := h', toks := tk' }) : wpAny (model prog w) A (setAttr (.ref e) (Str.ofString "message") v) Q E s := by
  have Xs := X.keeps F.keep
  have he := N _ (P.sub _ (.head _))
  obtain ⟨nm, q, N', bs, hdct, sn, sub, ab, col, dd, k0, k1, k2, k3, k5, hC⟩ := cls51 Xs
  have I : ∀ tk, InstAt ({ s with toks := tk } : Shared).heap e (exc0 t none) 51 none := fun tk => ⟨he.1, rfl, rfl, trivial⟩
  have SF := PySem.F.store_object
  refine set_plain (K := top.heap_1_39 w.params) (C := 51) (od := none) Xs (I _) (by k_is) ?_
  have hmsg : findIn (top.heap_1_39 w.params) (.ref 51) (Str.ofString "message") = some none := by k_is
  have hhd : hasDictIn (top.heap_1_39 w.params) 51 = true := by k_is
  have hsub : subIn (top.heap_1_39 w.params) (.ref 51) (.type "object") = some true := by k_is
  have sub : Looks (model prog w) s.heap (isInstance (.ref e) (.type "object")) true := (in_type he.1 rfl).andThen (looks_subIn Xs hsub)
  refine codeAny_call_builtin SF.slot.plain SF.entry (@check_slot (model prog w) _ _ { s with toks := s.toks + 1 } "object.__setattr__" "object" "__setattr__" (.ref e) [.str (Str.ofString "message") s.toks, v] [] _ SF.kind SF.split sub (SF.args (.ref e) (.str (Str.ofString "message") s.toks) v) ?_)
  obtain ⟨h, g, d, tk, os⟩ := s
  rw [osa_eq, refuse_eq]
  refine wpAny_bind (wpAny_bind ((I _).type.here (wpAny_bind (wpAny_mroOf_exc hC ?_))))
  rw [refuse51]
  refine wpAny_pure (wpAny_bind ((I _).type.here (wpAny_bind (looks_findIn Xs hmsg _ _ _ _ (fun _ _ e => e) (wpAny_bind (wpAny_pure ?_))))))
  obtain ⟨cd, hcl, hdct'⟩ := any_some hhd
  refine wpAny_bind (wpAny_pure (wpAny_bind (wpAny_bind (wpAny_loadPart he.1 (wpAny_bind (looks_clsIn Xs hcl _ _ _ _ (fun _ _ e => e) ?_))))))
  rw [hdct']
  show wpAny _ _ (alloc { cls := .type "dict", data := .dict #[] } >>= fun d => update e (fun o => { o with dict := some d }) >>= fun _ => pure (some d)) _ _ _
  have hes : e ≠ h.objs.size := Nat.ne_of_lt (Heap.lt_size he.1)
  have hx₁ : (h.push { cls := .type "dict", data := .dict #[] }).get? e = some (exc0 t none) := Heap.get?_push_of_some _ he.1
  refine wpAny_bind (wpAny_alloc' (wpAny_bind (wpAny_update' hx₁ (wpAny_pure ?_))))
  have hgd : ((h.push { cls := .type "dict", data := .dict #[] }).update e fun o => { o with dict := some h.objs.size }).get? h.objs.size = some { cls := .type "dict", data := .dict #[] } :=
    (Heap.get?_update_ne _ _ _ _ hes.symm).trans (Heap.get?_push_at rfl rfl)
  have hnd : ((h.push { cls := .type "dict", data := .dict #[] }).update e fun o => { o with dict := some h.objs.size }).Ns h.objs.size (fun _ => none) := ⟨_, #[], _, hgd, rfl, fun e he => absurd he (by simp), fun _ => rfl⟩
  show wpAny _ _ (Builtin.ObjectAttr.storeInDict h.objs.size (.str (Str.ofString "message") tk) (Str.ofString "message") v) _ _ _
  unfold Builtin.ObjectAttr.storeInDict Builtin.ObjectAttr.newKeyGuard
  refine wpAny_bind (wpAny_pure (wpAny_bind (wpAny_nsSet1 (Heap.Ns1.of_empty hnd) fun h' hn' hs => ?_)))
  obtain ⟨oD, esD, epD, hoD, hdD, hcD⟩ := hn'.count (Within.cons (Str.ofString "message") v Within.nil)
  refine wpAny_bind (wpAny_lookBehind hoD (by rw [hdD]; exact pastItsLine_dict (Nat.le_trans hcD (by rw [List.length_cons, List.length_nil, sizeLine_eq]; omega))) ?_)
  wp_walk
  have keep : ∀ b o, b ≠ e → h.get? b = some o → h'.get? b = some o := fun b o hbx hb => (hs.2 b (Nat.ne_of_lt (Heap.lt_size hb))).trans ((Heap.get?_update_ne _ _ _ _ hbx).trans (Heap.get?_push_of_some _ hb))
  refine hq h' h.objs.size _ ⟨F.ns.at' fun o ho => keep _ o (Ne.symm he.2.1) ho, fun b o ho => keep b o (fun q => by rw [q, he.2.2] at ho; cases ho) (F.keep b o ho), F.above⟩ fun p hp => ?_
  rcases List.mem_cons.mp hp with rfl | hp
  · exact ⟨(hs.2 e hes).trans (Heap.get?_update_self _ hx₁ rfl), he.2⟩
  · exact ⟨keep _ _ (off p hp) (N p (P.sub _ (.tail _ hp))).1, (N p (P.sub _ (.tail _ hp))).2⟩
end
section
variable {prog : Program} {w : World} {p : Program} {loose : List Str} {mean : ExcName → Option Value} {mg mb : Str → Option Value}
theorem words17_21 : True := by
  k_with "@setAttr ref" => (
      k_here; (with_reducible show wpAny _ _ (setAttr (Value.ref _) (Str.ofString "message") _) _ _ _)
      k_dflt (refine' set51 ?sF ?sX ?sN ?sP ?so ?_; (case sF => k_asm); (case sX => k_asm); (case sN => k_asm); (case sP => walk_at "m_pull"); (case so => k_all))
      intro h' dx' tk' F' N'; (try dsimp only))
  trivial
/-- SqlError(text) -/
theorem sql_new {dp un : Nat} {gd : Option (List Code)} {cn : Str} {cs : Scope} {a : Addr} {ccd : Value} {cl : List (Str × Addr)} {outer : List Env} {A₀ : Around} {base h₀ : Heap} {L : Addr} {m : Str → Option Value} {news : Lst} {s : Shared} {Q E : Value → Shared → Prop} {msg : Str} {tm : Tok}
    (B : Below A₀ base outer h₀) (F : Fr h₀ L s.heap m) (X : (top.heap_1_39 w.params).In h₀) (N : News h₀ L s.heap news) (T : Top p loose mean mg mb h₀) (hk : cs.kind = .function) (hdp : dp < 890) (hun : un < 5 * 890)
    (ret : ∀ (t d : Addr) h' tk', Fr h₀ L h' m → News h₀ L h' ((t + 1, exc0 t (some d)) :: news) → (∀ p ∈ news, p.1 < t) → Q (.ref (t + 1)) { s with heap := h', toks := tk' }) :
    wpAny (model prog w) (ktrTop dp un gd cn cs L a ccd cl outer) (call (.ref 51) [.str msg tm]) Q E s := by
  refine call51 F X N (Nat.le_of_ble_eq_true rfl) fun h' t F' N' l1 => wpAny_call ?_
  have l2 := allLt_of l1
  k_dflt (refine' enter [(Str.ofString "self", .ref (t + 1)), (Str.ofString "message", .str msg tm)] ?k1 ?k2 ?k3 ?k4 ?k5 ?kA ?kF ?kK ?k6 ?k7 ?k8 ?k9 ?kB ?_ ?c2 ?c3 ?c4 ?c5; walk_at "m_enter")
  k_steps
  rename News _ _ _ (_ :: _ :: _) => N9
  exact ret t _ _ _ (by k_asm) (fun q hq => N9 q (by
    rcases List.mem_cons.mp hq with rfl | hq
    · exact .head _
    · exact .tail _ (.tail _ hq))) l1
end
section
variable {prog : Program} {w : World} {A : Around} {E : Value → Shared → Prop} {s : Shared} {env : Env}
inductive R51 (w : World) (E : Value → Shared → Prop) (v : Value) (s₁ : Shared) : Prop
  | mk (t d : Addr) : v = .ref (t + 1) → s₁.heap.get? (t + 1) = some (exc0 t (some d)) → (top.heap_1_39 w.params).In s₁.heap → E (.ref (t + 1)) s₁ → R51 w E v s₁
theorem raise51 {x : PySem.Expr} {pos : Pos} {Q : Flow → Shared → Prop} (hh : A.handled = none)
    (h : wpAny (model prog w) A (eval x env) (R51 w E) E s) :
    wpAny (model prog w) A (exec (.Raise (some x) none pos) env) Q E s := by
  rw [arm_exec_Raise]
  refine wpAny_bind (wpAny_standAt ?_)
  show wpAny _ _ (raiseStmt env (some (eval x env >>= fun v => standAt pos >>= fun _ => pure v)) none) _ _ _
  unfold raiseStmt
  refine wpAny_bind (wpAny_mono (wpAny_bind (wpAny_mono h (fun v s₃ h₃ => wpAny_bind (wpAny_standAt (wpAny_pure h₃))) fun _ _ x => x)) (fun v s₁ h₁ => ?_) fun _ _ x => x)
  obtain ⟨t, d, ev, he, X, hE⟩ := h₁
  subst ev
  obtain ⟨nm, q, N', bs, hdct, sn, sub, ab, col, dd, k0, k1, k2, k3, k5, hC⟩ := cls51 X
  obtain ⟨hp, g, dr, tk, os⟩ := s₁
  repeat (first | with_reducible refine wpAny_loadPart_at he ?_ | with_reducible refine wpAny_loadPart_at hC ?_ | (with_reducible refine wpAny_isSubtype_exc hC ?_; rw [has51b]) | wp_step)
  exact wpAny_raiseNew_none hh hE
end
/-- an exception on its way: what stands below it -/
def RaisedM (base G : Heap) (l : List Env) (e : Addr) (news : Lst) (h : Heap) : Prop :=
  ∃ B a0, base.StaysIn B ∧ (∀ b o, G.get? b = some o → b ∉ l.filterMap (·.frame) → B.get? b = some o) ∧ (∀ q ∈ news, B.get? q.1 = some q.2 ∧ G.get? q.1 = none ∧ base.get? q.1 = none) ∧ Heap.FlyingW B l e (.ref 51) a0 h
theorem leave51 {M : Model} {A : Around} {E : Value → Shared → Prop} {s' : Shared} {base g : Heap} {outer : List Env} {L a e t d : Addr} {m : Str → Option Value} {name : Str} {scope : Scope} {cd : Value} {Q : Unit → Shared → Prop} {news led : Lst}
    (K : Below A base outer g) (F : Fr g L s'.heap m) (N : News g L s'.heap led) (he : (e, exc0 t (some d)) ∈ led) (hs : ∀ q ∈ news, q ∈ led) (hne : ∀ q ∈ news, q.1 ≠ e)
    (hQ : ∀ h', RaisedM base g outer e news h' → g.UpToSlots h' → Q () { s' with heap := h' }) (hk : scope.kind = .function := by rfl) :
    wpAny M (A.deeper (envOf name scope L a cd)) (leaving (envOf name scope L a cd) (.ref e)) Q E s' := by
  have K' := K.push (name := name) (a := a) (cd := cd) F hk
  have ne := N _ he
  have notFrame : ∀ q ∈ led, q.1 ∉ (envOf name scope L a cd :: outer).filterMap (·.frame) := fun q hq hm => by
    obtain ⟨env, hx, hf⟩ := List.mem_filterMap.mp hm
    rcases List.mem_cons.mp hx with rfl | hx
    · exact (N q hq).2.1 (Option.some.inj hf).symm
    · obtain ⟨o, ho, _⟩ := (K.frames.mem (List.mem_filterMap.mpr ⟨env, hx, hf⟩)).2
      rw [(N q hq).2.2] at ho; cases ho
  have sub : ∀ b o, s'.heap.get? b = some o → b ≠ e → b ∉ (envOf name scope L a cd :: outer).filterMap (·.frame) → (hideAll s'.heap (e :: (envOf name scope L a cd :: outer).filterMap (·.frame))).get? b = some o := fun b o q h1 h2 => hideAll_get _ q fun hm => by
    rcases List.mem_cons.mp hm with z | z
    · exact h1 z
    · exact h2 z
  have gE : g.get? e = none := ne.2.2
  have gL : g.get? L = none := kts_self F
  have hin : ∀ env ∈ (envOf name scope L a cd :: outer), ∀ b, env.frame = some b → b ∈ e :: (envOf name scope L a cd :: outer).filterMap (·.frame) := fun env hx b hb => .tail _ (List.mem_filterMap.mpr ⟨env, hx, hb⟩)
  have st : base.StaysIn (hideAll s'.heap (e :: (envOf name scope L a cd :: outer).filterMap (·.frame))) := fun b o q => sub b o (K'.stays b o q) (fun z => by
    have := K.stays b o q; rw [z, gE] at this; cases this) fun hm => by rw [(K'.frames.mem hm).1] at q; cases q
  refine wpAny_leaving_firstW (a0 := .ref t) K'.stack (funFrames_hide K'.frames hin) rfl ne.1 (fun b o q => of_hideAll _ q) (hideAll_none _ (.head _)) rfl rfl rfl fun h' hL => ?_
  obtain ⟨k1, ⟨_, _, k2⟩, k3, k4⟩ := hL
  refine hQ h' ⟨_, .ref t, st, fun b o q nm => sub b o (F.keep b o q) (fun z => by rw [z, gE] at q; cases q) fun hm => ?_, fun q hq => ⟨sub _ _ (N q (hs q hq)).1 (hne q hq) (notFrame q (hs q hq)), (N q (hs q hq)).2.2, fresh_of_stays K.stays (N q (hs q hq)).2.2⟩, k1, hideAll_none _ (.head _), k2, k3⟩ ((Heap.UpToSlots.of_keeps F.keep).trans k4)
  rcases kts_mem hm with z | z
  · rw [z, gL] at q; cases q
  · exact nm z

/-! the star: bound_name -/
inductive BoundAt (P : Params) (nw : Lst) (v : Value) (num j : Nat) : Prop
  | mk {x dx : Addr} {tv cv av ov : Value} {τ : Nat → Tok} {pl : Int} : v = .ref x → pl = (j : Int) → (x, instObj 148 dx) ∈ nw → (dx, dictOf [ent P (Str.ofString "table") (τ 1) tv, ent P (Str.ofString "column") (τ 2) cv, ent P (Str.ofString "source") (τ 3) (.int num (τ 13)), ent P (Str.ofString "place") (τ 4) (.int pl (τ 14)), ent P (Str.ofString "depth") (τ 5) (.int 0 (τ 15)), ent P (Str.ofString "affinity") (τ 6) av, ent P (Str.ofString "collation") (τ 7) ov] 7) ∈ nw → BoundAt P nw v num j
theorem BoundAt.mono {P : Params} {nw nw' : Lst} {v : Value} {num j : Nat} (h : BoundAt P nw v num j) (hs : ∀ p ∈ nw, p ∈ nw') : BoundAt P nw' v num j := by
  cases h with
  | mk e q a b => exact .mk e q (hs _ a) (hs _ b)
abbrev nameO (P : Params) (τ : Nat → Tok) (tb : Value) (c : Str) (tc : Tok) : Obj := dictOf [ent P (Str.ofString "table") (τ 1) tb, ent P (Str.ofString "column") (τ 2) (.str c tc), ent P (Str.ofString "source") (τ 3) .none, ent P (Str.ofString "place") (τ 4) .none, ent P (Str.ofString "depth") (τ 5) (.int 0 (τ 6))] 5
section
variable {prog : Program} {w : World} {p : Program} {loose : List Str} {mean : ExcName → Option Value} {mg mb : Str → Option Value}
theorem bound_ok {nw : Lst} {xn dn : Addr} {τ : Nat → Tok} {tb c : Str} {tt tc : Tok} (hn : (xn, instObj 148 dn) ∈ nw) (hd : (dn, nameO w.params τ (.str tb tt) c tc) ∈ nw) {x : Addr} {d : SrcD} (hs : SrcAt w.params nw x d) {j : Nat} (hj : j < d.cols.length) (hz : d.cols.length ≤ 3) (tj t0 : Tok) :
    ReadC prog w p loose mean mg mb 870 673 [.ref xn, .ref x, .int (0 + (j : Int)) tj, .int 0 t0] nw (fun nw' v => BoundAt w.params nw' v d.num j) := by
  unfold ReadC
  intro dp un gd cn cs a ccd cl outer A₀ base h₀ L m news s Q E B F X N T hk hdp hun hsub ret
  refine wpAny_call ?_
  k_dflt (refine' enter [(Str.ofString "node", .ref xn), (Str.ofString "source", .ref x), (Str.ofString "place", .int (0 + (j : Int)) tj), (Str.ofString "depth", .int 0 t0)] ?k1 ?k2 ?k3 ?k4 ?k5 ?kA ?kF ?kK ?k6 ?k7 ?k8 ?k9 ?kB ?_ ?c2 ?c3 ?c4 ?c5; walk_at "m_enter")
  cases hs with
  | @mk dx cl9 ul τ' num al cols us cvs uvs ncl nul a1 a2 a3 a4 a5 a6 =>
  have hn' := hsub _ hn
  have hd' := hsub _ hd
  have b1 := hsub _ a1
  have b2 := hsub _ a2
  have b3 := hsub _ a3
  have hlc := a4.length
  replace hj : j < cols.length := hj
  replace hz : cols.length ≤ 3 := hz
  obtain ⟨cc, _, t9, n9, q1, q2, q3, et, ht⟩ := a4.get (List.getElem?_eq_getElem (show j < cvs.length by omega))
  have hx9 : cvs[j]? = some (.ref t9) := by rw [List.getElem?_eq_getElem (show j < cvs.length by omega), et]
  have ht9 := hsub _ ht
  have hjz : (j : Int) ≤ 3 := by omega
  clear et
  k_steps
  exact ret _ _ _ _ (by k_asm) (fin_read (by k_asm) (by walk_at "m_splitR")) (by walk_at "m_far") (.mk (τ := tks [0, _, _, _, _, _, _, _, 0, 0, 0, 0, 0, _, _, _]) rfl (Int.zero_add _) (by k_mem) (by k_mem))
end

/-! star_outputs -/
def WantAt (v : Value) (wd : Option Str) : Prop := (v = .none ∧ wd = none) ∨ ∃ s t, v = .str s t ∧ wd = some s ∧ Nm s
def isOwn (wd : Option Str) (d : SrcD) : Bool := match wd with
  | none => true
  | some s => Txt.lower d.al == Txt.lower s
def colOk (wd : Option Str) (d : SrcD) (c : Str) : Bool := wd.isSome || !(d.us.any (· == Txt.lower c))
structure R3 where
  c : Str
  num : Nat
  j : Nat
def colsTo (wd : Option Str) (d : SrcD) : Nat → List R3
  | 0 => []
  | i + 1 => colsTo wd d i ++ (match d.cols[i]? with | some c => if colOk wd d c = true then [⟨c, d.num, i⟩] else [] | none => [])
def ownRows (wd : Option Str) (d : SrcD) : List R3 := if isOwn wd d = true then colsTo wd d d.cols.length else []
def starRows (wd : Option Str) (ds : List SrcD) : List R3 := ds.flatMap (ownRows wd)
theorem colsTo_len (wd : Option Str) (d : SrcD) : ∀ i, (colsTo wd d i).length ≤ i
  | 0 => Nat.le_refl _
  | i + 1 => by
    have := colsTo_len wd d i
    unfold colsTo
    rw [List.length_append]
    split
    · split <;> simp <;> omega
    · simp; omega
theorem starRows_len {wd : Option Str} : ∀ {ds : List SrcD}, (∀ d ∈ ds, d.cols.length ≤ 3) → (starRows wd ds).length ≤ 3 * ds.length
  | [], _ => Nat.le_refl _
  | d :: ds, h => by
    have h1 := starRows_len (wd := wd) (ds := ds) fun d hd => h d (.tail _ hd)
    have h2 := colsTo_len wd d d.cols.length
    have h3 := h d (.head _)
    unfold starRows at h1 ⊢
    rw [List.flatMap_cons, List.length_append, List.length_cons]
    have : (ownRows wd d).length ≤ 3 := by
      unfold ownRows
      split
      · omega
      · exact Nat.zero_le _
    omega
inductive ToldAt (P : Params) (nw : Lst) : List Value → List R3 → Prop
  | nil : ToldAt P nw [] []
  | cons {t : Addr} {n : Nat} {tc : Tok} {bv : Value} {r : R3} {vs : List Value} {rs : List R3} : (t, ({ cls := .type "tuple", data := .seq #[.str r.c tc, bv] n } : Obj)) ∈ nw → BoundAt P nw bv r.num r.j → Nm r.c → ToldAt P nw vs rs → ToldAt P nw (.ref t :: vs) (r :: rs)
theorem ToldAt.mono {P : Params} {nw nw' : Lst} {vs : List Value} {rs : List R3} (h : ToldAt P nw vs rs) (hs : ∀ p ∈ nw, p ∈ nw') : ToldAt P nw' vs rs := by
  induction h with
  | nil => exact .nil
  | cons a b c _ ih => exact .cons (hs _ a) (b.mono hs) c ih
theorem ToldAt.snoc {P : Params} {nw : Lst} {vs : List Value} {rs : List R3} {t : Addr} {n : Nat} {tc : Tok} {bv : Value} {r : R3} (h : ToldAt P nw vs rs) (a : (t, ({ cls := .type "tuple", data := .seq #[.str r.c tc, bv] n } : Obj)) ∈ nw) (b : BoundAt P nw bv r.num r.j) (c : Nm r.c) : ToldAt P nw (vs ++ [.ref t]) (rs ++ [r]) := by
  induction h with
  | nil => exact .cons a b c .nil
  | cons a' b' c' _ ih => exact .cons a' b' c' ih
theorem ToldAt.length {P : Params} {nw : Lst} {vs : List Value} {rs : List R3} (h : ToldAt P nw vs rs) : vs.length = rs.length := by
  induction h with
  | nil => rfl
  | cons _ _ _ _ ih => rw [List.length_cons, List.length_cons, ih]
theorem eq_nil_m {prog : Program} {w : World} {A : Around} {E : Value → Shared → Prop} {s : Shared} {h₀ : Heap} {L a b : Addr} {led : Lst} {vs : List Value} {n k : Nat} {Q : Value → Shared → Prop} (N : News h₀ L s.heap led) (ha : (a, listOf vs.toArray n) ∈ led) (hb : (b, listOf #[] k) ∈ led) (hu : A.units < cLine)
    (h : Q (.bool vs.isEmpty) s) : wpAny (model prog w) A (compareOp .Eq (.ref a) (.ref b)) Q E s := by
  have hl : s.heap.IsList a vs.toArray := ⟨_, (N _ ha).1, rfl, _, rfl⟩
  have hb : s.heap.IsList b #[] := ⟨_, (N _ hb).1, rfl, _, rfl⟩
  cases vs with
  | nil => exact PySem.SeqAt.eq_listAt (e := fun _ => true) hl hb rfl hu (fun i hi => absurd hi (Nat.not_lt_zero i)) (by simpa using h)
  | cons v vs => exact PySem.SeqAt.eq_list_lengthsAt hl hb (by simp) hu h
def StarR (P : Params) (wd : Option Str) (ds : List SrcD) (nw : Lst) (v : Value) : Prop := ∃ (l : Addr) (vs : List Value) (n : Nat), v = .ref l ∧ (l, listOf vs.toArray n) ∈ nw ∧ ToldAt P nw vs (starRows wd ds) ∧ ds.any (isOwn wd) = true
section
variable (prog : Program) (w : World) (p : Program) (loose : List Str) (mean : ExcName → Option Value) (mg mb : Str → Option Value)
/-- a call that reads `nw`, makes new things, or raises -/
def StarC (D : Nat) (f : Addr) (vs : List Value) (nw : Lst) (Out : Lst → Value → Prop) (bad : Prop) : Prop :=
  ∀ (dp un : Nat) (gd : Option (List Code)) (cn : Str) (cs : Scope) (a : Addr) (ccd : Value) (cl : List (Str × Addr)) (outer : List Env) (A₀ : Around) (base h₀ : Heap) (L : Addr) (m : Str → Option Value) (news : Lst) (s : Shared)
    (Q E : Value → Shared → Prop),
    Below A₀ base outer h₀ → Fr h₀ L s.heap m → (top.heap_1_39 w.params).In h₀ → News h₀ L s.heap news → Top p loose mean mg mb h₀ → cs.kind = .function →
    dp < D → un < 5 * D → (∀ q ∈ nw, q ∈ news) →
    (∀ r tl h' tk', Fr h₀ L h' m → News h₀ L h' (tl ++ news) → Far tl news → Out (tl ++ nw) r → Q r { s with heap := h', toks := tk' }) →
    (bad → ∀ G e h' tk', Fr h₀ L G m → G.UpToSlots h' → RaisedM base G (envX cn cs L a ccd cl :: outer) e news h' → E (.ref e) { s with heap := h', toks := tk' }) →
    wpAny (model prog w) (ktrTop dp un gd cn cs L a ccd cl outer) (call (.ref f) vs) Q E s
end
structure StarOn : Prop where
theorem words18_22 : True := by
  k_with "@compareOp Eq ref ref" => (
      (rename StarOn => so9); k_here; (with_reducible show wpAny _ _ (compareOp CmpOp.Eq (Value.ref _) (Value.ref _)) _ _ _)
      k_dflt (refine' eq_nil_m ?dN ?dA ?dB ?dU ?_; (case dN => k_asm); (case dA => k_mem); (case dB => k_mem); (case dU => first | ke_room | ktr_units)); (try rw [show List.isEmpty _ = false by with_reducible assumption]); (try dsimp only))
  k_with "@exec Raise some none" => ((rename StarOn => so9); refine raise51 rfl ?_)
  k_with "@call ref" => (
      k_here; (with_reducible show wpAny _ _ (call (Value.ref 51) _) _ _ _);
      k_dflt (refine' sql_new ?B ?F ?X ?N ?T ?K ?D ?U ?_; (case B => k_asm); (case F => k_asm); (case X => k_asm); (case N => k_asm); (case T => k_asm); (case K => first | exact rfl | assumption); (case D => first | ktr_room | omega); (case U => first | ktr_units | omega));
      intro t8 d8 h' tk' F' N' l1; (try k_lt l1); (try dsimp only))
  k_with "@exec For Name Attribute cons nil" => ((rename StarOn => so9); k_here; (rename Fr _ _ _ _ => lF'); (with_unfolding_all refine' For_turns lF' ?_; k_whole))
  k_with "@call ref" => (
      k_here; (with_reducible show wpAny _ _ (call (Value.ref 569) [Value.str _ _]) _ _ _)
      k_dflt (refine' ReadC.use (fold_ok ?hf _) ?B ?F ?X ?N ?T ?K ?D ?U ?S ?Z ?_; (case hf => with_reducible assumption); walk_at "m_read")
      (obtain ⟨t8, e8⟩ := q9); subst e8; (try dsimp only); (try k_fold))
  trivial
section
variable {prog : Program} {w : World} {p : Program} {loose : List Str} {mean : ExcName → Option Value} {mg mb : Str → Option Value}
theorem star_nil {nw : Lst} {wd : Option Str} {rc drc sc dsc sl al od : Addr} {wv : Value} {τ τ' : Nat → Tok} {nl : Nat} (hc1 : (rc, instObj 510 drc) ∈ nw) (hs1 : (sc, instObj 662 dsc) ∈ nw)
    (hs2 : (dsc, dictOf [ent w.params (Str.ofString "sources") (τ' 1) (.ref sl), ent w.params (Str.ofString "parent") (τ' 2) .none, ent w.params (Str.ofString "aliases") (τ' 3) (.ref al), ent w.params (Str.ofString "catalog") (τ' 4) .none, ent w.params (Str.ofString "counter") (τ' 5) .none, ent w.params (Str.ofString "outer") (τ' 6) (.ref od)] 6) ∈ nw)
    (hl : (sl, listOf ([] : List Value).toArray nl) ∈ nw) : StarC prog w p loose mean mg mb 850 694 [.ref rc, .ref sc] nw (StarR w.params wd []) (([] : List SrcD).any (isOwn wd) = false) := by
  unfold StarC
  intro dp un gd cn cs a ccd cl outer A₀ base h₀ L m news s Q E B F X N T hk hdp hun hsub ret exc
  refine wpAny_call ?_
  k_dflt (refine' enter [(Str.ofString "column", .ref rc), (Str.ofString "scope", .ref sc)] ?k1 ?k2 ?k3 ?k4 ?k5 ?kA ?kF ?kK ?k6 ?k7 ?k8 ?k9 ?kB ?_ ?c2 ?c3 ?c4 ?c5; walk_at "m_enter")
  have hc1' := hsub _ hc1
  have hs1' := hsub _ hs1
  have hs2' := hsub _ hs2
  have hl' := hsub _ hl
  have so9 : StarOn := ⟨⟩
  k_steps
  rename News _ _ _ (_ :: _) => N9
  refine R51.mk t8 d8 rfl (N9 _ (.head _)).1 (X'.keeps (show _ from Fr.keep (by k_asm))) ?_
  show wpAny _ _ (leaving _ (.ref (t8 + 1))) _ _ _
  exact leave51 (news := news) B' (by k_asm) N9 (.head _) (by walk_at "m_sub") (by k_all) fun h9 R9 U9 => exc rfl g' _ h9 _ FG' U9 R9
end

/-! star_outputs, its loops -/
/-- a test whose ways meet -/
def JoinB (h₀ : Heap) (L : Addr) (m : Str → Option Value) (s₀ : Shared) (rest : Bool → Lst → Prop) (b : Bool) (s' : Shared) : Prop :=
  ∃ h' tk' nw', s' = { s₀ with heap := h', toks := tk' } ∧ Fr h₀ L h' m ∧ News h₀ L h' nw' ∧ rest b nw'
theorem joinB {M : Model} {A : Around} {E : Value → Shared → Prop} {s : Shared} {t : Sem Bool} {Q : Bool → Shared → Prop} {h₀ : Heap} {L : Addr} {m : Str → Option Value} (_F : Fr h₀ L s.heap m) (rest : Bool → Lst → Prop)
    (go : wpAny M A t (JoinB h₀ L m s rest) E s) (k : ∀ v h' tk' nw', Fr h₀ L h' m → News h₀ L h' nw' → rest v nw' → Q v { s with heap := h', toks := tk' }) : wpAny M A t Q E s :=
  wpAny_mono go (fun v s' ⟨h', tk', nw', e2, F, N, r⟩ => by subst e2; exact k v h' tk' nw' F N r) fun _ _ e => e
theorem joinB_mk {h₀ : Heap} {L : Addr} {m : Str → Option Value} {s₀ : Shared} {rest : Bool → Lst → Prop} {v : Bool} {h' : Heap} {tk' : Nat} {nw' : Lst} (F : Fr h₀ L h' m) (N : News h₀ L h' nw') (r : rest v nw') : JoinB h₀ L m s₀ rest v { s₀ with heap := h', toks := tk' } := ⟨h', tk', nw', rfl, F, N, r⟩
def WantL (v : Value) (wd : Option Str) : Prop := (v = .none ∧ wd = none) ∨ ∃ s t, v = .str (Txt.lower s) t ∧ wd = some s ∧ Nm s
theorem canonS {a b c x : Str} {m' base : Str → Option Value} {v : Option Value} (hv : m' x = v) (h : ∀ z, z ≠ a → z ≠ b → z ≠ c → z ≠ x → m' z = base z) : m' = fun z => if z = a then m' z else if z = b then m' z else if z = c then m' z else if z = x then v else base z := by
  funext z
  by_cases e1 : z = a
  · simp [e1]
  by_cases e2 : z = b
  · simp [e2]
  by_cases e3 : z = c
  · simp [e3]
  by_cases e4 : z = x
  · rw [if_neg e1, if_neg e2, if_neg e3, if_pos e4, ← hv, e4]
  rw [if_neg e1, if_neg e2, if_neg e3, if_neg e4, h z e1 e2 e3 e4]
theorem canon2 {a b : Str} {m' base : Str → Option Value} (h : ∀ z, z ≠ a → z ≠ b → m' z = base z) : m' = fun z => if z = a then m' z else if z = b then m' z else base z := by
  funext z
  by_cases e1 : z = a
  · simp [e1]
  by_cases e2 : z = b
  · simp [e2]
  rw [if_neg e1, if_neg e2, h z e1 e2]
inductive StarJ (P : Params) (nw₀ : Lst) (wd : Option Str) (ds : List SrcD) (fl I : Addr) (news : Lst) (base : Str → Option Value) (i : Nat) (m : Str → Option Value) (nw : Lst) : Prop
  | mk {u : Str → Option Value} {vs : List Value} {nf : Nat} {V : Lst} : m = (fun z => if z = Str.ofString "source" then u z else if z = Str.ofString "place" then u z else if z = Str.ofString "name" then u z else if z = Str.ofString "is_met" then some (.bool ((ds.take i).any (isOwn wd))) else base z) →
      nw = (fl, listOf vs.toArray nf) :: (V ++ news) → ToldAt P (V ++ nw₀) vs (starRows wd (ds.take i)) → (∀ q ∈ V, q.1 ≠ fl) → (∀ q ∈ V, q.1 ≠ I) → Far V news → StarJ P nw₀ wd ds fl I news base i m nw
inductive TestR (I fl : Addr) (oI oF : Obj) (V news : Lst) (b₀ b : Bool) (nw : Lst) : Prop
  | mk {W : Lst} : b = b₀ → nw = (I, oI) :: (fl, oF) :: (W ++ news) → (∀ q ∈ W, q.1 ≠ fl) → (∀ q ∈ W, q.1 ≠ I) → Far W news → (∀ q ∈ V, q ∈ W) → TestR I fl oI oF V news b₀ b nw
inductive TestR3 (I2 I fl : Addr) (o2 oI oF : Obj) (V news : Lst) (b₀ b : Bool) (nw : Lst) : Prop
  | mk {W : Lst} : b = b₀ → nw = (I2, o2) :: (I, oI) :: (fl, oF) :: (W ++ news) → (∀ q ∈ W, q.1 ≠ fl) → (∀ q ∈ W, q.1 ≠ I) → (∀ q ∈ W, q.1 ≠ I2) → Far W news → (∀ q ∈ V, q ∈ W) → TestR3 I2 I fl o2 oI oF V news b₀ b nw
inductive ColI (P : Params) (nw₀ : Lst) (wd : Option Str) (d : SrcD) (rows : List R3) (fl I I2 : Addr) (oI : Obj) (news : Lst) (base : Str → Option Value) (i : Nat) (m : Str → Option Value) (nw : Lst) : Prop
  | mk {u : Str → Option Value} {vs : List Value} {nf : Nat} {V : Lst} : m = (fun z => if z = Str.ofString "place" then u z else if z = Str.ofString "name" then u z else base z) → nw = (I, oI) :: (fl, listOf vs.toArray nf) :: (V ++ news) → ToldAt P (V ++ nw₀) vs (rows ++ colsTo wd d i) → (∀ q ∈ V, q.1 ≠ fl) → (∀ q ∈ V, q.1 ≠ I) → (∀ q ∈ V, q.1 ≠ I2) → Far V news → ColI P nw₀ wd d rows fl I I2 oI news base i m nw
theorem any_take {f : SrcD → Bool} {ds : List SrcD} {i : Nat} {d : SrcD} (h : ds[i]? = some d) : (ds.take (i + 1)).any f = ((ds.take i).any f || f d) := by rw [take_snoc h, List.any_append, List.any_cons, List.any_nil, Bool.or_false]
theorem rows_take {wd : Option Str} {ds : List SrcD} {i : Nat} {d : SrcD} (h : ds[i]? = some d) : starRows wd (ds.take (i + 1)) = starRows wd (ds.take i) ++ ownRows wd d := by
  unfold starRows
  rw [take_snoc h, List.flatMap_append, List.flatMap_cons, List.flatMap_nil, List.append_nil]
theorem cols_step {wd : Option Str} {d : SrcD} {i : Nat} {c : Str} (h : d.cols[i]? = some c) : colsTo wd d (i + 1) = colsTo wd d i ++ if colOk wd d c = true then [⟨c, d.num, i⟩] else [] := by
  show colsTo wd d i ++ _ = _
  rw [h]
theorem rr_loopB {prog : Program} {w : World} {A : Around} {E : Value → Shared → Prop} {s : Shared} {env : Env} {h₀ : Heap} {x : Str} {body : List Stmt} {Q : Flow → Shared → Prop} {I : Addr} {a : Int} {n : Nat} {m₀ : Str → Option Value} {news₀ : Lst} (J : (Str → Option Value) → Nat → (Str → Option Value) → Lst → Prop) (hJ : J m₀ 0 m₀ news₀)
    (stop : ∀ m nw, J m₀ n m nw → ∀ h tk, Fr h₀ env.locals h m → News h₀ env.locals h nw → Q .next { s with heap := h, toks := tk })
    (turn : ∀ (i : Nat) m nw, i < n → J m₀ i m nw → ∀ t h tk, Fr h₀ env.locals h (fun y => if y = x then some (.int (a + (i : Int)) t) else m y) → News h₀ env.locals h ((I, itR (a + ((i + 1 : Nat) : Int)) ((n : Int) - ((i + 1 : Nat) : Int))) :: nw) →
      wpAny (model prog w) A (execs body env) (UnrPost h₀ env.locals { s with heap := h, toks := tk } I (itR (a + ((i + 1 : Nat) : Int)) ((n : Int) - ((i + 1 : Nat) : Int))) (J m₀ (i + 1)) Q) E { s with heap := h, toks := tk }) :
    RangeRest prog w A E h₀ env x body Q s I a n n 0 m₀ news₀ := rr_loop (J m₀) hJ stop turn
theorem Srcs.few {P : Params} {nw : Lst} {xs : List Addr} {ds : List SrcD} (h : Srcs P nw xs ds) : ∀ d ∈ ds, d.cols.length ≤ 3 := by
  induction h with
  | nil => exact fun _ h => nomatch h
  | cons _ o _ ih => exact List.forall_mem_cons.mpr ⟨o.few, ih⟩
theorem rows_few {P : Params} {nw : Lst} {xs : List Addr} {ds : List SrcD} (h : Srcs P nw xs ds) (hz : xs.length ≤ 3) (wd : Option Str) (i : Nat) : (starRows wd (ds.take i)).length ≤ 9 := by
  have h1 := starRows_len (wd := wd) (ds := ds.take i) fun d hd => h.few d (List.mem_of_mem_take hd)
  have h2 := h.length
  have h3 : (ds.take i).length ≤ ds.length := by rw [List.length_take]; exact Nat.min_le_right _ _
  omega
structure MeetB : Prop where
structure MeetI : Prop where
theorem words19_23 : True := by
  k_with "@isTrue BoolOp" => ((rename MeetB => mb9); refine stop_of ?_)
  k_with "@exec Assign cons IfExp" => ((rename MeetI => mi9); refine stop_of ?_)
  trivial
def Cstar_cons.pack : { P : CxP // (∀ prog w p loose mean mg mb dp un gd cn cs a ccd cl outer A₀ base h₀ L m news s pa x y tx ty n Q E g' L' h' tk' o1 o2, P prog w p loose mean mg mb dp un gd cn cs a ccd cl outer A₀ base h₀ L m news s pa x y tx ty n Q E g' L' h' tk' o1 o2) → ∀ (prog : Program) (w : World) (p : Program) (loose : List Str) (mean : ExcName → Option Value) (mg mb : Str → Option Value), ∀ (nw : Lst) (wd : Option Str) (rc drc sc dsc sl al od : Addr) (wv : Value) (τ τ' : Nat → Tok) (nl : Nat) (xs : List Addr) (ds : List SrcD) (hw : WantAt wv wd) (hc1 : (rc, instObj 510 drc) ∈ nw) (hc2 : (drc, dictOf [ent w.params (Str.ofString "value") (τ 1) .none, ent w.params (Str.ofString "alias") (τ 2) .none, ent w.params (Str.ofString "star_table") (τ 3) wv] 3) ∈ nw) (hs1 : (sc, instObj 662 dsc) ∈ nw) (hs2 : (dsc, dictOf [ent w.params (Str.ofString "sources") (τ' 1) (.ref sl), ent w.params (Str.ofString "parent") (τ' 2) .none, ent w.params (Str.ofString "aliases") (τ' 3) (.ref al), ent w.params (Str.ofString "catalog") (τ' 4) .none, ent w.params (Str.ofString "counter") (τ' 5) .none, ent w.params (Str.ofString "outer") (τ' 6) (.ref od)] 6) ∈ nw) (hl : (sl, listOf (xs.map Value.ref).toArray nl) ∈ nw) (hsr : Srcs w.params nw xs ds) (hxz : xs.length ≤ 3) (hne : xs ≠ []), StarC prog w p loose mean mg mb 850 694 [.ref rc, .ref sc] nw (StarR w.params wd ds) (ds.any (isOwn wd) = false) } := ⟨_, fun h prog w p loose mean mg mb nw wd rc drc sc dsc sl al od wv τ τ' nl xs ds hw hc1 hc2 hs1 hs2 hl hsr hxz hne => by
  unfold StarC
  intro dp un gd cn cs a ccd cl outer A₀ base h₀ L m news s Q E B F X N T hk hdp hun hsub ret exc
  refine wpAny_call ?_
  k_dflt (refine' enter [(Str.ofString "column", .ref rc), (Str.ofString "scope", .ref sc)] ?k1 ?k2 ?k3 ?k4 ?k5 ?kA ?kF ?kK ?k6 ?k7 ?k8 ?k9 ?kB ?_ ?c2 ?c3 ?c4 ?c5; walk_at "m_enterE")
  obtain ⟨pa, -⟩ : ∃ z : Addr, True := ⟨default, trivial⟩
  obtain ⟨x, -⟩ : ∃ z : Int, True := ⟨default, trivial⟩
  obtain ⟨y, -⟩ : ∃ z : Int, True := ⟨default, trivial⟩
  obtain ⟨tx, -⟩ : ∃ z : Tok, True := ⟨default, trivial⟩
  obtain ⟨ty, -⟩ : ∃ z : Tok, True := ⟨default, trivial⟩
  obtain ⟨n, -⟩ : ∃ z : Nat, True := ⟨default, trivial⟩
  obtain ⟨tk', -⟩ : ∃ z : Nat, True := ⟨default, trivial⟩
  obtain ⟨o1, -⟩ : ∃ z : Obj, True := ⟨default, trivial⟩
  obtain ⟨o2, -⟩ : ∃ z : Obj, True := ⟨default, trivial⟩
  revert T'
  revert X'
  revert B'
  revert N'
  revert F'
  revert FG'
  revert exc
  revert ret
  revert hsub
  revert hun
  revert hdp
  revert hk
  revert T
  revert N
  revert X
  revert F
  revert B
  revert nw wd rc drc sc dsc sl al od wv τ τ' nl xs ds hw hc1 hc2 hs1 hs2 hl hsr hxz hne
  exact h prog w p loose mean mg mb dp un gd cn cs a ccd cl outer A₀ base h₀ L m news s pa x y tx ty n Q E g' L' h' tk' o1 o2⟩
noncomputable def Cstar_cons.c : Cx := bad Cstar_cons.pack.1
noncomputable def Cstar_cons.prog : Program := Cstar_cons.c.prog
noncomputable def Cstar_cons.w : World := Cstar_cons.c.w
noncomputable def Cstar_cons.p : Program := Cstar_cons.c.p
noncomputable def Cstar_cons.loose : List Str := Cstar_cons.c.loose
noncomputable def Cstar_cons.mean : ExcName → Option Value := Cstar_cons.c.mean
noncomputable def Cstar_cons.mg : Str → Option Value := Cstar_cons.c.mg
noncomputable def Cstar_cons.mb : Str → Option Value := Cstar_cons.c.mb
noncomputable def Cstar_cons.dp : Nat := Cstar_cons.c.dp
noncomputable def Cstar_cons.un : Nat := Cstar_cons.c.un
noncomputable def Cstar_cons.gd : Option (List Code) := Cstar_cons.c.gd
noncomputable def Cstar_cons.cn : Str := Cstar_cons.c.cn
noncomputable def Cstar_cons.cs : Scope := Cstar_cons.c.cs
noncomputable def Cstar_cons.a : Addr := Cstar_cons.c.a
noncomputable def Cstar_cons.ccd : Value := Cstar_cons.c.ccd
noncomputable def Cstar_cons.cl : List (Str × Addr) := Cstar_cons.c.cl
noncomputable def Cstar_cons.outer : List Env := Cstar_cons.c.outer
noncomputable def Cstar_cons.A₀ : Around := Cstar_cons.c.A₀
noncomputable def Cstar_cons.base : Heap := Cstar_cons.c.base
noncomputable def Cstar_cons.h₀ : Heap := Cstar_cons.c.h₀
noncomputable def Cstar_cons.L : Addr := Cstar_cons.c.L
noncomputable def Cstar_cons.m : Str → Option Value := Cstar_cons.c.m
noncomputable def Cstar_cons.news : Lst := Cstar_cons.c.news
noncomputable def Cstar_cons.s : Shared := Cstar_cons.c.s
noncomputable def Cstar_cons.pa : Addr := Cstar_cons.c.pa
noncomputable def Cstar_cons.x : Int := Cstar_cons.c.x
noncomputable def Cstar_cons.y : Int := Cstar_cons.c.y
noncomputable def Cstar_cons.tx : Tok := Cstar_cons.c.tx
noncomputable def Cstar_cons.ty : Tok := Cstar_cons.c.ty
noncomputable def Cstar_cons.n : Nat := Cstar_cons.c.n
noncomputable def Cstar_cons.Q : Value → Shared → Prop := Cstar_cons.c.Q
noncomputable def Cstar_cons.E : Value → Shared → Prop := Cstar_cons.c.E
noncomputable def Cstar_cons.g' : Heap := Cstar_cons.c.g'
noncomputable def Cstar_cons.L' : Addr := Cstar_cons.c.L'
noncomputable def Cstar_cons.h' : Heap := Cstar_cons.c.h'
noncomputable def Cstar_cons.tk' : Nat := Cstar_cons.c.tk'
noncomputable def Cstar_cons.o1 : Obj := Cstar_cons.c.o1
noncomputable def Cstar_cons.o2 : Obj := Cstar_cons.c.o2
open Cstar_cons in
theorem Cstar_cons.core : Cstar_cons.pack.1 Cstar_cons.prog Cstar_cons.w Cstar_cons.p Cstar_cons.loose Cstar_cons.mean Cstar_cons.mg Cstar_cons.mb Cstar_cons.dp Cstar_cons.un Cstar_cons.gd Cstar_cons.cn Cstar_cons.cs Cstar_cons.a Cstar_cons.ccd Cstar_cons.cl Cstar_cons.outer Cstar_cons.A₀ Cstar_cons.base Cstar_cons.h₀ Cstar_cons.L Cstar_cons.m Cstar_cons.news Cstar_cons.s Cstar_cons.pa Cstar_cons.x Cstar_cons.y Cstar_cons.tx Cstar_cons.ty Cstar_cons.n Cstar_cons.Q Cstar_cons.E Cstar_cons.g' Cstar_cons.L' Cstar_cons.h' Cstar_cons.tk' Cstar_cons.o1 Cstar_cons.o2 := by
  dsimp only [Cstar_cons.pack]
  intro nw wd rc drc sc dsc sl al od wv τ τ' nl xs ds hw hc1 hc2 hs1 hs2 hl hsr hxz hne B F X N T hk hdp hun hsub ret exc FG' F' N' B' X' T'
  (try dsimp only); (try k_fold)
  have hc1' := hsub _ hc1
  have hc2' := hsub _ hc2
  have hs1' := hsub _ hs1
  have hs2' := hsub _ hs2
  have hl' := hsub _ hl
  have hsr' := hsr.mono hsub
  have hie : (xs.map Value.ref).isEmpty = false := by cases xs with | nil => exact absurd rfl hne | cons _ _ => rfl
  have so9 : StarOn := ⟨⟩
  have halt : Halt := ⟨⟩
  have mi9 : MeetI := ⟨⟩
  have hwh : handedIn wv = true := by rcases hw with ⟨rfl, _⟩ | ⟨s, t, rfl, _⟩ <;> rfl
  k_steps
  refine ⟨?_⟩
  refine joinV (h₀ := g') (L := L') (by k_asm) (Str.ofString "wanted") (fun v nw' => ∃ (Z : Lst), nw' = Z ++ news ∧ Far Z news ∧ WantL v wd) ?go ?k
  case go =>
    (rename MeetI => mi9); clear mi9
    rcases hw with ⟨rfl, rfl⟩ | ⟨sw, tw, rfl, rfl, hnm⟩
    · k_steps
      rename News _ _ _ _ => N0
      exact joinP (by k_asm) (fin_read N0 (by walk_at "m_splitR")) ⟨_, rfl, _, rfl, by walk_at "m_far", .inl ⟨rfl, rfl⟩⟩
    · k_steps
      rename News _ _ _ _ => N0
      exact joinP (by k_asm) (fin_read N0 (by walk_at "m_splitR")) ⟨_, rfl, _, rfl, by walk_at "m_far", .inr ⟨sw, _, rfl, rfl, hnm⟩⟩
  case k =>
    rintro wv2 h' tk' nw' F' N' ⟨Z, rfl, fZ, hwl⟩
    (rename MeetI => mi9); clear mi9
    k_steps
    refine ⟨?_⟩
    obtain ⟨fl, efl⟩ : ∃ z, z = ln := ⟨_, rfl⟩
    subst efl
    rename News _ _ _ (_ :: _) => N0
    obtain ⟨V9, hV9, NL⟩ := led_endX (ps := [(fl, _)]) (base := news) N0 (by walk_at "m_pulls") (by walk_at "m_splitR")
    simp only [List.cons_append, List.nil_append] at NL
    have z1 : ∀ q ∈ V9, q.1 ≠ fl := by subst hV9; k_all
    have z2 : Far V9 news := by subst hV9; walk_at "m_far"
    have z3 : ∀ q ∈ news, q.1 ≠ fl := by k_all
    clear hV9
    refine iter_listTurns (vs := xs.map Value.ref) (n := nl) rfl (by k_asm) NL (List.mem_cons_of_mem _ (List.mem_append_right _ hl')) rfl rfl ?_
    intro I hI
    have lI := allLt_of hI
    have y1 : ∀ q ∈ V9, q.1 ≠ I := allLt_ne lI (by walk_at "m_sub")
    have y2 : ∀ q ∈ news, q.1 ≠ I := allLt_ne lI (by walk_at "m_sub")
    have y3 : @Ne Nat I fl := ltneA lI (by k_mem)
    refine rl_loop (StarJ w.params nw wd ds fl I news (fun y => if y = Str.ofString "found" then some (Value.ref fl) else if y = Str.ofString "wanted" then some wv2 else List.lookup y [(Str.ofString "column", Value.ref rc), (Str.ofString "scope", Value.ref sc)].reverse)) ?_ ?_ ?_
    · refine .mk (vs := []) (nf := 0) (canonS ?hv ?hc) rfl .nil z1 y1 z2
      case hv => exact (if_neg (by decide +kernel)).trans (if_pos rfl)
      case hc => exact fun z a1 a2 a3 a4 => by simp only [a4, if_false]
    · walk_at "m_forget"
      rintro m' nw' hj h' tk' F' N'
      cases hj with
      | @mk u vs nf V em en hto nF nI fV =>
      subst em en
      rw [List.take_of_length_le (by rw [List.length_map, hsr.length]; exact Nat.le_refl _)] at hto F'
      rcases hany : ds.any (isOwn wd) with _ | _
      · simp only [hany] at F'
        --S A
        rcases hw with ⟨rfl, rfl⟩ | ⟨sw, tw, rfl, rfl, hnm⟩
        · exfalso
          cases hsr with
          | nil => exact hne rfl
          | cons _ _ _ => simp [isOwn] at hany
        · have hsl : sw.length ≤ 2 := hnm.short
          k_steps
          rename News _ _ _ (_ :: _) => N9
          refine R51.mk t8 d8 rfl (N9 _ (.head _)).1 (X'.keeps (show _ from Fr.keep (by k_asm))) ?_
          show wpAny _ _ (leaving _ (.ref (t8 + 1))) _ _ _
          exact leave51 (news := news) B' (by k_asm) N9 (.head _) (by walk_at "m_sub") (by k_all) fun h9 R9 U9 => exc hany g' _ h9 _ FG' U9 R9
        --/S A
      · simp only [hany] at F'
        k_steps
        exact ret _ _ _ _ (by k_asm) (fin_read (by k_asm) (by walk_at "m_splitR")) (by walk_at "m_far") ⟨fl, vs, nf, rfl, by k_mem, hto.mono (by walk_at "m_sub"), hany⟩
    · walk_at "m_forget"
      rintro i v m' nw' hv hj it h' tk' hit F' N'
      cases hj with
      | @mk u vs nf V em en hto nF nI fV =>
      subst em en
      obtain ⟨x, hx, ev⟩ : ∃ x, xs[i]? = some x ∧ v = .ref x := by
        rw [List.getElem?_map] at hv
        obtain ⟨x, hx, e⟩ := Option.map_eq_some_iff.mp hv
        exact ⟨x, hx, e.symm⟩
      subst ev
      obtain ⟨d, hd, hsa, hso⟩ := hsr.get hx
      have hsa' := hsa
      cases hsa with
      | @mk dx cl9 ul τ9 num al9 cols us cvs uvs ncl nul b1 b2 b3 a4 b5 a6 =>
      have a1 := hsub _ b1
      have a2 := hsub _ b2
      have a3 := hsub _ b3
      have a5 := hsub _ b5
      have hal : Nm al9 := hso.al
      have hcn : ∀ c ∈ cols, Nm c := hso.cols
      have hlc := a4.length
      have hl1 : cvs.length ≤ 1000 := Nat.le_trans (Nat.le_of_eq hlc) (Nat.le_trans hso.few (Nat.le_of_ble_eq_true rfl))
      have mb9 : MeetB := ⟨⟩
      k_steps
      refine ⟨?_⟩
      refine joinB (h₀ := g') (L := L') (by k_asm) (TestR I fl it (listOf vs.toArray nf) V news (isOwn wd ⟨num, al9, cols, us⟩)) ?go ?k
      case go =>
        (rename MeetB => mb9); clear mb9
        rcases hwl with ⟨rfl, rfl⟩ | ⟨sw, tw, rfl, rfl, hnm⟩
        · k_steps
          rename News _ _ _ _ => N9
          have NL := led2 (e1 := (I, _)) (e2 := (fl, _)) (base := news) N9 (by walk_at "m_pulls") (by walk_at "m_splitR")
          exact joinB_mk (by k_asm) NL (.mk rfl rfl (by k_all) (by k_all) (by walk_at "m_far") (by walk_at "m_sub"))
        · k_steps
          all_goals (
            rename News _ _ _ _ => N9
            have NL := led2 (e1 := (I, _)) (e2 := (fl, _)) (base := news) N9 (by walk_at "m_pulls") (by walk_at "m_splitR")
            exact joinB_mk (by k_asm) NL (.mk (by unfold isOwn; exact Eq.symm (by with_reducible assumption)) rfl (by k_all) (by k_all) (by walk_at "m_far") (by walk_at "m_sub")))
      case k =>
        rintro b h2 tk2 nw2 F2 N2 ht
        cases ht with
        | @mk W eb en wF wI fW hVW =>
        subst eb en
        (rename MeetB => mb9); clear mb9
        have q1 : Str.ofString "is_met" ≠ Str.ofString "source" := by decide +kernel
        have q2 : Str.ofString "is_met" ≠ Str.ofString "place" := by decide +kernel
        have q3 : Str.ofString "is_met" ≠ Str.ofString "name" := by decide +kernel
        rcases hb : isOwn wd ⟨num, al9, cols, us⟩ with _ | _
        · --S B
          k_steps
          refine ⟨?_⟩
          rename News _ _ _ (_ :: _) => N0
          have NL := led2 (e1 := (I, _)) (e2 := (fl, _)) (base := news) N0 (by walk_at "m_pulls") (by walk_at "m_splitR")
          refine unrW_led (by k_asm) NL (by k_all) (by k_mem) (.mk (canonS ?hv ?hc) rfl ?ht (by k_all) (by k_all) (by walk_at "m_far"))
          case hv =>
            rw [any_take hd, hb, Bool.or_false]
            simp only [q1, q2, q3, if_false, if_true]
          case hc => exact fun z a1 a2 a3 a4 => by walk_at "m_off"
          case ht =>
            rw [(show starRows wd (ds.take (i + 1)) = starRows wd (ds.take i) by rw [rows_take hd, ownRows, hb, if_neg (by decide), List.append_nil])]
            exact hto.mono (by walk_at "m_sub")
          --/S B
        · k_steps
          refine ⟨?_⟩
          refine iter_rangeUnr (n := cols.length) rfl (by assumption) ?small ?size (by k_asm) (by k_asm) ?_
          case small =>
            exact small_one (by omega) (by omega) (by omega) (by omega)
          case size => rw [← hlc]; exact rangeSize_nat _ _
          intro I2 hI2
          have lI2 := allLt_of hI2
          have w1 : ∀ q ∈ W, q.1 ≠ I2 := allLt_ne lI2 (by walk_at "m_sub")
          have w2 : ∀ q ∈ news, q.1 ≠ I2 := allLt_ne lI2 (by walk_at "m_sub")
          have w3 : @Ne Nat I2 fl := ltneA lI2 (by k_mem)
          have w4 : @Ne Nat I2 I := ltneA lI2 (by k_mem)
          refine rr_loopB (ColI w.params nw wd ⟨num, al9, cols, us⟩ (starRows wd (ds.take i)) fl I I2 it news) ?_ ?_ ?_
          · exact .mk (canon2 fun _ _ _ => rfl) rfl (by rw [show colsTo wd ⟨num, al9, cols, us⟩ 0 = [] from rfl, List.append_nil]; exact hto.mono (by walk_at "m_sub")) wF wI w1 fW
          · walk_at "m_forget"
            rintro m' nw' hj h' tk' F' N'
            cases hj with
            | @mk u vs nf V em en hto nF nI nJ fV =>
            subst em en
            k_steps
            refine ⟨?_⟩
            refine unrW_led (by k_asm) (by k_asm) (by k_all) (by k_mem) (.mk (canonS ?hv ?hc) rfl ?ht nF nI fV)
            case hv =>
              rw [any_take hd, hb, Bool.or_true]
              simp only [q1, q2, q3, if_false, if_true]
            case hc => exact fun z a1 a2 a3 a4 => by walk_at "m_off"
            case ht =>
              rw [(show starRows wd (ds.take (i + 1)) = starRows wd (ds.take i) ++ colsTo wd ⟨num, al9, cols, us⟩ cols.length by rw [rows_take hd, ownRows, if_pos hb])]
              exact hto
          · walk_at "m_forget"
            rintro j m' nw' hj7 hj t' h' tk' F' N'
            cases hj with
            | @mk u vs nf V em en hto nF nI nJ fV =>
            subst em en
            obtain ⟨cc, hcc, t9, n9, r1, r2, r3, et, ht0⟩ := a4.get (List.getElem?_eq_getElem (show j < cvs.length by omega))
            have hx9 : cvs[j]? = some (.ref t9) := by rw [List.getElem?_eq_getElem (show j < cvs.length by omega), et]
            have hnc : Nm cc := hcn cc (List.mem_of_getElem? hcc)
            have hjz : (j : Int) ≤ 1000 := by omega
            have ht := hsub _ ht0
            clear et
            have mb9 : MeetB := ⟨⟩
            k_steps
            refine ⟨?_⟩
            refine joinB (h₀ := g') (L := L') (by k_asm) (TestR3 I2 I fl (itR (0 + ((j + 1 : Nat) : Int)) ((cols.length : Int) - ((j + 1 : Nat) : Int))) it (listOf vs.toArray nf) V news (colOk wd ⟨num, al9, cols, us⟩ cc)) ?go2 ?k2
            case go2 =>
              (rename MeetB => mb9); clear mb9
              rcases hwl with ⟨rfl, rfl⟩ | ⟨sw, tw, rfl, rfl, hnm⟩
              · k_steps
                rename News _ _ _ _ => nq9
                refine' notin_list_strs (vs := uvs) (ys := us) ?hl ?ns ?_
                case hl => exact ⟨listOf uvs.toArray nul, (nq9 (ul, listOf uvs.toArray nul) (by k_mem)).1, rfl, nul, rfl⟩
                case ns => exact a6
                k_steps
                all_goals (
                  rename News _ _ _ _ => N9
                  have NL := led3 (e1 := (I2, _)) (e2 := (I, _)) (e3 := (fl, _)) (base := news) N9 (by walk_at "m_pulls") (by walk_at "m_splitR")
                  exact joinB_mk (by k_asm) NL (.mk (by unfold colOk; simp_all) rfl (by k_all) (by k_all) (by k_all) (by walk_at "m_far") (by walk_at "m_sub")))
              · k_steps
                rename News _ _ _ _ => N9
                have NL := led3 (e1 := (I2, _)) (e2 := (I, _)) (e3 := (fl, _)) (base := news) N9 (by walk_at "m_pulls") (by walk_at "m_splitR")
                exact joinB_mk (by k_asm) NL (.mk rfl rfl (by k_all) (by k_all) (by k_all) (by walk_at "m_far") (by walk_at "m_sub"))
            case k2 =>
              rintro b h3 tk3 nw3 F3 N3 ht3
              cases ht3 with
              | @mk W3 eb en wF3 wI3 wJ3 fW3 hVW3 =>
              subst eb en
              (rename MeetB => mb9); clear mb9
              rcases hc7 : colOk wd ⟨num, al9, cols, us⟩ cc with _ | _
              · k_steps
                refine ⟨?_⟩
                refine unr_led (by k_asm) (by k_asm) (by k_all) (.mk (canon2 fun z a1 a2 => by walk_at "m_off") rfl ?ht wF3 wI3 wJ3 fW3)
                case ht =>
                  rw [cols_step (d := ⟨num, al9, cols, us⟩) hcc, hc7, if_neg (by decide), List.append_nil]
                  exact hto.mono (by walk_at "m_sub")
              · k_with "call ref" => ((with_reducible show wpAny _ _ (call (Value.ref 673) _) _ _ _); k_dflt (refine' ReadC.use (bound_ok (nw := (x', instObj 148 d') :: (d', nameO w.params τ' (.str al9 (τ9 12)) cc r1) :: nw) ?hn ?hd ?hs ?hj ?hz _ _) ?B ?F ?X ?N ?T ?K ?D ?U ?S ?Z ?_; (case B => k_asm); (case F => k_asm); (case X => k_asm); (case N => k_asm); (case T => k_asm); (case K => first | exact rfl | assumption); (case D => first | ktr_room | omega); (case U => first | ktr_units | omega); (case S => walk_at "m_sub"); (case hn => exact .head _); (case hd => exact .tail _ (.head _)); (case hs => exact hsa'.mono (by walk_at "m_sub")); (case hj => exact hj7); (case hz => exact hso.few); (case Z => intro tl; walk_at "m_sift")); intro r9 tl9 h9 tk9 F9 N9 f9 q9; (try dsimp only); (try k_fold))
                have kd9 : KindOn := ⟨⟩
                have hvz : vs.length ≤ 1000 := by
                  have e1 := hto.length
                  have e2 := rows_few hsr hxz wd i
                  have e3 := colsTo_len wd ⟨num, al9, cols, us⟩ j
                  have e4 : cols.length ≤ 3 := hso.few
                  rw [List.length_append] at e1
                  omega
                k_steps
                refine ⟨?_⟩
                rename News _ _ _ (_ :: _) => N0
                have NL := led3 (e1 := (I2, _)) (e2 := (I, _)) (e3 := (fl, _)) (base := news) N0 (by walk_at "m_pulls") (by walk_at "m_splitR")
                refine unr_led (by k_asm) NL (by k_all) (.mk (canon2 fun z a1 a2 => by walk_at "m_off") rfl ?ht (by k_all) (by k_all) (by k_all) (by walk_at "m_far"))
                case ht =>
                  rw [(show starRows wd (ds.take i) ++ colsTo wd ⟨num, al9, cols, us⟩ (j + 1) = (starRows wd (ds.take i) ++ colsTo wd ⟨num, al9, cols, us⟩ j) ++ [⟨cc, num, j⟩] by rw [cols_step (d := ⟨num, al9, cols, us⟩) hcc, if_pos hc7, List.append_assoc])]
                  refine' ToldAt.snoc (r := ⟨cc, num, j⟩) ?g0 ?g1 ?g2 hnc
                  case g0 => exact hto.mono (by walk_at "m_sub")
                  case g1 => k_mem
                  case g2 => exact BoundAt.mono q9 (by walk_at "m_sub")
theorem star_cons {prog : Program} {w : World} {p : Program} {loose : List Str} {mean : ExcName → Option Value} {mg mb : Str → Option Value} {nw : Lst} {wd : Option Str} {rc drc sc dsc sl al od : Addr} {wv : Value} {τ τ' : Nat → Tok} {nl : Nat} {xs : List Addr} {ds : List SrcD} (hw : WantAt wv wd) (hc1 : (rc, instObj 510 drc) ∈ nw) (hc2 : (drc, dictOf [ent w.params (Str.ofString "value") (τ 1) .none, ent w.params (Str.ofString "alias") (τ 2) .none, ent w.params (Str.ofString "star_table") (τ 3) wv] 3) ∈ nw) (hs1 : (sc, instObj 662 dsc) ∈ nw) (hs2 : (dsc, dictOf [ent w.params (Str.ofString "sources") (τ' 1) (.ref sl), ent w.params (Str.ofString "parent") (τ' 2) .none, ent w.params (Str.ofString "aliases") (τ' 3) (.ref al), ent w.params (Str.ofString "catalog") (τ' 4) .none, ent w.params (Str.ofString "counter") (τ' 5) .none, ent w.params (Str.ofString "outer") (τ' 6) (.ref od)] 6) ∈ nw) (hl : (sl, listOf (xs.map Value.ref).toArray nl) ∈ nw) (hsr : Srcs w.params nw xs ds) (hxz : xs.length ≤ 3) (hne : xs ≠ []) : StarC prog w p loose mean mg mb 850 694 [.ref rc, .ref sc] nw (StarR w.params wd ds) (ds.any (isOwn wd) = false) := Cstar_cons.pack.2 (of_bad (by with_unfolding_all exact Cstar_cons.core)) prog w p loose mean mg mb nw wd rc drc sc dsc sl al od wv τ τ' nl xs ds hw hc1 hc2 hs1 hs2 hl hsr hxz hne

/-! _law_star_right: its frame, a try and what it catches -/
section
variable {prog : Program} {w : World} {A₀ A : Around} {s : Shared} {base h₀ : Heap} {L : Addr} {m : Str → Option Value} {news : Lst} {K : Frag} {p : Program} {loose : List Str} {mean : ExcName → Option Value} {mg mb : Str → Option Value}
  {R : Result → Shared → Prop} {name qual : Str} {params : Arguments} {body : List Stmt} {scope : Scope} {dV kV doc pm cdv ct oc : Value} {an od : Option Addr} {osl : Array (Option Value)} {f : Addr} {args : Args}
/-- a call of a function that catches: the ground's frame may turn -/
theorem enterT {env : Env} (binds : List (Str × Value)) (B : Below A₀ base [] h₀) (F : Fr h₀ L s.heap m) (X₀ : K.In h₀) (N : News h₀ L s.heap news) (T : Top p loose mean mg mb h₀) (hA : A.frames = some [env]) (hf : env.frame = some L) (hke : env.scope.kind = .function)
    (ho : K.lookup f = some ⟨oc, od, .func (fnOf name qual params body scope dV kV doc pm an cdv ct), osl⟩) (hcd : codeIn K cdv qual = true) (hroom : A.depth < recursionLimit)
    (hbind : BindsTo s (fnOf name qual params body scope dV kV doc pm an cdv ct) args binds) (hkind : (binds.all fun y => scope.names.lookup y.1 == some .local || scope.names.lookup y.1 == some .cell) = true)
    (hnd : ((cellsFrom 0 scope.names []).map (·.1)).Nodup)
    (h : ∀ g L' h₁ tk cells, Fr h₀ L g m → Fr g L' h₁ (bindL (envOfC qual scope L' f cdv).kindOf binds fun _ => none) → News g L' h₁ (cells ++ news) →
      CellsAre (bindC (envOfC qual scope L' f cdv).kindOf binds fun _ => none) (cellsFrom (L' + 1) scope.names []) cells → Below A base [env] g → K.In g → Top p loose mean mg mb g → (∀ p ∈ news, p.1 < L') →
      wpAny (model prog w) (A.deeper (envOfC qual scope L' f cdv)) (execs body (envOfC qual scope L' f cdv))
        (fun fl s' => LeaveS0 [L] h₀ L m g R (match fl with | .ret v => v | _ => .none) s')
        (fun e s' => wpAny (model prog w) (A.deeper (envOfC qual scope L' f cdv)) (leaving (envOfC qual scope L' f cdv) e) (fun _ s'' => R (.error e) s'') (fun e' s'' => R (.error e') s'') s')
        { s with heap := h₁, toks := tk })
    (hco : scope.isCoroutine = false) (hgen : scope.isGenerator = false) (hk : scope.kind = .function) : codeAny (model prog w) A (.call (.ref f) args) R s := by
  obtain ⟨FG, BG, st, _⟩ := groundX (R := R) B F N hA hf hke
  obtain ⟨oL, es, ep, hLg, hLd, hLk, hLf⟩ := FG.ns
  refine codeAny_call_function hroom ((X₀.keeps F.keep) _ _ ho) rfl hco hgen rfl (codeRec_of (X₀.keeps F.keep) hcd) (hbind _ _ _ _ ?_)
  refine wpAny_newFunctionEnv_cells hk (kindsX hkind _) fun env' he s' x => ?_
  subst he
  refine ⟨(T.nolimit.keeps F.keep).keeps x.toInCall.keep, codeAny_func ?_⟩
  obtain ⟨h₁, tk, rfl, _⟩ := x.done
  have hk₁ := x.toInCall.keep
  obtain ⟨cells, NC, Y⟩ := Cl.news (h₀ := s.heap) (Nat.le_refl _) fun n c hm => ⟨x.cell n c (lookup_of_mem_nodup (cellsFrom_names scope.names 0 (s.heap.objs.size + 1) [] [] rfl ▸ hnd) hm), x.above n c hm⟩
  refine wpAny_mono (h _ s.heap.objs.size h₁ tk cells FG ⟨x.toInCall.ns, fun b o e => hk₁ b o (of_hideAll _ e), Nat.le_of_eq (hideAll_size _ _)⟩ (fun p hp => ?_) Y BG (X₀.keeps st) (T.keeps st) (fun p hp => Heap.lt_size (N p hp).1)) (fun fl s' hl => ?_) fun _ _ y => y
  · rcases List.mem_append.mp hp with hp | hp
    · refine ⟨(NC p hp).1, (NC p hp).2.1, ?_⟩
      cases q : (hideAll s.heap (news.map (·.1))).get? p.1 with
      | none => rfl
      | some o => have := of_hideAll _ q; rw [(NC p hp).2.2] at this; cases this
    · exact ⟨hk₁ _ _ (N p hp).1, Nat.ne_of_lt (Heap.lt_size (N p hp).1), hideAll_none _ (List.mem_map_of_mem hp)⟩
  · obtain ⟨g', L', m', news', T', F', N', k⟩ := hl
    have nL₀ : h₀.get? L = none := kts_self F
    obtain ⟨sl, hs⟩ := T'.up hLg
    refine k ⟨⟨_, es, ep, F'.keep _ _ hs, hLd, hLk, hLf⟩, fun b o e => F'.keep b o (T'.other b o (st b o e) (fun q => by rw [List.mem_singleton.mp q, nL₀] at e; cases e)), F.above⟩ fun p hp => ⟨(N' p hp).1, fun q => ?_, ?_⟩
    · have := (N' p hp).2.2; rw [q, hs] at this; cases this
    · cases q : h₀.get? p.1 with
      | none => rfl
      | some o =>
        obtain ⟨sl', hs'⟩ := T'.up (st _ _ q)
        have := (N' p hp).2.2
        rw [hs'] at this
        cases this
end
section
variable {A : Around} {base g G B h₅ : Heap} {outer : List Env} {env : Env} {L : Addr} {m : Str → Option Value}
theorem frame_or (hf : env.frame = some L) {b : Addr} (hm : b ∈ (env :: outer).filterMap (·.frame)) : b = L ∨ b ∈ outer.filterMap (·.frame) := by
  obtain ⟨e, he, hb⟩ := List.mem_filterMap.mp hm
  rcases List.mem_cons.mp he with rfl | he
  · exact .inl (Option.some.inj (hb.symm.trans hf))
  · exact .inr (List.mem_filterMap.mpr ⟨e, he, hb⟩)
theorem groundM (hf : env.frame = some L) (K : Below A base outer g) (F : Fr g L G m) (hBG : ∀ b o, G.get? b = some o → b ∉ (env :: outer).filterMap (·.frame) → B.get? b = some o) (hBh : B.StaysIn h₅) (hsm : G.UpToSlots h₅) :
    ∃ g', KtsTurn (outer.filterMap (·.frame)) g g' ∧ Fr g' L h₅ m ∧ Below A base outer g' := by
  obtain ⟨T, S⟩ := kts_turn_at (h := h₅) (fs := outer.filterMap (·.frame)) (g := g)
    (fun b hb => by
      obtain ⟨_, o, ho, _⟩ := K.frames.mem hb
      exact ⟨o, ho⟩)
    (fun b o e nm => hBh b o (hBG b o (F.keep b o e) (fun hm => by
      rcases frame_or hf hm with z | z
      · rw [z, kts_self F] at e
        cases e
      · exact nm z)))
    (fun b o e hm => by
      obtain ⟨_, o', ho', hd⟩ := K.frames.mem hm
      rw [e] at ho'
      cases ho'
      exact hsm b o (F.keep b o e) hd)
  refine ⟨_, T, ⟨hsm.ns F.ns, S, by rw [T.size]; exact F.above⟩, ⟨K.stack, fun b o e => T.other b o (K.stays b o e) (fun hm => by
    rw [(K.frames.mem hm).1] at e
    cases e), K.frames.of_keeps fun b o e _ => ?_⟩⟩
  obtain ⟨sl, hs⟩ := T.up e
  exact ⟨_, hs, rfl⟩
end
section
variable {prog : Program} {w : World} {A : Around} {E : Value → Shared → Prop} {s' : Shared} {base g G : Heap} {outer : List Env} {L a e : Addr} {m : Str → Option Value} {name : Str} {scope : Scope} {cd : Value} {cl : List (Str × Addr)}
  {b₀ : Stmt} {suite : List Stmt} {pos np : Pos} {rest : List ExceptHandler} {Q : Flow → Shared → Prop} {news : Lst} {p : Program} {loose : List Str} {mean : ExcName → Option Value} {mg mb : Str → Option Value}
/-- an own exception is caught by its class -/
theorem caughtM (R : RaisedM base G (envX name scope L a cd cl :: outer) e news s'.heap) (F : Fr g L G m) (Kb : Below A base outer g) (hsm : G.UpToSlots s'.heap) (XB : (top.heap_1_39 w.params).In base) (TB : Top p loose mean mg mb base)
    (k : ∀ h' g', KtsTurn (outer.filterMap (·.frame)) g g' → Fr g' L h' m → News g' L h' news → Below A base outer g' → (top.heap_1_39 w.params).In g' → Top p loose mean mg mb g' →
      wpAny (model prog w) ((A.deeper (envX name scope L a cd cl)).mark (some (.ref e))) (execs (b₀ :: suite) (envX name scope L a cd cl)) Q E { s' with heap := h' })
    (ex : nsIn (top.heap_1_39 w.params) mainGlobals (Str.ofString "SqlError") = some (some (.ref 51))) (hk : scope.kind = .function) (hx : (envX name scope L a cd cl).kindOf (Str.ofString "SqlError") = some .globalImplicit)
    (hE : PassesOwnAt (model prog w) ((A.deeper (envX name scope L a cd cl)).mark (some (.ref e))) (A.deeper (envX name scope L a cd cl)) (envX name scope L a cd cl) E) :
    wpAny (model prog w) (A.deeper (envX name scope L a cd cl)) (noteFrame (.ref e) (envX name scope L a cd cl))
      (fun _ s₂ => wpAny (model prog w) (A.deeper (envX name scope L a cd cl)) (setFlight (.ref e) none) (fun _ s₃ =>
        wpAny (model prog w) (A.deeper (envX name scope L a cd cl)) (handleBy (.ref e) (envX name scope L a cd cl) (.ExceptHandler (some (.Name (Str.ofString "SqlError") np)) none (b₀ :: suite) pos :: rest)) Q E s₃) E s₂) E s' := by
  obtain ⟨B, a0, hB, hBG, hl, hfl⟩ := R
  have hL : B.get? L = none := by
    obtain ⟨_, ⟨L', _, hf, hn', _⟩, _⟩ := hfl.2.2.1
    obtain rfl : L = L' := Option.some.inj hf
    exact hn'
  refine wpAny_looks_onW (Around.frames_deeper Kb.stack) rfl hfl fun h₄ hheld₄ hsm₄ => ?_
  refine wpAny_landsW hheld₄ fun h₅ hheld hsm₅' => ?_
  have hsm₅ := hsm₄.trans hsm₅'
  obtain ⟨g₅, T₅, F₅, K₅⟩ := groundM rfl Kb F hBG hheld.1 (hsm.trans hsm₅)
  have X₅ := XB.keeps K₅.stays
  have P₅ : TopRead p loose mg mb g₅ := topRead_of (TB.keeps K₅.stays)
  obtain ⟨ob, hob, hobc⟩ := hheld.there
  obtain ⟨nm, q', N', bs, hdct, sn, sub, ab, col, dd, k0, k1, k2, k3, k5, hC⟩ := cls51 X₅
  have hC₅ := F₅.keep _ _ hC
  refine wpAny_handleBy_cons (codeAny_handlers_test (nameX_K F₅ X₅ P₅ ex ?_ hk hx (by decide +kernel))) (by intro q; cases q)
  refine wpAny_excMatches_sub_self hC₅ hob hobc (by decide +kernel) (codeAny_handlers_suite ?_)
  refine lands_againW hheld fun h₆ hfl₆ hsm₆ => ?_
  obtain ⟨g₆, T₆, F₆, K₆⟩ := groundM rfl Kb F hBG hfl₆.1 ((hsm.trans hsm₅).trans hsm₆)
  have Nl : News g₆ L h₆ news := fun q hq => ⟨hfl₆.1 _ _ (hl q hq).1, (fun z => by have := (hl q hq).1; rw [z, hL] at this; cases this), T₆.none_ _ (kts_none F.keep (hl q hq).2.1)⟩
  exact wpAny_passesOwnAt hE (k h₆ g₆ T₆ F₆ Nl K₆ (XB.keeps K₆.stays) (TB.keeps K₆.stays))
end
/-! a ResultColumn, a Scope -/
section
variable (prog : Program) (w : World) (p : Program) (loose : List Str) (mean : ExcName → Option Value) (mg mb : Str → Option Value)
abbrev colO (P : Params) (τ : Nat → Tok) (wv : Value) : Obj := dictOf [ent P (Str.ofString "value") (τ 1) .none, ent P (Str.ofString "alias") (τ 2) .none, ent P (Str.ofString "star_table") (τ 3) wv] 3
abbrev scopeO (P : Params) (τ : Nat → Tok) (sl al od : Addr) : Obj := dictOf [ent P (Str.ofString "sources") (τ 1) (.ref sl), ent P (Str.ofString "parent") (τ 2) .none, ent P (Str.ofString "aliases") (τ 3) (.ref al), ent P (Str.ofString "catalog") (τ 4) .none, ent P (Str.ofString "counter") (τ 5) .none, ent P (Str.ofString "outer") (τ 6) (.ref od)] 6
def ScopeNew (sl : Addr) : Prop :=
  ∀ (dp un : Nat) (gd : Option (List Code)) (cn : Str) (cs : Scope) (a : Addr) (ccd : Value) (cl : List (Str × Addr)) (outer : List Env) (A₀ : Around) (base h₀ : Heap) (L : Addr) (m : Str → Option Value) (news : Lst) (s : Shared)
    (Q E : Value → Shared → Prop),
    Below A₀ base outer h₀ → Fr h₀ L s.heap m → (top.heap_1_39 w.params).In h₀ → News h₀ L s.heap news → Top p loose mean mg mb h₀ → cs.kind = .function →
    dp < 900 → un < 5 * 900 →
    (∀ (x d al od : Addr) (τ : Nat → Tok) h' tk' tl, Fr h₀ L h' m → News h₀ L h' (tl ++ news) → Far tl news → (x, instObj 662 d) ∈ tl → (d, scopeO w.params τ sl al od) ∈ tl → Q (.ref x) { s with heap := h', toks := tk' }) →
    wpAny (model prog w) (ktrTop dp un gd cn cs L a ccd cl outer) (call (.ref 662) [.ref sl]) Q E s
end
section
variable {prog : Program} {w : World} {p : Program} {loose : List Str} {mean : ExcName → Option Value} {mg mb : Str → Option Value}
theorem col_new (wv : Value) (ht : handedIn wv = true) : NewC prog w p loose mean mg mb 510 [.none, .none, wv] (fun τ => colO w.params τ wv) := by
  unfold NewC
  intro dp un gd cn cs a ccd cl outer A₀ base h₀ L m news s Q E B F X N T hk hdp hun ret
  k_dflt (refine' call_cls ?k1 ?k2 ?k3 ?k4 ?k5 ?k6 ?_; (case k1 => k_asm); (case k2 => k_asm); (case k3 => k_asm); (case k4 => k_is); (case k5 => k_is); (case k6 => k_is); k_whole; intro x' d' h' F' N' l1 l2)
  have l0 := l1
  have l3 := allLt_of l1
  k_lt2 l2
  k_dflt (refine' enter [(Str.ofString "self", .ref x'), (Str.ofString "value", .none), (Str.ofString "alias", .none), (Str.ofString "star_table", wv)] ?k1 ?k2 ?k3 ?k4 ?k5 ?kA ?kF ?kK ?k6 ?k7 ?k8 ?k9 ?kB ?_ ?c2 ?c3 ?c4 ?c5; walk_at "m_enter")
  k_steps
  exact ret _ _ (tks [0, _, _, _]) _ _ (by k_asm) (by k_asm) (by assumption) (by assumption)
theorem scope_new (sl : Addr) : ScopeNew prog w p loose mean mg mb sl := by
  unfold ScopeNew
  intro dp un gd cn cs a ccd cl outer A₀ base h₀ L m news s Q E B F X N T hk hdp hun ret
  k_dflt (refine' call_cls ?k1 ?k2 ?k3 ?k4 ?k5 ?k6 ?_; (case k1 => k_asm); (case k2 => k_asm); (case k3 => k_asm); (case k4 => k_is); (case k5 => k_is); (case k6 => k_is); k_whole; intro x' d' h' F' N' l1 l2)
  have l0 := l1
  have l3 := allLt_of l1
  k_lt2 l2
  k_dflt (refine' enter [(Str.ofString "self", .ref x'), (Str.ofString "sources", .ref sl), (Str.ofString "parent", .none), (Str.ofString "aliases", .none), (Str.ofString "catalog", .none), (Str.ofString "counter", .none)] ?k1 ?k2 ?k3 ?k4 ?k5 ?kA ?kF ?kK ?k6 ?k7 ?k8 ?k9 ?kB ?_ ?c2 ?c3 ?c4 ?c5; walk_at "m_enter")
  k_steps
  exact ret _ _ _ _ (tks [0, _, _, _, _, _, _]) _ _ _ (by k_asm) (fin_read (by k_asm) (by walk_at "m_splitR")) (by walk_at "m_far") (by k_mem) (by k_mem)
end
/-! star_outputs, whatever the sources; what it told, read as pairs -/
section
variable {prog : Program} {w : World} {p : Program} {loose : List Str} {mean : ExcName → Option Value} {mg mb : Str → Option Value}
theorem star_ok {nw : Lst} {wd : Option Str} {rc drc sc dsc sl al od : Addr} {wv : Value} {τ τ' : Nat → Tok} {nl : Nat} {xs : List Addr} {ds : List SrcD} (hw : WantAt wv wd) (hc1 : (rc, instObj 510 drc) ∈ nw) (hc2 : (drc, colO w.params τ wv) ∈ nw) (hs1 : (sc, instObj 662 dsc) ∈ nw) (hs2 : (dsc, scopeO w.params τ' sl al od) ∈ nw)
    (hl : (sl, listOf (xs.map Value.ref).toArray nl) ∈ nw) (hsr : Srcs w.params nw xs ds) (hxz : xs.length ≤ 3) : StarC prog w p loose mean mg mb 850 694 [.ref rc, .ref sc] nw (StarR w.params wd ds) (ds.any (isOwn wd) = false) := by
  by_cases h : xs = []
  · subst h
    cases hsr
    exact star_nil (τ := τ) (wv := wv) hc1 hs1 hs2 hl
  · exact star_cons hw hc1 hc2 hs1 hs2 hl hsr hxz h
theorem ScopeNew.use {sl : Addr} {dp un : Nat} {gd : Option (List Code)} {cn : Str} {cs : Scope} {a : Addr} {ccd : Value} {cl : List (Str × Addr)} {outer : List Env} {A₀ : Around} {base h₀ : Heap} {L : Addr} {m : Str → Option Value} {news : Lst} {s : Shared} {Q E : Value → Shared → Prop}
    (c : ScopeNew prog w p loose mean mg mb sl) (B : Below A₀ base outer h₀) (F : Fr h₀ L s.heap m) (X : (top.heap_1_39 w.params).In h₀) (N : News h₀ L s.heap news) (T : Top p loose mean mg mb h₀) (hk : cs.kind = .function) (hdp : dp < 900) (hun : un < 5 * 900)
    (ret : ∀ (x d al od : Addr) (τ : Nat → Tok) h' tk' tl, Fr h₀ L h' m → News h₀ L h' (tl ++ news) → Far tl news → (x, instObj 662 d) ∈ tl → (d, scopeO w.params τ sl al od) ∈ tl → Q (.ref x) { s with heap := h', toks := tk' }) :
    wpAny (model prog w) (ktrTop dp un gd cn cs L a ccd cl outer) (call (.ref 662) [.ref sl]) Q E s := c _ _ _ _ _ _ _ _ _ _ _ _ _ _ _ _ _ _ B F X N T hk hdp hun ret
theorem StarC.use {D : Nat} {f : Addr} {vs : List Value} {nw : Lst} {Out : Lst → Value → Prop} {bad : Prop} {dp un : Nat} {gd : Option (List Code)} {cn : Str} {cs : Scope} {a : Addr} {ccd : Value} {cl : List (Str × Addr)} {outer : List Env} {A₀ : Around} {base h₀ : Heap} {L : Addr} {m : Str → Option Value} {news : Lst} {s : Shared} {Q E : Value → Shared → Prop}
    (c : StarC prog w p loose mean mg mb D f vs nw Out bad) (B : Below A₀ base outer h₀) (F : Fr h₀ L s.heap m) (X : (top.heap_1_39 w.params).In h₀) (N : News h₀ L s.heap news) (T : Top p loose mean mg mb h₀) (hk : cs.kind = .function) (hdp : dp < D) (hun : un < 5 * D) (hn : ∀ q ∈ nw, q ∈ news)
    (ret : ∀ r tl h' tk', Fr h₀ L h' m → News h₀ L h' (tl ++ news) → Far tl news → Out (tl ++ nw) r → Q r { s with heap := h', toks := tk' })
    (exc : bad → ∀ G e h' tk', Fr h₀ L G m → G.UpToSlots h' → RaisedM base G (envX cn cs L a ccd cl :: outer) e news h' → E (.ref e) { s with heap := h', toks := tk' }) :
    wpAny (model prog w) (ktrTop dp un gd cn cs L a ccd cl outer) (call (.ref f) vs) Q E s := c _ _ _ _ _ _ _ _ _ _ _ _ _ _ _ _ _ _ B F X N T hk hdp hun hn ret exc
end
inductive ToldX (P : Params) (nw : Lst) : List (Value × Value) → List R3 → Prop
  | nil : ToldX P nw [] []
  | cons {c : Str} {tc : Tok} {bv : Value} {r : R3} {xs : List (Value × Value)} {rs : List R3} : r.c = c → Nm c → BoundAt P nw bv r.num r.j → ToldX P nw xs rs → ToldX P nw ((.str c tc, bv) :: xs) (r :: rs)
theorem ToldAt.pairs {P : Params} {nw : Lst} {vs : List Value} {rs : List R3} (h : ToldAt P nw vs rs) : ∃ xs, Pairs nw vs xs ∧ ToldX P nw xs rs := by
  induction h with
  | nil => exact ⟨[], .nil, .nil⟩
  | cons a b c _ ih =>
    obtain ⟨xs, h1, h2⟩ := ih
    exact ⟨_ :: xs, .cons ⟨_, _, rfl, a, .inr rfl, _, rfl⟩ h1, .cons rfl c b h2⟩
theorem ToldX.get {P : Params} {nw : Lst} {xs : List (Value × Value)} {rs : List R3} (h : ToldX P nw xs rs) : ∀ {i : Nat} {x y : Value}, xs[i]? = some (x, y) → ∃ r tc, rs[i]? = some r ∧ x = .str r.c tc ∧ BoundAt P nw y r.num r.j := by
  induction h with
  | nil => intro i x y e; simp at e
  | @cons c tc bv r xs rs e n b _ ih =>
    intro i x y hx
    cases i with
    | zero =>
      have := Option.some.inj hx
      obtain ⟨e1, e2⟩ := Prod.mk.inj this
      subst e1 e2
      exact ⟨r, tc, rfl, by rw [e], b⟩
    | succ i => exact ih hx
theorem ToldX.length {P : Params} {nw : Lst} {xs : List (Value × Value)} {rs : List R3} (h : ToldX P nw xs rs) : xs.length = rs.length := by
  induction h with
  | nil => rfl
  | cons _ _ _ _ ih => rw [List.length_cons, List.length_cons, ih]
theorem ToldAt.names {P : Params} {nw : Lst} {vs : List Value} {rs : List R3} (h : ToldAt P nw vs rs) : ∀ r ∈ rs, Nm r.c := by
  induction h with
  | nil => exact List.forall_mem_nil _
  | cons _ _ c _ ih => exact List.forall_mem_cons.mpr ⟨c, ih⟩
theorem ne_nil_m {prog : Program} {w : World} {A : Around} {E : Value → Shared → Prop} {s : Shared} {h₀ : Heap} {L a b : Addr} {led : Lst} {vs : List Value} {n k : Nat} {Q : Value → Shared → Prop} (N : News h₀ L s.heap led) (ha : (a, listOf vs.toArray n) ∈ led) (hb : (b, listOf #[] k) ∈ led) (hv : vs ≠ []) (hu : A.units < cLine)
    (h : Q (.bool true) s) : wpAny (model prog w) A (compareOp .NotEq (.ref a) (.ref b)) Q E s := by
  have hl : s.heap.IsList a vs.toArray := ⟨_, (N _ ha).1, rfl, _, rfl⟩
  have hb : s.heap.IsList b #[] := ⟨_, (N _ hb).1, rfl, _, rfl⟩
  refine cmp_ofNotEq (PySem.SeqAt.RcNeAt.lists_lengths hl hb ?_ hu prog w E Q h)
  cases vs with
  | nil => exact absurd rfl hv
  | cons v vs => simp

/-! _law_star_right -/
section
variable (prog : Program) (w : World) (p : Program) (loose : List Str) (mean : ExcName → Option Value) (mg mb : Str → Option Value)
/-- a call by the law that draws from the pool; an exception may be caught in it -/
def LawC (D : Nat) (f : Addr) (Out : Value → Prop) : Prop :=
  ∀ (dp un : Nat) (gd : Option (List Code)) (cn : Str) (cs : Scope) (a : Addr) (ccd : Value) (cl : List (Str × Addr)) (A₀ : Around) (base h₀ : Heap) (L : Addr) (m : Str → Option Value) (news : Lst) (s : Shared) (pa : Addr) (x y : Int) (tx ty : Tok) (n : Nat)
    (Q E : Value → Shared → Prop),
    Below A₀ base [] h₀ → Fr h₀ L s.heap m → (top.heap_1_39 w.params).In h₀ → News h₀ L s.heap ((pa, src x y tx ty n) :: news) → (∀ q ∈ news, q.1 ≠ pa) → Top p loose mean mg mb h₀ → (top.heap_1_39 w.params).In base → Top p loose mean mg mb base → cs.kind = .function → PoolOk x y →
    dp < D → un < 5 * D →
    (∀ r tl x' y' tx' ty' n' h' tk', PoolOk x' y' → Fr h₀ L h' m → News h₀ L h' ((pa, src x' y' tx' ty' n') :: (tl ++ news)) → (∀ q ∈ tl, q.1 ≠ pa) → Far tl news → Out r → Q r { s with heap := h', toks := tk' }) →
    wpAny (model prog w) (ktrTop dp un gd cn cs L a ccd cl []) (call (.ref f) [.ref pa]) Q E s
end
theorem ref_at {xs : List Addr} {i : Nat} {v : Value} (h : (xs.map Value.ref)[i]? = some v) : ∃ x, xs[i]? = some x ∧ v = .ref x := by
  rw [List.getElem?_map] at h
  obtain ⟨x, hx, e⟩ := Option.map_eq_some_iff.mp h
  exact ⟨x, hx, e.symm⟩
theorem own_yes {f : SrcD → Bool} {ds : List SrcD} {i : Nat} {d : SrcD} (h : ds[i]? = some d) (hf : f d = true) : (ds.take (i + 1)).filter f = (ds.take i).filter f ++ [d] := by
  rw [take_snoc h, List.filter_append, List.filter_cons_of_pos hf, List.filter_nil]
theorem own_no {f : SrcD → Bool} {ds : List SrcD} {i : Nat} {d : SrcD} (h : ds[i]? = some d) (hf : f d = false) : (ds.take (i + 1)).filter f = (ds.take i).filter f := by
  rw [take_snoc h, List.filter_append, List.filter_cons_of_neg (by rw [hf]; exact Bool.false_ne_true), List.filter_nil, List.append_nil]
structure RightOn : Prop where
inductive OwnJ (P : Params) (led V : Lst) (wd : Option Str) (ds : List SrcD) (i : Nat) (ys : List Value) (nw : Lst) : Prop
  | mk {xs : List Addr} : nw = led → ys = xs.map Value.ref → Srcs P V xs ((ds.take i).filter (isOwn wd)) → OwnJ P led V wd ds i ys nw
theorem pick_want {prog : Program} {w : World} {A : Around} {E : Value → Shared → Prop} {s : Shared} {h₀ : Heap} {L : Addr} {led : Lst} {value slice : PySem.Expr} {l : Addr} {n : Nat} {k : Int} {u t1 t2 t3 : Tok} {Q : Value → Shared → Prop} (N : News h₀ L s.heap led) (hm : (l, listOf #[Value.none, .none, .str (Str.ofString "t") t1, .str (Str.ofString "U") t2, .str (Str.ofString "zz") t3] n) ∈ led) (h0 : 0 ≤ k) (h2 : k < 5)
    (h : ∀ v wd, WantAt v wd → Q v s) (hs : subscripted slice false (.ref l) (.int k u) = operate [.ref l, .int k u] (getItem (.ref l) (.int k u)) := by with_unfolding_all rfl) :
    wpAny (model prog w) A (subscriptTail value slice (.ref l) (.int k u)) Q E s := by
  have hl : s.heap.IsList l [Value.none, .none, .str (Str.ofString "t") t1, .str (Str.ofString "U") t2, .str (Str.ofString "zz") t3].toArray := ⟨_, (N _ hm).1, rfl, _, rfl⟩
  rcases (by omega : k = 0 ∨ k = 1 ∨ k = 2 ∨ k = 3 ∨ k = 4) with rfl | rfl | rfl | rfl | rfl
  · exact item_litK hl (by decide) (by decide) rfl (h _ _ (.inl ⟨rfl, rfl⟩)) hs
  · exact item_litK hl (by decide) (by decide) rfl (h _ _ (.inl ⟨rfl, rfl⟩)) hs
  · exact item_litK hl (by decide) (by decide) rfl (h _ _ (.inr ⟨_, _, rfl, rfl, nm_of (by decide +kernel)⟩)) hs
  · exact item_litK hl (by decide) (by decide) rfl (h _ _ (.inr ⟨_, _, rfl, rfl, nm_of (by decide +kernel)⟩)) hs
  · exact item_litK hl (by decide) (by decide) rfl (h _ _ (.inr ⟨_, _, rfl, rfl, nm_of (by decide +kernel)⟩)) hs
theorem low_nm {prog : Program} {w : World} {A : Around} {E : Value → Shared → Prop} {s : Shared} {x : Str} {t : Tok} {Q : Value → Shared → Prop} (hn : Nm x) (h : Q (.str (Txt.lower x) s.toks) { s with toks := s.toks + 1 }) : wpAny (model prog w) A (call (.builtin "str.lower") [.str x t]) Q E s :=
  SCL.lower (Nat.le_trans (show x.length ≤ 2 from hn.short) (Nat.le_of_ble_eq_true rfl)) fun _ => h
structure RightF : Prop where
def r3D (r : R3) : Dat := .tuple [.str r.c, .int r.num, .int r.j, .int 0]
theorem rows3_ok {rs : List R3} (h : ∀ r ∈ rs, Nm r.c) : kqdOk 8 (.list (rs.map r3D)) = true := by
  simp only [kqdOk, List.all_eq_true]
  intro d hd
  obtain ⟨r, hr, rfl⟩ := List.mem_map.mp hd
  simp [r3D, kqdOk, (h r hr).ok]
inductive TolJ (led : Lst) (rows : List R3) (i : Nat) (ys : List Value) (nw : Lst) : Prop
  | mk {W : Lst} : nw = W ++ led → Far W led → ys.length = i → DatAll W ys ((rows.take i).map r3D) → TolJ led rows i ys nw
def ownAll (wd : Option Str) (ds : List SrcD) : List R3 := ds.flatMap fun d => colsTo wd d d.cols.length
theorem own_all {wd : Option Str} : ∀ ds : List SrcD, ownAll wd (ds.filter (isOwn wd)) = starRows wd ds
  | [] => rfl
  | d :: ds => by
    have ih := own_all (wd := wd) ds
    unfold ownAll starRows at ih ⊢
    rw [List.flatMap_cons, ← ih, ownRows]
    by_cases h : isOwn wd d = true
    · rw [List.filter_cons_of_pos h, List.flatMap_cons, if_pos h]
    · rw [List.filter_cons_of_neg h, if_neg h, List.nil_append]
theorem all_take {wd : Option Str} {ds : List SrcD} {i : Nat} {d : SrcD} (h : ds[i]? = some d) : ownAll wd (ds.take (i + 1)) = ownAll wd (ds.take i) ++ colsTo wd d d.cols.length := by
  unfold ownAll
  rw [take_snoc h, List.flatMap_append, List.flatMap_cons, List.flatMap_nil, List.append_nil]
theorem all_len {wd : Option Str} : ∀ {ds : List SrcD}, (∀ d ∈ ds, d.cols.length ≤ 3) → (ownAll wd ds).length ≤ 3 * ds.length
  | [], _ => Nat.le_refl _
  | d :: ds, h => by
    have h1 := all_len (wd := wd) (ds := ds) fun d hd => h d (.tail _ hd)
    have h2 := colsTo_len wd d d.cols.length
    have h3 := h d (.head _)
    unfold ownAll at h1 ⊢
    rw [List.flatMap_cons, List.length_append, List.length_cons]
    omega
theorem all_few {P : Params} {nw : Lst} {xs : List Addr} {ds : List SrcD} (h : Srcs P nw xs ds) (hz : xs.length ≤ 3) (wd : Option Str) (i : Nat) : (ownAll wd (ds.take i)).length ≤ 9 := by
  have h1 := all_len (wd := wd) (ds := ds.take i) fun d hd => h.few d (List.mem_of_mem_take hd)
  have h2 := h.length
  have h3 : (ds.take i).length ≤ ds.length := by rw [List.length_take]; exact Nat.min_le_right _ _
  omega
theorem DatAll.snoc {nw : Lst} : ∀ {vs : List Value} {ds : List Dat} {v : Value} {d : Dat}, DatAll nw vs ds → DatIn nw v d → DatAll nw (vs ++ [v]) (ds ++ [d])
  | _, _, _, _, .nil, k => .cons k .nil
  | _, _, _, _, .cons a r, k => .cons a (DatAll.snoc r k)
theorem DatAll.len {nw : Lst} : ∀ {vs : List Value} {ds : List Dat}, DatAll nw vs ds → vs.length = ds.length
  | _, _, .nil => rfl
  | _, _, .cons _ r => by rw [List.length_cons, List.length_cons, DatAll.len r]
theorem due_in {nw : Lst} {t : Addr} {n : Nat} {c : Str} {tc tn tp tz : Tok} {num j : Nat} (h : (t, ({ cls := .type "tuple", data := .seq #[.str c tc, .int (num : Int) tn, .int (j : Int) tp, .int 0 tz] n } : Obj)) ∈ nw) : DatIn nw (.ref t) (r3D ⟨c, num, j⟩) :=
  .tuple (vs := [_, _, _, _]) h (.cons (.str _ _) (.cons (.int _ _) (.cons (.int _ _) (.cons (.int _ _) .nil))))
inductive DueJ (wd : Option Str) (ds : List SrcD) (dl cW pa I : Addr) (oW oP : Obj) (Z news : Lst) (base : Str → Option Value) (i : Nat) (m : Str → Option Value) (nw : Lst) : Prop
  | mk {u : Str → Option Value} {vs : List Value} {nf : Nat} {V : Lst} : m = (fun z => if z = Str.ofString "one" then u z else if z = Str.ofString "place" then u z else if z = Str.ofString "row" then u z else base z) →
      nw = (dl, listOf vs.toArray nf) :: (cW, oW) :: (pa, oP) :: (V ++ news) → DatAll V vs ((ownAll wd (ds.take i)).map r3D) → (∀ q ∈ V, q.1 ≠ dl) → (∀ q ∈ V, q.1 ≠ cW) → (∀ q ∈ V, q.1 ≠ pa) → (∀ q ∈ V, q.1 ≠ I) → Far V news → (∀ q ∈ Z, q ∈ V) → DueJ wd ds dl cW pa I oW oP Z news base i m nw
inductive DueI (wd : Option Str) (d : SrcD) (rows : List R3) (dl cW pa I I2 : Addr) (oI oW oP : Obj) (Z news : Lst) (base : Str → Option Value) (i : Nat) (m : Str → Option Value) (nw : Lst) : Prop
  | mk {u : Str → Option Value} {vs : List Value} {nf : Nat} {V : Lst} : m = (fun z => if z = Str.ofString "place" then u z else if z = Str.ofString "row" then u z else base z) →
      nw = (I, oI) :: (dl, listOf vs.toArray nf) :: (cW, oW) :: (pa, oP) :: (V ++ news) → DatAll V vs ((rows ++ colsTo wd d i).map r3D) → (∀ q ∈ V, q.1 ≠ dl) → (∀ q ∈ V, q.1 ≠ cW) → (∀ q ∈ V, q.1 ≠ pa) → (∀ q ∈ V, q.1 ≠ I) → (∀ q ∈ V, q.1 ≠ I2) → (∀ q ∈ V, q.1 ≠ I2 + 1) → Far V news → (∀ q ∈ Z, q ∈ V) → DueI wd d rows dl cW pa I I2 oI oW oP Z news base i m nw
theorem canon3 {a b c : Str} {m' base : Str → Option Value} (h : ∀ z, z ≠ a → z ≠ b → z ≠ c → m' z = base z) : m' = fun z => if z = a then m' z else if z = b then m' z else if z = c then m' z else base z := by
  funext z
  by_cases e1 : z = a
  · simp [e1]
  by_cases e2 : z = b
  · simp [e2]
  by_cases e3 : z = c
  · simp [e3]
  rw [if_neg e1, if_neg e2, if_neg e3, h z e1 e2 e3]
theorem re_loopB {prog : Program} {w : World} {A : Around} {E : Value → Shared → Prop} {s : Shared} {env : Env} {h₀ : Heap} {a b : Str} {pa pb tp : Pos} {kk : Nat} {body : List Stmt} {Q : Flow → Shared → Prop} {I ax : Addr} {lo : Obj} {vs : List Value} {m₀ : Str → Option Value} {news₀ : Lst}
    (hh : A.handled = none) (ha : env.kindOf a = some .local) (hb : env.kindOf b = some .local) (hp : (env.scope.kind == .class || (env.scope.kind == .module && env.locals != env.globals)) = false)
    (J : (Str → Option Value) → Nat → (Str → Option Value) → Lst → Prop) (hJ : J m₀ 0 m₀ news₀)
    (stop : ∀ m nw, J m₀ vs.length m nw → ∀ h tk, Fr h₀ env.locals h m → News h₀ env.locals h nw → Q .next { s with heap := h, toks := tk })
    (turn : ∀ (i : Nat) v m nw, vs[i]? = some v → J m₀ i m nw → ∀ (t : Tok) (ie il : Obj) h tk, ie.cls = .type "enumerate" → il.cls = .type "list_iterator" → Fr h₀ env.locals h (fun z => if z = b then some v else if z = a then some (.int (i : Int) t) else m z) → News h₀ env.locals h ((I + 1, ie) :: (I, il) :: nw) →
      wpAny (model prog w) A (execs body env) (UnrPostW h₀ env.locals { s with heap := h, toks := tk } [(I + 1, ie), (I, il)] (fun m' n' => (ax, lo) ∈ n' ∧ J m₀ (i + 1) m' n') Q) E { s with heap := h, toks := tk }) :
    ItemsRest prog w A E h₀ env (.Tuple [.Name a pa, .Name b pb] kk tp) body Q s [(I + 1, "enumerate"), (I, "list_iterator")] [(ax, lo)] (enumItems 0 vs) m₀ news₀ := re_loop hh ha hb hp (J m₀) hJ stop turn
theorem words21_24 : True := by
  k_with "@exec For Name Name cons nil" => ((rename RightF => rf9); k_here; (rename Fr _ _ _ _ => lF'); (with_unfolding_all refine' For_turns lF' ?_; k_whole))
  k_with "@call builtin:str.lower" => (
      k_here; (with_reducible show wpAny _ _ (call (Value.builtin "str.lower") _) _ _ _); (with_unfolding_all refine' low_nm ?nn ?_; (case nn => with_reducible assumption)); (try dsimp only))
  k_with "@call ref" => (
      k_here; (with_reducible show wpAny _ _ (call (Value.ref 725) _) _ _ _);
      k_dflt (refine' PoolC.use sources_ok ?B ?F ?X ?N ?P ?A ?T ?K ?O ?D ?U ?S ?Z ?_; walk_at "m_pool"); (obtain ⟨sl8, xs8, ns8, ds8, e8, hl8, hs8, hz8⟩ := q9); subst e8; simp only [List.append_nil] at hl8 hs8; (try dsimp only); (try k_fold))
  k_with "@subscriptTail" => (
      k_here; (rename RightOn => ro9); (with_reducible show wpAny _ _ (subscriptTail _ _ (Value.ref _) (Value.int _ _)) _ _ _)
      (with_unfolding_all refine' pick_want ?kN ?km ?k2 ?k3 ?_ ?k6; (case kN => k_asm); (case km => k_mem); (case k2 => omega); (case k3 => omega); (case k6 => with_unfolding_all rfl))
      intro wv9 wd9 hw9; (try dsimp only))
  k_with "@m_enterT" => (
      (case kA => exact rfl); (case kF => exact rfl); (case kK => assumption); (case k1 => k_asm); (case k2 => k_asm); (case k3 => k_asm); (case k4 => k_asm); (case k5 => k_asm); (case k6 => k_is); (case k7 => k_is); (case k8 => ktr_room); (case k9 => exact BindsTo.of_eq rfl); (case kB => exact rfl); (case kD => decide +kernel); (case c2 => exact rfl); (case c3 => exact rfl); (case c4 => exact rfl); k_whole; intro g' L' h' tk' cells' FG' F' N' Y' B' X' T' l1; (try k_lt l1))
  trivial
def Cstar_right.pack : { P : CxP // (∀ prog w p loose mean mg mb dp un gd cn cs a ccd cl outer A₀ base h₀ L m news s pa x y tx ty n Q E g' L' h' tk' oW o2, P prog w p loose mean mg mb dp un gd cn cs a ccd cl outer A₀ base h₀ L m news s pa x y tx ty n Q E g' L' h' tk' oW o2) → ∀ (prog : Program) (w : World) (p : Program) (loose : List Str) (mean : ExcName → Option Value) (mg mb : Str → Option Value), LawC prog w p loose mean mg mb 700 730 (fun v => v = .bool true) } := ⟨_, fun h prog w p loose mean mg mb => by
  unfold LawC
  intro dp un gd cn cs a ccd cl A₀ base h₀ L m news s pa x y tx ty n Q E B F X N hoff T XB TB hk ok hdp hun ret
  refine wpAny_call ?_
  k_dflt (refine' enterT [(Str.ofString "source", .ref pa)] ?k1 ?k2 ?k3 ?k4 ?k5 ?kA ?kF ?kK ?k6 ?k7 ?k8 ?k9 ?kB ?kD ?_ ?c2 ?c3 ?c4; walk_at "m_enterT")
  obtain ⟨oW, eW, dW⟩ := CellsAre.one Y'
  subst eW
  clear Y'
  obtain ⟨outer, -⟩ : ∃ z : List Env, True := ⟨default, trivial⟩
  obtain ⟨o2, -⟩ : ∃ z : Obj, True := ⟨default, trivial⟩
  revert dW
  revert l1
  revert T'
  revert X'
  revert B'
  revert N'
  revert F'
  revert FG'
  revert ret
  revert hun
  revert hdp
  revert ok
  revert hk
  revert TB
  revert XB
  revert T
  revert hoff
  revert N
  revert X
  revert F
  revert B
  exact h prog w p loose mean mg mb dp un gd cn cs a ccd cl outer A₀ base h₀ L m news s pa x y tx ty n Q E g' L' h' tk' oW o2⟩
noncomputable def Cstar_right.c : Cx := bad Cstar_right.pack.1
noncomputable def Cstar_right.prog : Program := Cstar_right.c.prog
noncomputable def Cstar_right.w : World := Cstar_right.c.w
noncomputable def Cstar_right.p : Program := Cstar_right.c.p
noncomputable def Cstar_right.loose : List Str := Cstar_right.c.loose
noncomputable def Cstar_right.mean : ExcName → Option Value := Cstar_right.c.mean
noncomputable def Cstar_right.mg : Str → Option Value := Cstar_right.c.mg
noncomputable def Cstar_right.mb : Str → Option Value := Cstar_right.c.mb
noncomputable def Cstar_right.dp : Nat := Cstar_right.c.dp
noncomputable def Cstar_right.un : Nat := Cstar_right.c.un
noncomputable def Cstar_right.gd : Option (List Code) := Cstar_right.c.gd
noncomputable def Cstar_right.cn : Str := Cstar_right.c.cn
noncomputable def Cstar_right.cs : Scope := Cstar_right.c.cs
noncomputable def Cstar_right.a : Addr := Cstar_right.c.a
noncomputable def Cstar_right.ccd : Value := Cstar_right.c.ccd
noncomputable def Cstar_right.cl : List (Str × Addr) := Cstar_right.c.cl
noncomputable def Cstar_right.outer : List Env := Cstar_right.c.outer
noncomputable def Cstar_right.A₀ : Around := Cstar_right.c.A₀
noncomputable def Cstar_right.base : Heap := Cstar_right.c.base
noncomputable def Cstar_right.h₀ : Heap := Cstar_right.c.h₀
noncomputable def Cstar_right.L : Addr := Cstar_right.c.L
noncomputable def Cstar_right.m : Str → Option Value := Cstar_right.c.m
noncomputable def Cstar_right.news : Lst := Cstar_right.c.news
noncomputable def Cstar_right.s : Shared := Cstar_right.c.s
noncomputable def Cstar_right.pa : Addr := Cstar_right.c.pa
noncomputable def Cstar_right.x : Int := Cstar_right.c.x
noncomputable def Cstar_right.y : Int := Cstar_right.c.y
noncomputable def Cstar_right.tx : Tok := Cstar_right.c.tx
noncomputable def Cstar_right.ty : Tok := Cstar_right.c.ty
noncomputable def Cstar_right.n : Nat := Cstar_right.c.n
noncomputable def Cstar_right.Q : Value → Shared → Prop := Cstar_right.c.Q
noncomputable def Cstar_right.E : Value → Shared → Prop := Cstar_right.c.E
noncomputable def Cstar_right.g' : Heap := Cstar_right.c.g'
noncomputable def Cstar_right.L' : Addr := Cstar_right.c.L'
noncomputable def Cstar_right.h' : Heap := Cstar_right.c.h'
noncomputable def Cstar_right.tk' : Nat := Cstar_right.c.tk'
noncomputable def Cstar_right.oW : Obj := Cstar_right.c.o1
noncomputable def Cstar_right.o2 : Obj := Cstar_right.c.o2
open Cstar_right in
theorem Cstar_right.core : Cstar_right.pack.1 Cstar_right.prog Cstar_right.w Cstar_right.p Cstar_right.loose Cstar_right.mean Cstar_right.mg Cstar_right.mb Cstar_right.dp Cstar_right.un Cstar_right.gd Cstar_right.cn Cstar_right.cs Cstar_right.a Cstar_right.ccd Cstar_right.cl Cstar_right.outer Cstar_right.A₀ Cstar_right.base Cstar_right.h₀ Cstar_right.L Cstar_right.m Cstar_right.news Cstar_right.s Cstar_right.pa Cstar_right.x Cstar_right.y Cstar_right.tx Cstar_right.ty Cstar_right.n Cstar_right.Q Cstar_right.E Cstar_right.g' Cstar_right.L' Cstar_right.h' Cstar_right.tk' Cstar_right.oW Cstar_right.o2 := by
  dsimp only [Cstar_right.pack]
  intro B F X N hoff T XB TB hk ok hdp hun ret FG' F' N' B' X' T' l1 dW

  have halt : Halt := ⟨⟩
  have ro9 : RightOn := ⟨⟩
  have op9 : Open9 := ⟨⟩
  replace F' : Fr g' L' h' (fun z => if z = Str.ofString "source" then some (.ref pa) else none) := F'
  replace dW : oW.data = .cell none := dW
  replace N' : News g' L' h' ((L' + 1, oW) :: (pa, src x y tx ty n) :: news) := N'
  have lpa : @LT.lt Nat _ pa L' := l1.1
  have nwW : ∀ q ∈ news, q.1 ≠ L' + 1 := fun q hq => Nat.ne_of_lt (Nat.lt_of_lt_of_le (allLt_mem l1.2 q hq) (Nat.le_add_right _ 1))
  have npW : @Ne Nat pa (L' + 1) := Nat.ne_of_lt (Nat.lt_of_lt_of_le lpa (Nat.le_add_right _ 1))
  walk1
  k_steps
  refine ⟨?_⟩
  have hsz8 := hs8.length
  obtain ⟨oC0, eC0⟩ : ∃ z, z = o' := ⟨_, rfl⟩
  subst eC0
  rename News _ _ _ (_ :: _) => N0
  obtain ⟨V9, hV9, NL⟩ := led_endX (ps := [(L' + 1, _), (pa, _)]) (base := news) N0 (by walk_at "m_pulls") (by walk_at "m_splitR")
  simp only [List.cons_append, List.nil_append] at NL
  have z1 : ∀ q ∈ V9, q.1 ≠ L' + 1 := by subst hV9; k_all
  have z2 : ∀ q ∈ V9, q.1 ≠ pa := by subst hV9; k_all
  have z3 : Far V9 news := by subst hV9; walk_at "m_far"
  have z4 : (sl8, listOf (xs8.map Value.ref).toArray ns8) ∈ V9 := by subst hV9; k_mem
  have z5 : Srcs w.params V9 xs8 ds8 := hs8.mono (by subst hV9; walk_at "m_sub")
  clear hV9
  obtain ⟨led, hLd⟩ : ∃ z, z = (L' + 1, oC0) :: (pa, src x9 y9 tx9 ty9 n9) :: (V9 ++ news) := ⟨_, rfl⟩
  have hW9 : (L' + 1, oC0) ∈ led := by rw [hLd]; exact .head _
  have hV : ∀ q ∈ V9, q ∈ led := fun q hq => by rw [hLd]; exact .tail _ (.tail _ (List.mem_append_left _ hq))
  rw [← hLd] at NL
  have hwh : handedIn wv9 = true := by rcases hw9 with ⟨rfl, _⟩ | ⟨s, t, rfl, _⟩ <;> rfl
  refine jc_Assign (by decide) (by k_asm) rfl (by rfl) (by rfl) (by decide) (by rfl) (by decide) (by rfl) (by rfl) ?_
  k_steps
  refine ⟨?_⟩
  refine jat_list (keep := (L' + 1, oC0) :: V9) (OwnJ w.params led V9 wd9 ds8) rfl (by k_asm) NL (List.forall_mem_cons.mpr ⟨hW9, hV⟩) (List.mem_cons_of_mem _ z4) ?hz rfl (by rfl) (.mk (xs := []) rfl rfl .nil) ?turn ?done
  case hz => rw [List.length_map]; exact Nat.le_trans hz8 (Nat.le_of_ble_eq_true rfl)
  case turn =>
    rintro s₂ j v2 ys hs news' its C oC D m₂ h tk E' hj hv2 hm hoj - hk' hNs hmap off offI hCD F' N'
    cases hoj with
    | @mk ox en ey hox =>
    have en' := en.symm
    subst en' ey
    obtain ⟨x, hx, ev⟩ := ref_at hv2
    subst ev
    obtain ⟨d, hd, hsa, hso⟩ := z5.get hx
    have hsa' := hsa
    cases hsa with
    | @mk dx cl9 ul τ9 num al9 cols us cvs uvs ncl nul b1 b2 b3 a4 b5 a6 =>
    have a1 := hV _ b1
    have a2 := hV _ b2
    have hal : Nm al9 := hso.al
    refine (show wpAny _ _ _ _ _ _ from ?_)
    rcases hw9 with ⟨rfl, rfl⟩ | ⟨sw, tw, rfl, rfl, hnm⟩
    · k_steps
      refine jEnd_of (by k_asm) (by k_asm) (fun _ h => h) off hk' (.mk (xs := ox ++ [x]) rfl (by rw [List.map_append]; rfl) ?_)
      rw [own_yes hd rfl]
      exact hox.snoc hsa' hso
    · k_steps
      all_goals (rename (Txt.lower al9 == Txt.lower sw) = _ => hq9)
      · refine jEnd_of (by k_asm) (by k_asm) (fun _ h => h) off hk' (.mk (xs := ox ++ [x]) rfl (by rw [List.map_append]; rfl) ?_)
        rw [own_yes hd hq9]
        exact hox.snoc hsa' hso
      · refine jEnd_of (by k_asm) (by k_asm) (fun _ h => h) off hk' (.mk (xs := ox) rfl rfl ?_)
        rw [own_no hd hq9]
        exact hox
  case done =>
    rintro g ys news' hk' hoj D h tk F' N' offD
    cases hoj with
    | @mk ox en ey hox =>
    have en' := en.symm
    subst en' ey
    subst hLd
    (try dsimp only at F' N')
    rw [List.take_of_length_le (by rw [List.length_map, hsz8]; exact Nat.le_refl _)] at hox
    (rename RightOn => ro9); clear ro9
    (rename Open9 => op9); clear op9
    have rf9 : RightF := ⟨⟩
    k_steps
    refine ⟨?_⟩
    obtain ⟨dl, edl⟩ : ∃ z, z = ln := ⟨_, rfl⟩
    subst edl
    rename News _ _ _ (_ :: _) => N0
    obtain ⟨V7, hV7, NL⟩ := led_endX (ps := [(dl, _), (L' + 1, _), (pa, _)]) (base := news) N0 (by walk_at "m_pulls") (by walk_at "m_splitR")
    simp only [List.cons_append, List.nil_append] at NL
    have y1 : ∀ q ∈ V7, q.1 ≠ dl := by subst hV7; k_all
    have y2 : ∀ q ∈ V7, q.1 ≠ L' + 1 := by subst hV7; k_all
    have y3 : ∀ q ∈ V7, q.1 ≠ pa := by subst hV7; k_all
    have y4 : Far V7 news := by subst hV7; walk_at "m_far"
    have y5 : (D, PyProof.Rows.LCg.lst (ox.map Value.ref)) ∈ V7 := by subst hV7; k_mem
    have y6 : ∀ q ∈ V9, q ∈ V7 := by subst hV7; walk_at "m_sub"
    have l9 := l1
    have y7 : @Ne Nat dl (L' + 1) := ltneA l9 (.tail _ (.head _))
    have y8 : @Ne Nat dl pa := ltneA l9 (.tail _ (.tail _ (.head _)))
    have w9 : ∀ q ∈ news, q.1 ≠ dl := allLt_ne l9 (by walk_at "m_sub")
    clear l9
    clear hV7 hW9 hV hk' offD en
    refine iter_listTurns (vs := ox.map Value.ref) rfl (by k_asm) NL (List.mem_cons_of_mem _ (List.mem_cons_of_mem _ (List.mem_cons_of_mem _ (List.mem_append_left _ y5)))) rfl rfl ?_
    intro I hI
    have lI := allLt_of hI
    have x1 : ∀ q ∈ V7, q.1 ≠ I := allLt_ne lI (by walk_at "m_sub")
    have x2 : ∀ q ∈ news, q.1 ≠ I := allLt_ne lI (by walk_at "m_sub")
    have x3 : @Ne Nat I dl := ltneA lI (by k_mem)
    have x4 : @Ne Nat I (L' + 1) := ltneA lI (by k_mem)
    have x5 : @Ne Nat I pa := ltneA lI (by k_mem)
    refine rl_loop (DueJ wd9 (ds8.filter (isOwn wd9)) dl (L' + 1) pa I oC0 (src x9 y9 tx9 ty9 n9) V7 news (fun y => if y = Str.ofString "due" then some (Value.ref dl) else if y = Str.ofString "own" then some (Value.ref D) else if y = Str.ofString "sources" then some (Value.ref sl8) else if y = Str.ofString "source" then some (Value.ref pa) else none)) ?_ ?_ ?_
    · exact .mk (vs := []) (nf := 0) (canon3 fun z a1 a2 a3 => rfl) rfl .nil y1 y2 y3 x1 y4 fun _ h => h
    · walk_at "m_forget"
      rintro m' nw' hj h' tk' F' N'
      cases hj with
      | @mk u vs nf V em en hdu nD nW nP nI fV hZ =>
      subst em en
      rw [List.take_of_length_le (by rw [List.length_map, hox.length]; exact Nat.le_refl _), own_all] at hdu
      have hslV := hZ _ (y6 _ z4)
      have hsrV : Srcs w.params V xs8 ds8 := z5.mono fun q h => hZ _ (y6 _ h)
      have hDV : (D, listOf (ox.map Value.ref).toArray (ox.map Value.ref).length) ∈ V := hZ _ y5
      have hoW : oC0.data = .cell (some wv9) := by assumption
      k_steps
      refine wpAny_Try_except ?_
      k_with "call ref" => ((with_reducible show wpAny _ _ (call (Value.ref 510) _) _ _ _); k_dflt (refine' NewC.use (col_new _ hwh) ?B ?F ?X ?N ?T ?K ?D ?U ?_; (case B => k_asm); (case F => k_asm); (case X => k_asm); (case N => k_asm); (case T => k_asm); (case K => first | exact rfl | assumption); (case D => first | ktr_room | omega); (case U => first | ktr_units | omega)); intro rc8 dc8 τc8 h' tk' F' N' l1 l2; (try k_lt l1); (try k_lt2 l2); (try dsimp only); (try k_fold))
      k_with "call ref" => ((with_reducible show wpAny _ _ (call (Value.ref 662) _) _ _ _); k_dflt (refine' ScopeNew.use (scope_new _) ?B ?F ?X ?N ?T ?K ?D ?U ?_; (case B => k_asm); (case F => k_asm); (case X => k_asm); (case N => k_asm); (case T => k_asm); (case K => first | exact rfl | assumption); (case D => first | ktr_room | omega); (case U => first | ktr_units | omega)); intro sc8 ds8' al8 od8 τs8 h' tk' tl8 F' N' f8 ms1 ms2; (try dsimp only); (try k_fold))
      k_with "call ref" => ((with_reducible show wpAny _ _ (call (Value.ref 694) _) _ _ _); refine stop_of ?_)
      k_steps
      refine ⟨?_⟩
      refine StarC.use (star_ok (nw := (rc8, instObj 510 dc8) :: (dc8, colO w.params τc8 wv9) :: (tl8 ++ V)) hw9 (.head _) (.tail _ (.head _)) (.tail _ (.tail _ (List.mem_append_left _ ms1))) (.tail _ (.tail _ (List.mem_append_left _ ms2))) (.tail _ (.tail _ (List.mem_append_right _ hslV))) (hsrV.mono fun q h => .tail _ (.tail _ (List.mem_append_right _ h))) hz8) (by k_asm) (by k_asm) (by k_asm) (by k_asm) (by k_asm) rfl ?hdp ?hun ?hsub ?ret ?exc
      case hdp => first | ktr_room | omega
      case hun => first | ktr_units | omega
      case hsub => walk_at "m_sub"
      case exc =>
        intro bad G e hx tkx FG9 U9 R9
        have hf0 : ds8.filter (isOwn wd9) = [] := List.filter_eq_nil_iff.mpr fun d hd hq => by
          have := List.any_eq_false.mp bad d hd
          exact this hq
        rw [hf0] at hox
        cases hox
        refine caughtM R9 FG9 B' U9 XB TB ?_ (by k_is) (by rfl) (by rfl) PassesOwnAt.leaving
        intro h3 g3 T3 F3 N3 B3 X3 TT3
        have so9 : StarOn := ⟨⟩
        k_steps
        show Q (.bool true) _
        exact ret _ _ _ _ _ _ _ _ _ (by with_reducible assumption) (by k_asm) (fin_pool (by k_asm) (by k_mem) (by walk_at "m_split")) (by k_all) (by walk_at "m_far") rfl
      case ret =>
        rintro r tl hx tkx Fx Nx fx ⟨l8, tvs, tn, er, hl9, hta, hany⟩
        subst er
        --S Y
        have hxne : ox.map Value.ref ≠ [] := fun e => by
          have h1 : ox = [] := List.map_eq_nil_iff.mp e
          subst h1
          have h2 := hox.length
          have h3 : ds8.filter (isOwn wd9) = [] := List.length_eq_zero_iff.mp h2.symm
          obtain ⟨d, hd, hq⟩ := List.any_eq_true.mp hany
          exact absurd (List.mem_filter.mpr ⟨hd, hq⟩) (by rw [h3]; exact List.not_mem_nil)
        obtain ⟨V5, hV5, NL⟩ := led_endX (ps := [(dl, _), (L' + 1, _), (pa, _)]) (base := news) Nx (by walk_at "m_pulls") (by walk_at "m_splitR")
        simp only [List.cons_append, List.nil_append] at NL
        have g1 : ∀ q ∈ V5, q.1 ≠ pa := by subst hV5; k_all
        have g2 : Far V5 news := by subst hV5; walk_at "m_far"
        have g3 : ∀ q ∈ V, q ∈ V5 := by subst hV5; walk_at "m_sub"
        have g4 : ∀ q ∈ tl ++ (rc8, instObj 510 dc8) :: (dc8, colO w.params τc8 wv9) :: (tl8 ++ V), q ∈ V5 := by subst hV5; walk_at "m_sub"
        have g5 : (l8, listOf tvs.toArray tn) ∈ V5 := g4 _ hl9
        have g6 : DatAll V5 vs ((starRows wd9 ds8).map r3D) := hdu.mono g3
        have g7 := hta.mono g4
        have g8 := g3 _ hDV
        clear hV5 g3 g4 hl9 hdu hDV
        k_with "@compareOp NotEq ref ref" => ((with_reducible show wpAny _ _ (compareOp CmpOp.NotEq (Value.ref _) (Value.ref _)) _ _ _); k_dflt (refine' ne_nil_m (vs := ox.map Value.ref) ?dN ?dA ?dB hxne ?dU ?_; (case dN => k_asm); (case dA => exact mem_via g8 (by walk_at "m_sub")); (case dB => k_mem); (case dU => first | ke_room | ktr_units)))
        have g2x : ∀ q ∈ V5, ∀ e ∈ news, e.1 ≠ q.1 := g2
        walk_at "m_forget"
        --S Z
        k_with "@compareOp NotEq ref ref" => (refine stop_of ?_)
        k_steps
        refine ⟨?_⟩
        rename News _ _ _ (_ :: _) => nq9
        refine' ne_nil_m (vs := ox.map Value.ref) nq9 ?dA (.head _) hxne ?dU ?_
        case dA => exact mem_via g8 (by walk_at "m_sub")
        case dU => first | ke_room | ktr_units
        k_steps
        refine ⟨?_⟩
        refine jc_ListComp (by decide) (by k_asm) (by rfl) (by decide) (by rfl) (by decide) ?_
        k_steps
        refine ⟨?_⟩
        obtain ⟨tx, hpx, htx⟩ := g7.pairs
        have htl := htx.length
        have htz : tx.length ≤ 9 := by rw [htl]; have := rows_few z5 hz8 wd9 ds8.length; rwa [List.take_length] at this
        obtain ⟨led, hLd⟩ : ∃ z, z = (ln, listOf #[] 0) :: (dl, listOf vs.toArray nf) :: (L' + 1, oC0) :: (pa, src x9 y9 tx9 ty9 n9) :: (V5 ++ news) := ⟨_, rfl⟩
        rw [← hLd] at nq9
        have hV5 : ∀ q ∈ V5, q ∈ led := by rw [hLd]; walk_at "m_sub"
        refine jat_pairs (keep := V5) (TolJ led (starRows wd9 ds8)) rfl (by k_asm) nq9 hV5 g5 hpx (Nat.le_trans (Nat.le_of_eq hpx.length) (Nat.le_trans htz (Nat.le_of_ble_eq_true rfl))) rfl (by rfl) (by rfl) (by decide) (.mk (W := []) rfl Far.nil rfl .nil) ?turn ?done
        case turn =>
          rintro s₂ i2 xv yv ys hs news' its C oC D3 m₂ h tk E' hxy hma hmb htj - hk' hNs hmap off offI hCD F' N'
          cases htj with
          | @mk W en fW hyl hdy =>
          subst en
          obtain ⟨r, tc, hr, ex, hb⟩ := htx.get hxy
          subst ex
          cases hb with
          | @mk bx bdx btv bcv bav bov bτ bpl eb epl hm1 hm2 =>
          subst eb epl
          have hm3 := hV5 _ hm1
          have hm4 := hV5 _ hm2
          refine (show wpAny _ _ _ _ _ _ from ?_)
          k_steps
          rename News _ _ _ (_ :: _) => N9
          refine jEnd_one (fun q => q :: (W ++ led)) (by k_asm) N9 (by walk_at "m_far") hmap off (by walk_at "m_sub") (fun p hp => .tail _ (hk' p hp)) (.mk (W := _ :: _) rfl (by walk_at "m_far") (by rw [List.length_append, hyl]; rfl) ?_)
          rw [take_snoc hr, List.map_append]
          exact Mine.DatAll.snoc (hdy.mono fun q hq => List.mem_cons_of_mem _ hq) (due_in (List.mem_cons_self ..))
        case done =>
          rintro g ys news' hk' htj D3 h tk F' N' offD
          cases htj with
          | @mk W en fW hyl hdy =>
          subst en
          subst hLd
          (try dsimp only at F' N')
          rw [List.take_of_length_le (by rw [htl]; exact Nat.le_refl _)] at hdy
          have hok : kqdOk 8 (.list ((starRows wd9 ds8).map r3D)) = true := rows3_ok g7.names
          k_with "@compareOp Eq ref ref" => ((with_reducible show wpAny _ _ (compareOp CmpOp.Eq (Value.ref _) (Value.ref _)) _ _ _); (rename News _ _ _ _ => nd9); k_dflt (refine' dat_same (vs := ys) (ws := vs) nd9 (List.mem_cons_self ..) ?dB hdy g6 ?s1 ?s2 hok ?dU ?_; (case dB => k_mem); (case s1 => walk_at "m_sub"); (case s2 => walk_at "m_sub"); (case dU => first | ke_room | ktr_units)))
          k_steps
          have g2 : Far V5 news := g2x
          exact ret _ _ _ _ _ _ _ _ _ (by with_reducible assumption) (by k_asm) (fin_pool (by k_asm) (by k_mem) (by walk_at "m_split")) (by k_all) (by walk_at "m_far") rfl
        --/S Z
        --/S Y
    · walk_at "m_forget"
      rintro i v m' nw' hv hj it h' tk' hit F' N'
      cases hj with
      | @mk u vs nf V em en hdu nD nW nP nI fV hZ =>
      subst em en
      obtain ⟨x, hx, ev⟩ := ref_at hv
      subst ev
      obtain ⟨d, hd, hsa, hso⟩ := hox.get hx
      cases hsa with
      | @mk dx cl9 ul τ9 num al9 cols us cvs uvs ncl nul b1 b2 b3 a4 b5 a6 =>
      have a1 := hZ _ (y6 _ b1)
      have a2 := hZ _ (y6 _ b2)
      have a3 := hZ _ (y6 _ b3)
      have a5 := hZ _ (y6 _ b5)
      have hcn : ∀ c ∈ cols, Nm c := hso.cols
      have hlc := a4.length
      k_steps
      refine ⟨?_⟩
      refine ktu_enum (n := ncl) (vs := cvs) rfl (by k_asm) (by k_asm) (by k_mem) rfl rfl rfl ?_
      intro I2 hI2
      have lI2 := allLt_of hI2
      have u1 : ∀ q ∈ V, q.1 ≠ I2 := allLt_ne lI2 (by walk_at "m_sub")
      have u2 : ∀ q ∈ V, q.1 ≠ I2 + 1 := allLt_ne (allLt_add lI2) (by walk_at "m_sub")
      have u3 : ∀ q ∈ news, q.1 ≠ I2 := allLt_ne lI2 (by walk_at "m_sub")
      have u4 : ∀ q ∈ news, q.1 ≠ I2 + 1 := allLt_ne (allLt_add lI2) (by walk_at "m_sub")
      have v1 : @Ne Nat I2 I := ltneA lI2 (by k_mem)
      have v2 : @Ne Nat I2 dl := ltneA lI2 (by k_mem)
      have v3 : @Ne Nat I2 (L' + 1) := ltneA lI2 (by k_mem)
      have v4 : @Ne Nat I2 pa := ltneA lI2 (by k_mem)
      have v5 : @Ne Nat (I2 + 1) I := ltneA (allLt_add lI2) (by k_mem)
      have v6 : @Ne Nat (I2 + 1) dl := ltneA (allLt_add lI2) (by k_mem)
      have v7 : @Ne Nat (I2 + 1) (L' + 1) := ltneA (allLt_add lI2) (by k_mem)
      have v8 : @Ne Nat (I2 + 1) pa := ltneA (allLt_add lI2) (by k_mem)
      have v9' : @Ne Nat (I2 + 1) I2 := Nat.succ_ne_self I2
      clear a1 a2 a3 a5
      refine re_loopB rfl (by rfl) (by rfl) (by rfl) (DueI wd9 ⟨num, al9, cols, us⟩ (ownAll wd9 ((ds8.filter (isOwn wd9)).take i)) dl (L' + 1) pa I I2 it oC0 (src x9 y9 tx9 ty9 n9) V7 news) ?_ ?_ ?_
      · exact .mk (canon2 fun _ _ _ => rfl) rfl (by rw [show colsTo wd9 ⟨num, al9, cols, us⟩ 0 = [] from rfl, List.append_nil]; exact hdu) nD nW nP nI u1 u2 fV hZ
      · walk_at "m_forget"
        rintro m' nw' hj h' tk' F' N'
        cases hj with
        | @mk u vs nf V em en hdu nD nW nP nI nJ nK fV hZ =>
        subst em en
        have y5' := hZ _ y5
        k_steps
        refine ⟨?_⟩
        refine unrW_led (by k_asm) (by k_asm) (by k_all) (List.mem_cons_of_mem _ (List.mem_cons_of_mem _ (List.mem_cons_of_mem _ (List.mem_append_left _ y5')))) (.mk (canon3 fun z a1 a2 a3 => by walk_at "m_off") rfl ?ht nD nW nP nI fV hZ)
        case ht =>
          rw [(show ownAll wd9 ((ds8.filter (isOwn wd9)).take (i + 1)) = ownAll wd9 ((ds8.filter (isOwn wd9)).take i) ++ colsTo wd9 ⟨num, al9, cols, us⟩ cvs.length by rw [all_take hd, hlc])]
          exact hdu
      · walk_at "m_forget"
        rintro j v2 m' nw' hv2 hj t' ie il h' tk' hie hil F' N'
        cases hj with
        | @mk u vs nf V em en hdu nD nW nP nI nJ nK fV hZ =>
        subst em en
        obtain ⟨cc, hcc, t9, n9', r1, r2, r3, et, ht⟩ := a4.get hv2
        subst et
        have hnc : Nm cc := hcn cc (List.mem_of_getElem? hcc)
        have ht9 := hZ _ (y6 _ ht)
        have a1 := hZ _ (y6 _ b1)
        have a2 := hZ _ (y6 _ b2)
        have a3 := hZ _ (y6 _ b3)
        have a5 := hZ _ (y6 _ b5)
        clear ht
        have mb9 : MeetB := ⟨⟩
        k_steps
        refine ⟨?_⟩
        refine joinB (h₀ := g') (L := L') (by k_asm) (fun b nw' => b = colOk wd9 ⟨num, al9, cols, us⟩ cc ∧ nw' = (I2 + 1, ie) :: (I2, il) :: (I, it) :: (dl, listOf vs.toArray nf) :: (L' + 1, oC0) :: (pa, src x9 y9 tx9 ty9 n9) :: (V ++ news)) ?go ?k
        case go =>
          (rename MeetB => mb9); clear mb9
          rcases hw9 with ⟨rfl, rfl⟩ | ⟨sw, tw, rfl, rfl, hnm⟩
          · k_steps
            rename News _ _ _ _ => nq9
            refine' notin_list_strs (vs := uvs) (ys := us) ?hl ?ns ?_
            case hl => exact ⟨listOf uvs.toArray nul, (nq9 (ul, listOf uvs.toArray nul) (by k_mem)).1, rfl, nul, rfl⟩
            case ns => exact a6
            k_steps
            all_goals (
              rename News _ _ _ _ => N9
              exact joinB_mk (by k_asm) N9 ⟨by unfold colOk; simp_all, rfl⟩)
          · k_steps
            rename News _ _ _ _ => N9
            exact joinB_mk (by k_asm) N9 ⟨rfl, rfl⟩
        case k =>
          rintro b h2 tk2 nw2 F2 N2 ⟨eb, en⟩
          subst eb en
          (rename MeetB => mb9); clear mb9
          rcases hc7 : colOk wd9 ⟨num, al9, cols, us⟩ cc with _ | _
          · k_steps
            refine ⟨?_⟩
            refine unrW2_led (by k_asm) (by k_asm) (by k_all) (by k_all) (List.mem_cons_of_mem _ (List.mem_cons_of_mem _ (List.mem_cons_of_mem _ (List.mem_cons_of_mem _ (List.mem_append_left _ a3))))) (.mk (canon2 fun z q1 q2 => by walk_at "m_off") rfl ?ht nD nW nP nI nJ nK fV hZ)
            case ht =>
              rw [(show colsTo wd9 ⟨num, al9, cols, us⟩ (j + 1) = colsTo wd9 ⟨num, al9, cols, us⟩ j by rw [cols_step (d := ⟨num, al9, cols, us⟩) hcc, hc7, if_neg (by decide), List.append_nil])]
              exact hdu
          · have kd9 : KindOn := ⟨⟩
            have hvz : vs.length ≤ 1000 := by
              have e1 := DatAll.len hdu
              have e2 := all_few hox (Nat.le_trans (Nat.le_of_eq (by rw [hox.length])) (Nat.le_trans (List.length_filter_le _ _) (by omega : ds8.length ≤ 3))) wd9 i
              have e3 := colsTo_len wd9 ⟨num, al9, cols, us⟩ j
              have e4 : cols.length ≤ 3 := hso.few
              have e5 := (List.getElem?_eq_some_iff.mp hv2).1
              rw [List.length_map, List.length_append] at e1
              omega
            k_steps
            refine ⟨?_⟩
            rename News _ _ _ (_ :: _) => N0
            have NL := led6 (e1 := (I2 + 1, _)) (e2 := (I2, _)) (e3 := (I, _)) (e4 := (dl, _)) (e5 := (L' + 1, _)) (e6 := (pa, _)) (base := news) N0 (by walk_at "m_pulls") (by walk_at "m_splitR")
            refine unrW2_led (by k_asm) NL (by k_all) (by k_all) ?gm (.mk (canon2 fun z q1 q2 => by walk_at "m_off") rfl ?ht (by k_all) (by k_all) (by k_all) (by k_all) (by k_all) (by k_all) (by walk_at "m_far") (by walk_at "m_sub"))
            case gm => k_mem
            case ht =>
              rw [(show (ownAll wd9 ((ds8.filter (isOwn wd9)).take i) ++ colsTo wd9 ⟨num, al9, cols, us⟩ (j + 1)).map r3D = (ownAll wd9 ((ds8.filter (isOwn wd9)).take i) ++ colsTo wd9 ⟨num, al9, cols, us⟩ j).map r3D ++ [r3D ⟨cc, num, j⟩] by rw [cols_step (d := ⟨num, al9, cols, us⟩) hcc, if_pos hc7, ← List.append_assoc, List.map_append]; rfl)]
              refine' DatAll.snoc ?g0 (due_in ?g1)
              case g0 => exact hdu.mono (by walk_at "m_sub")
              case g1 => k_mem
theorem star_right {prog : Program} {w : World} {p : Program} {loose : List Str} {mean : ExcName → Option Value} {mg mb : Str → Option Value} : LawC prog w p loose mean mg mb 700 730 (fun v => v = .bool true) := Cstar_right.pack.2 (of_bad (by with_unfolding_all exact Cstar_right.core)) prog w p loose mean mg mb

/-! _law_pool -/
section
variable (prog : Program) (w : World) (p : Program) (loose : List Str) (mean : ExcName → Option Value) (mg mb : Str → Option Value)
/-- the pool's making -/
def MakeC : Prop :=
  ∀ (dp un : Nat) (gd : Option (List Code)) (cn : Str) (cs : Scope) (a : Addr) (ccd : Value) (cl : List (Str × Addr)) (outer : List Env) (A₀ : Around) (base h₀ : Heap) (L : Addr) (m : Str → Option Value) (news : Lst) (s : Shared) (l : Addr) (vs : List Value) (ns : List Int) (k : Int) (tk : Tok)
    (Q E : Value → Shared → Prop),
    Below A₀ base outer h₀ → Fr h₀ L s.heap m → (top.heap_1_39 w.params).In h₀ → News h₀ L s.heap news → Top p loose mean mg mb h₀ → cs.kind = .function → base.IsList l vs.toArray → IntsAre vs ns → ns.length < 2 ^ 62 → 0 ≤ k → k ≤ 1 →
    dp < 700 → un < 5 * 700 →
    (∀ pa x y tx ty n h' tk', PoolOk x y → Fr h₀ L h' m → News h₀ L h' ((pa, src x y tx ty n) :: news) → (∀ q ∈ news, q.1 ≠ pa) → Q (.ref pa) { s with heap := h', toks := tk' }) →
    wpAny (model prog w) (ktrTop dp un gd cn cs L a ccd cl outer) (call (.ref 713) [.ref l, .int k tk]) Q E s
end
section
variable {prog : Program} {w : World} {p : Program} {loose : List Str} {mean : ExcName → Option Value} {mg mb : Str → Option Value}
theorem pool_made : MakeC prog w p loose mean mg mb := by
  unfold MakeC
  intro dp un gd cn cs a ccd cl outer A₀ base h₀ L m news s l vs ns k tk Q E B F X N T hk hl hi hfit hk0 hk1 hdp hun ret
  refine wpAny_call ?_
  k_dflt (refine' enter [(Str.ofString "script", .ref l), (Str.ofString "k", .int k tk)] ?k1 ?k2 ?k3 ?k4 ?k5 ?kA ?kF ?kK ?k6 ?k7 ?k8 ?k9 ?kB ?_ ?c2 ?c3 ?c4 ?c5; walk_at "m_enter")
  k_lift B'
  k_steps
  all_goals (
    refine ret _ _ _ _ _ _ _ _ ⟨?_, ?_, ?_⟩ (by with_reducible assumption) (by k_asm) (by k_all)
    all_goals first | exact fmod_lo _ (by decide) | exact fmod_hi _ (by decide) | exact Int.le_refl 0 | exact Int.le_trans (show (0:Int) ≤ 10 ^ Int.toNat 18 by decide) (by assumption))
end
section
variable {prog : Program} {w : World} {p : Program} {loose : List Str} {mean : ExcName → Option Value} {mg mb : Str → Option Value}
theorem make_use {dp un : Nat} {gd : Option (List Code)} {cn : Str} {cs : Scope} {a : Addr} {ccd : Value} {cl : List (Str × Addr)} {outer : List Env} {A₀ : Around} {base h₀ : Heap} {L : Addr} {m : Str → Option Value} {news : Lst} {s : Shared} {l : Addr} {vs : List Value} {ns : List Int} {k : Int} {tk : Tok}
    {Q E : Value → Shared → Prop} (B : Below A₀ base outer h₀) (F : Fr h₀ L s.heap m) (X : (top.heap_1_39 w.params).In h₀) (N : News h₀ L s.heap news) (T : Top p loose mean mg mb h₀) (hk : cs.kind = .function) (hl : base.IsList l vs.toArray) (hi : IntsAre vs ns) (hfit : ns.length < 2 ^ 62) (h0 : 0 ≤ k) (h1 : k ≤ 1)
    (hdp : dp < 700) (hun : un < 5 * 700)
    (ret : ∀ pa x y tx ty n h' tk', PoolOk x y → Fr h₀ L h' m → News h₀ L h' ((pa, src x y tx ty n) :: news) → (∀ q ∈ news, q.1 ≠ pa) → Q (.ref pa) { s with heap := h', toks := tk' }) :
    wpAny (model prog w) (ktrTop dp un gd cn cs L a ccd cl outer) (call (.ref 713) [.ref l, .int k tk]) Q E s := pool_made _ _ _ _ _ _ _ _ _ _ _ _ _ _ _ _ _ _ _ _ _ _ _ B F X N T hk hl hi hfit h0 h1 hdp hun ret
theorem right_use {dp un : Nat} {gd : Option (List Code)} {cn : Str} {cs : Scope} {a : Addr} {ccd : Value} {cl : List (Str × Addr)} {A₀ : Around} {base h₀ : Heap} {L : Addr} {m : Str → Option Value} {led rest : Lst} {s : Shared} {pa : Addr} {x y : Int} {tx ty : Tok} {n : Nat} {D : Nat} {f : Addr}
    {Q E : Value → Shared → Prop} (C : LawC prog w p loose mean mg mb D f (fun v => v = .bool true)) (B : Below A₀ base [] h₀) (F : Fr h₀ L s.heap m) (X : (top.heap_1_39 w.params).In h₀) (N : News h₀ L s.heap led) (hp : Pull pa (src x y tx ty n) led rest) (ha : ∀ q ∈ rest, q.1 ≠ pa) (T : Top p loose mean mg mb h₀)
    (XB : (top.heap_1_39 w.params).In base) (TB : Top p loose mean mg mb base) (hk : cs.kind = .function) (ok : PoolOk x y) (hdp : dp < D) (hun : un < 5 * D)
    (ret : ∀ tl x' y' tx' ty' n' h' tk', PoolOk x' y' → Fr h₀ L h' m → News h₀ L h' ((pa, src x' y' tx' ty' n') :: (tl ++ rest)) → (∀ q ∈ tl, q.1 ≠ pa) → Far tl rest → Q (.bool true) { s with heap := h', toks := tk' }) :
    wpAny (model prog w) (ktrTop dp un gd cn cs L a ccd cl []) (call (.ref f) [.ref pa]) Q E s := by
  refine C _ _ _ _ _ _ _ _ _ _ _ _ _ _ _ _ _ _ _ _ _ _ _ B F X (fun q hq => N q (hp.sub q hq)) ha T XB TB hk ok hdp hun ?_
  intro r tl x' y' tx' ty' n' h' tk' o F' N' a' f' r'
  subst r'
  exact ret tl x' y' tx' ty' n' h' tk' o F' N' a' f'
theorem PoolC.law {D : Nat} {f : Addr} {Out : Value → Prop} (C : PoolC prog w p loose mean mg mb D f (fun pa => [.ref pa]) [] (fun _ v => Out v)) : LawC prog w p loose mean mg mb D f Out := by
  intro dp un gd cn cs a ccd cl A₀ base h₀ L m news s pa x y tx ty n Q E B F X N hoff T _ _ hk ok hdp hun ret
  exact C _ _ _ _ _ _ _ _ _ _ _ _ _ _ _ _ _ _ _ _ _ _ _ _ B F X N hoff T hk ok hdp hun (fun q h => nomatch h) fun r tl x' y' tx' ty' n' h' tk' o F' N' a' f' r' => ret r tl x' y' tx' ty' n' h' tk' o F' N' a' f' r'
end
theorem words22_25 : True := by
  k_with "@m_law" => (
      (case gB => k_asm); (case gF => k_asm); (case gX => k_asm); (case gN => k_asm); (case gP => walk_at "m_pull"); (case gA => k_all); (case gT => k_asm); (case gY => k_asm); (case gZ => k_asm); (case gK => first | exact rfl | assumption); (case gO => with_reducible assumption);
      (case gD => first | ktr_room | omega); (case gU => first | ktr_units | omega);
      intro tl9 x9 y9 tx9 ty9 n9 h9 tk9 o9 F9 N9 a9 f9; (try dsimp only); (try k_fold))
  trivial

/-! the law's loop, and the statement -/
theorem law_size (z : Nat) : ∃ n : Nat, (if (if 2 < (z : Int) then (2 : Int) else (z : Int)) > 1 then (if 2 < (z : Int) then (2 : Int) else (z : Int)) else 1) = (n : Int) ∧ n ≤ 2 := by
  by_cases h : 2 < (z : Int)
  · exact ⟨2, by simp [h], Nat.le_refl _⟩
  · by_cases h1 : (z : Int) > 1
    · exact ⟨z, by simp only [h, if_false, h1, if_true], by omega⟩
    · exact ⟨1, by simp only [h, if_false, h1]; rfl, by omega⟩
theorem canonL {a b : Str} {m' base : Str → Option Value} (h : ∀ z, z ≠ a → z ≠ b → m' z = base z) : ∃ u : Str → Option Value, m' = fun z => if z = a then u z else if z = b then u z else base z := ⟨m', by
  funext z
  by_cases e1 : z = a
  · simp [e1]
  by_cases e2 : z = b
  · simp [e2]
  rw [if_neg e1, if_neg e2, h z e1 e2]⟩
theorem law_loop {prog : Program} {w : World} {A : Around} {E : Value → Shared → Prop} {s : Shared} {env : Env} {h₀ : Heap} {x a b : Str} {body : List Stmt} {Q : Flow → Shared → Prop} {I : Addr} {k : Int} {n : Nat} {m₀ : Str → Option Value} {news₀ : Lst} (h0 : ∀ q ∈ news₀, q.1 ≠ I)
    (stop : ∀ (u : Str → Option Value) nw, (∀ q ∈ nw, q.1 ≠ I) → ∀ h tk, Fr h₀ env.locals h (fun z => if z = a then u z else if z = b then u z else m₀ z) → News h₀ env.locals h nw → Q .next { s with heap := h, toks := tk })
    (turn : ∀ (i : Nat) (u : Str → Option Value) nw, i < n → (∀ q ∈ nw, q.1 ≠ I) → ∀ t h tk, Fr h₀ env.locals h (fun y => if y = x then some (.int (k + (i : Int)) t) else if y = a then u y else if y = b then u y else m₀ y) → News h₀ env.locals h ((I, itR (k + ((i + 1 : Nat) : Int)) ((n : Int) - ((i + 1 : Nat) : Int))) :: nw) →
      wpAny (model prog w) A (execs body env) (UnrPost h₀ env.locals { s with heap := h, toks := tk } I (itR (k + ((i + 1 : Nat) : Int)) ((n : Int) - ((i + 1 : Nat) : Int))) (fun m' nw' => (∀ z, z ≠ a → z ≠ b → m' z = m₀ z) ∧ ∀ q ∈ nw', q.1 ≠ I) Q) E { s with heap := h, toks := tk }) :
    RangeRest prog w A E h₀ env x body Q s I k n n 0 m₀ news₀ := by
  refine rr_loop (J := fun _ m' nw' => (∀ z, z ≠ a → z ≠ b → m' z = m₀ z) ∧ ∀ q ∈ nw', q.1 ≠ I) ⟨fun _ _ _ => rfl, h0⟩ ?_ ?_
  · rintro m' nw' ⟨hm, hn⟩ h tk F N
    obtain ⟨u, rfl⟩ := canonL hm
    exact stop u nw' hn h tk F N
  · rintro i m' nw' hi ⟨hm, hn⟩ t h tk F N
    obtain ⟨u, rfl⟩ := canonL hm
    exact turn i u nw' hi hn t h tk F N
structure LawOn : Prop where
theorem words23_26 : True := by
  k_with "@call ref" => (
      k_here; (rename LawOn => lo8); (with_reducible show wpAny _ _ (call (Value.ref 713) _) _ _ _);
      k_dflt (refine' make_use ?B ?F ?X ?N ?T ?K ?hl ?hi ?hf ?h0 ?h1 ?D ?U ?_; (case B => k_asm); (case F => k_asm); (case X => k_asm); (case N => k_asm); (case T => k_asm); (case K => first | exact rfl | assumption); (case hl => assumption); (case hi => assumption); (case hf => omega); (case h0 => omega); (case h1 => omega); (case D => first | ktr_room | omega | decide); (case U => first | ktr_units | omega | decide));
      intro pa9 x9 y9 tx9 ty9 n9 h9 tk9 o9 F9 N9 a9; (have ip9 := at_ne a9 (List.mem_cons_self ..)); (try dsimp only); (try k_fold))
  k_with "@call ref" => (
      k_here; (rename LawOn => lo8); (with_reducible show wpAny _ _ (call (Value.ref 730) _) _ _ _);
      k_dflt (refine' right_use star_right ?gB ?gF ?gX ?gN ?gP ?gA ?gT ?gY ?gZ ?gK ?gO ?gD ?gU ?_; walk_at "m_law"))
  k_with "@call ref" => (
      k_here; (rename LawOn => lo8); (with_reducible show wpAny _ _ (call (Value.ref 742) _) _ _ _);
      k_dflt (refine' right_use joins_ok.law ?gB ?gF ?gX ?gN ?gP ?gA ?gT ?gY ?gZ ?gK ?gO ?gD ?gU ?_; walk_at "m_law"))
  k_with "@call ref" => (
      k_here; (rename LawOn => lo8); (with_reducible show wpAny _ _ (call (Value.ref 754) _) _ _ _);
      k_dflt (refine' right_use right_ok.law ?gB ?gF ?gX ?gN ?gP ?gA ?gT ?gY ?gZ ?gK ?gO ?gD ?gU ?_; walk_at "m_law"))
  trivial
theorem law_holds : PySem.Challenge.rw_xw0229_01.Holds := by
  refine top.pack.2 (show top.pack.1 from ?_)
  k_fill
  intro w s₀ s₁ mg mb G Y fa o pm cd doc dV kV ho hd hcd hD hmg hg args vals as hpre hlay hrd hwl hlo
  have KX := kIn_of Y
  k_behind G ho hd hcd hD hmg hpre hlay hrd hwl hlo cd
  try k_fold
  have halt : Halt := ⟨⟩
  k_steps
  refine ⟨?_⟩
  clear halt
  rename List Int => ns
  rename IsRange _ _ _ _ _ _ _ _ => rg9
  obtain ⟨nn, enn, hn2⟩ := law_size ns.length
  rw [enn] at rg9

  refine iter_rangeUnr (n := nn) rfl rg9 ?small ?size (by k_asm) (by k_asm) ?_
  case small => exact small_one (by omega) (by omega) (by omega) (by omega)
  case size => exact rangeSize_nat _ _
  intro I hI
  refine law_loop (a := Str.ofString "source") (b := Str.ofString "k") (fun q h => nomatch h) ?_ ?_
  · intro u nw nI h' tk' F' N'
    k_steps
  · intro i u nw hi nI t' h' tk' F' N'
    have lo8 : LawOn := ⟨⟩
    have halt : Halt := ⟨⟩
    k_steps
    exact ⟨unr_end (news := nw) (by k_asm) (by k_asm) (by k_mem) (by walk_at "m_split") (by k_all) ⟨fun z a1 a2 => by walk_at "m_off", by k_all⟩⟩

end Mine

theorem PySem.Challenge.cw_xw0229_01_holds : PySem.Challenge.rw_xw0229_01.Holds :=
  Mine.law_holds
