import PyProof.Rows.All
import Wide.All
import OpenK.AllK
import Wide.FinOn
import PyProof.CollectIter
import PyProof.DictIter
import PyProof.IsiPairs
import KE.KBytesWalk
import KE.RegLcTurns
import KE.KDictOf
import KE.KEqDict
import KE.KSortTup
import PySem.Challenge.RW_nn0151_01
open PyProof.Rows PySem PySem.Calls PySem.SeqAt PySem.W
set_option Elab.async false
set_option autoImplicit false
set_option linter.unusedVariables false
set_option linter.unusedSimpArgs false
set_option linter.unnecessarySimpa false
set_option genSizeOf false
set_option genInjectivity false
set_option genCtorIdx false
namespace Mine.top
theorem tw13197741201306595928 : True := .intro
theorem tw16541100652227675460 : True := .intro
theorem tw3030443613676547711 : True := .intro
theorem tw11285379026988237546 : True := .intro
theorem tw10944031595159391725 : True := .intro
theorem tw5715316560689409759 : True := .intro
theorem tw18064794426631996164 : True := .intro
theorem tw10754232723168269409 : True := .intro
theorem tw7531421383381892973 : True := .intro
theorem tw10407176745677716521 : True := .intro
theorem tw3352738760509787134 : True := .intro
theorem tw3999890269696038449 : True := .intro
theorem tw9825436776141319713 : True := .intro
theorem tw1381835654847214879 : True := .intro
theorem tw13635007476017903164 : True := .intro
theorem tw10564173322060671111 : True := .intro
theorem tw7033079012710635876 : True := .intro
theorem tw13187519465064655849 : True := .intro
theorem tw3314364781008592192 : True := .intro
theorem tw12764151676501842404 : True := .intro
theorem tw9647932998770659716 : True := .intro
theorem tw11072019736110318841 : True := .intro
theorem tw13985988839938425345 : True := .intro
theorem tw6196800358849779857 : True := .intro
theorem tw15924733828389392884 : True := .intro
theorem tw2220570432770164149 : True := .intro
theorem tw16290379675482240603 : True := .intro
theorem tw17482747398376418840 : True := .intro
theorem tw3120133295221510679 : True := .intro
theorem tw2770239361232196585 : True := .intro
theorem tw820453102255633130 : True := .intro
theorem tw76412952228603488 : True := .intro
theorem tw12894197372075662830 : True := .intro
theorem tw10197464462941295115 : True := .intro
theorem tw3140898538269762758 : True := .intro
theorem tw10562855833978642645 : True := .intro
theorem tw3837212427673210956 : True := .intro
theorem tw11173010173815179391 : True := .intro
theorem tw13290321428070320777 : True := .intro
theorem tw1294077662247117797 : True := .intro
theorem tw4835499133494076262 : True := .intro
theorem tw2103985501979894447 : True := .intro
theorem tw13983857475226248213 : True := .intro
theorem tw14466935161476858967 : True := .intro
theorem tw877433047237710547 : True := .intro
theorem tw11116745826364501430 : True := .intro
theorem tw8139039716903228087 : True := .intro
theorem tw4134505453457115739 : True := .intro
theorem tw2267912224990424062 : True := .intro
theorem tw18177719399980262173 : True := .intro
theorem tw4392038535549328194 : True := .intro
theorem tw9366391650621772374 : True := .intro
theorem tw1959476706220467273 : True := .intro
theorem tw1108800333578037850 : True := .intro
theorem tw3796891538752321733 : True := .intro
theorem tw18367679650794681301 : True := .intro
theorem tw11582926029173025856 : True := .intro
theorem tw81815255157605957 : True := .intro
theorem tw6176384092110617959 : True := .intro
theorem tw6662652255960138227 : True := .intro
theorem tw7273676953221729872 : True := .intro
theorem tw4796303294375832693 : True := .intro
theorem tw4773702212245658779 : True := .intro
theorem tw104434173382791472 : True := .intro
theorem tw8640399195822439974 : True := .intro
theorem tw12638030207367898728 : True := .intro
theorem tw13864677062968915208 : True := .intro
theorem tw5507162329139097715 : True := .intro
theorem tw15542334942015070624 : True := .intro
theorem tw1833847959688406909 : True := .intro
theorem tw8999917154711486175 : True := .intro
theorem tw17981982808018919739 : True := .intro
theorem tw2722852734226103192 : True := .intro
theorem tw10414433010598505635 : True := .intro
theorem tw1394568958698188020 : True := .intro
theorem tw13501252493785611398 : True := .intro
theorem tw10987319290404115282 : True := .intro
theorem tw14402358008270493973 : True := .intro
theorem tw8693662901424576113 : True := .intro
theorem tw15177526630643400193 : True := .intro
theorem tw2741389259953327712 : True := .intro
theorem tw4331257952254489624 : True := .intro
theorem tw11546936639936008217 : True := .intro
theorem tw2580922434103091657 : True := .intro
theorem tw8265191368974092141 : True := .intro
theorem tw6908635100366463001 : True := .intro
theorem tw6694047246710070196 : True := .intro
theorem tw5839659824258004927 : True := .intro
theorem tw17545328352263074274 : True := .intro
theorem tw10864713392326063847 : True := .intro
theorem tw9166809390415177425 : True := .intro
theorem tw1516213087968936877 : True := .intro
theorem tw11443710868159068359 : True := .intro
theorem tw17469865338272021226 : True := .intro
theorem tw6973401727384321114 : True := .intro
theorem tw1803303928475200142 : True := .intro
theorem tw4058662728301269685 : True := .intro
theorem tw5245862010334584759 : True := .intro
theorem tw17594962761535629368 : True := .intro
theorem tw3368050667910131433 : True := .intro
theorem tw8327351992414209593 : True := .intro
theorem tw9759319705405543751 : True := .intro
theorem tw2596539476470345881 : True := .intro
theorem tw401921906979044612 : True := .intro
theorem tw12545222027267286695 : True := .intro
theorem tw795583310449317561 : True := .intro
theorem tw9152664641465651067 : True := .intro
theorem tw2126296398998916975 : True := .intro
theorem tw16004416686337608138 : True := .intro
theorem tw3002795768020413707 : True := .intro
theorem tw2405475915293451298 : True := .intro
theorem tw12317137736924338119 : True := .intro
theorem tw956942650209027819 : True := .intro
theorem tw9614876229902214918 : True := .intro
theorem tw7386116660499605909 : True := .intro
theorem tw370947364307004932 : True := .intro
theorem tw10657950659306570408 : True := .intro
theorem tw16736118626332596326 : True := .intro
theorem tw4859757453598101857 : True := .intro
theorem tw10574840078274726829 : True := .intro
theorem tw708234853630380328 : True := .intro
theorem tw7160873610591055699 : True := .intro
theorem tw8297286125493194097 : True := .intro
theorem tw1123975283337734383 : True := .intro
theorem tw12209182163369298222 : True := .intro
theorem tw1754339480302792767 : True := .intro
theorem tw16597617366809209970 : True := .intro
theorem tw10187264123177260123 : True := .intro
theorem tw14671331368771545958 : True := .intro
theorem tw11334350811105764591 : True := .intro
theorem tw16104615914030681952 : True := .intro
theorem tw10005945817407372193 : True := .intro
theorem tw2249405535684624136 : True := .intro
theorem tw3776753064480771068 : True := .intro
theorem tw18164388396756303480 : True := .intro
theorem tw16713831800681072344 : True := .intro
theorem tw2686433634493928565 : True := .intro
theorem tw352232786441526191 : True := .intro
theorem tw8823455108540655025 : True := .intro
theorem tw13928562000808390012 : True := .intro
theorem tw1676862907878916244 : True := .intro
theorem tw10774637447528242797 : True := .intro
theorem tw17781115878593249900 : True := .intro
theorem tw887695700811335699 : True := .intro
theorem tw11334415319851112604 : True := .intro
theorem tw9590735534726013551 : True := .intro
theorem tw6786057226368545225 : True := .intro
theorem tw5225916559131626549 : True := .intro
theorem tw5244899138074338376 : True := .intro
theorem tw4383139521930768336 : True := .intro
theorem tw16900427199656544559 : True := .intro
theorem tw1655259298481077034 : True := .intro
theorem tw17346259052997144950 : True := .intro
theorem tw16196420915677631385 : True := .intro
theorem tw16550210197400561554 : True := .intro
theorem tw2057334267981633021 : True := .intro
theorem tw8148004212497801138 : True := .intro
theorem tw13994475860397038760 : True := .intro
theorem tw9108098604805947806 : True := .intro
theorem tw13303987763403120937 : True := .intro
theorem tw9962302188120564619 : True := .intro
theorem tw1016984595167383106 : True := .intro
theorem tw6505410396798821541 : True := .intro
theorem tw4791253341166991637 : True := .intro
theorem tw83393220934416808 : True := .intro
theorem tw987869383939708018 : True := .intro
theorem tw5398424786039705171 : True := .intro
theorem tw10567129059001840431 : True := .intro
theorem tw12392516345856041104 : True := .intro
theorem tw8694864300669457046 : True := .intro
theorem tw4784893810139332661 : True := .intro
theorem tw18245740138792012028 : True := .intro
theorem tw9743097575036673082 : True := .intro
theorem tw8874702517807110003 : True := .intro
theorem tw5088376156974544275 : True := .intro
theorem tw381845443943030031 : True := .intro
theorem tw16262243036561855896 : True := .intro
theorem tw2685012915969955173 : True := .intro
theorem tw196536941598035525 : True := .intro
theorem tw1040915598704419856 : True := .intro
theorem tw11845233108574324481 : True := .intro
theorem tw8410488445778877200 : True := .intro
theorem tw12318557346453588183 : True := .intro
theorem tw18371284783138465269 : True := .intro
theorem tw15877122091014420850 : True := .intro
theorem tw7250933059871147345 : True := .intro
theorem tw6572447435987645144 : True := .intro
theorem tw283044589724301 : True := .intro
theorem tw13091174067606910046 : True := .intro
theorem tw14823308797102314842 : True := .intro
theorem tw18186074749648716422 : True := .intro
theorem tw2835187731363253809 : True := .intro
theorem tw13134186033006778460 : True := .intro
theorem tw814325599930780420 : True := .intro
theorem tw15254643099363442306 : True := .intro
theorem tw9229161468869434483 : True := .intro
theorem tw17177869089781658578 : True := .intro
theorem tw908825868028484722 : True := .intro
theorem tw10996937224433265937 : True := .intro
theorem tw13385244156195431271 : True := .intro
theorem tw14747140909534839006 : True := .intro
theorem tw10915162052029792233 : True := .intro
theorem tw16719718919923625709 : True := .intro
theorem tw7657828476027519975 : True := .intro
theorem tw7271442835524344197 : True := .intro
theorem tw1706793611546318481 : True := .intro
theorem tw13802547742096326172 : True := .intro
theorem tw4597200072644226624 : True := .intro
theorem tw13889309363888878346 : True := .intro
theorem tw8237333600419904120 : True := .intro
theorem tw17492772389151264855 : True := .intro
theorem tw12080426169559351053 : True := .intro
theorem tw6756868429301003459 : True := .intro
theorem tw13359135706311490777 : True := .intro
theorem tw14450715343900746980 : True := .intro
theorem tw7204998973626084599 : True := .intro
theorem tw956089473029861405 : True := .intro
theorem tw3696473221133414273 : True := .intro
theorem tw13012589842206080548 : True := .intro
theorem tw4828031223510198475 : True := .intro
theorem tw705360758644809490 : True := .intro
theorem tw3479634599624807885 : True := .intro
theorem tw15569959144833144457 : True := .intro
theorem tw6491118196486620199 : True := .intro
theorem tw11240886729373846589 : True := .intro
theorem tw3261557481417251176 : True := .intro
theorem tw2731995056826638727 : True := .intro
theorem tw8598144960395782539 : True := .intro
theorem tw2544169868661182894 : True := .intro
theorem tw18289109515434150305 : True := .intro
theorem tw14168018189251442112 : True := .intro
theorem tw9233335307524088747 : True := .intro
theorem tw672699306608606093 : True := .intro
theorem tw5155950481276406077 : True := .intro
theorem tw10194810499950245846 : True := .intro
theorem tw17323899518341599180 : True := .intro
theorem tw9165953624949470791 : True := .intro
theorem tw15740088241188596515 : True := .intro
theorem tw16420938139371093754 : True := .intro
theorem tw427420600052151026 : True := .intro
theorem tw11457754044182789617 : True := .intro
theorem tw216529984938456764 : True := .intro
theorem tw12256363837256957063 : True := .intro
theorem tw6124053682588569230 : True := .intro
theorem tw15286249088069653756 : True := .intro
theorem tw5868845118606482295 : True := .intro
theorem tw17788931634197215145 : True := .intro
theorem tw3337584539547039419 : True := .intro
theorem tw5889316905344633881 : True := .intro
theorem tw17030962893124633753 : True := .intro
theorem tw11423202765487971197 : True := .intro
theorem tw12105128591322288922 : True := .intro
theorem tw11279390925490393535 : True := .intro
theorem tw649594095290182367 : True := .intro
theorem tw11466170419677230873 : True := .intro
theorem tw15985961358823992270 : True := .intro
theorem tw11141966352661209427 : True := .intro
theorem tw5058314954733539658 : True := .intro
theorem tw15976228082101565994 : True := .intro
theorem tw1275901062530889299 : True := .intro
theorem tw8973803690348224638 : True := .intro
theorem tw146815374380898660 : True := .intro
theorem tw14611434983143301774 : True := .intro
theorem tw427269002284569659 : True := .intro
theorem tw3378803678994701225 : True := .intro
theorem tw14502225709538309166 : True := .intro
theorem tw9953747333497923681 : True := .intro
theorem tw13068111086705522682 : True := .intro
theorem tw6042063481754889096 : True := .intro
theorem tw16123964013534891561 : True := .intro
theorem tw16054190913257422852 : True := .intro
theorem tw2464713573024523455 : True := .intro
theorem tw681777741448182936 : True := .intro
theorem tw11982747722937265360 : True := .intro
theorem tw1617357707322924660 : True := .intro
theorem tw13822267516522204269 : True := .intro
theorem tw5476889619067714990 : True := .intro
theorem tw7381879191629600215 : True := .intro
theorem tw6370870915552960936 : True := .intro
theorem tw7414872774492366064 : True := .intro
theorem tw1492452104121835379 : True := .intro
theorem tw7600245330811189008 : True := .intro
theorem tw7444641836354208208 : True := .intro
theorem tw14724332232928298890 : True := .intro
theorem tw14615657086365298920 : True := .intro
theorem tw15646934709686841381 : True := .intro
theorem tw12904532413392791838 : True := .intro
theorem tw953821971998124167 : True := .intro
theorem tw13500427573557490136 : True := .intro
theorem tw3767615275625035234 : True := .intro
theorem tw661290744650703789 : True := .intro
theorem tw11960245374511038805 : True := .intro
theorem tw5702910450625016506 : True := .intro
theorem tw10001883323181062329 : True := .intro
theorem tw1068965626710143233 : True := .intro
theorem tw13713866747541496747 : True := .intro
theorem tw14145802354927516647 : True := .intro
theorem tw10399464001100048223 : True := .intro
theorem tw3486219094355674750 : True := .intro
theorem tw13160728816969591200 : True := .intro
theorem tw9016798869158615873 : True := .intro
theorem tw18374746225686918389 : True := .intro
theorem tw5728218623943512802 : True := .intro
theorem tw1601500998369573665 : True := .intro
theorem tw16866024460163772082 : True := .intro
theorem tw1297684725254868899 : True := .intro
theorem tw6381231289166406305 : True := .intro
theorem tw2417791160451022400 : True := .intro
theorem tw15212760480394562756 : True := .intro
theorem tw9589608677651300831 : True := .intro
theorem tw4736427724481360342 : True := .intro
theorem tw10404823597219466188 : True := .intro
theorem tw17576949682797635024 : True := .intro
theorem tw2758071753971750899 : True := .intro
theorem tw4807692442873511580 : True := .intro
theorem tw4177254973167742082 : True := .intro
theorem tw9442318146202087700 : True := .intro
theorem tw4551080515912023512 : True := .intro
theorem tw8281120267493503204 : True := .intro
theorem tw3976154599441133093 : True := .intro
theorem tw10773188271377071773 : True := .intro
theorem tw13710211086531791108 : True := .intro
theorem tw15125931889511115149 : True := .intro
theorem tw1321871150748368714 : True := .intro
theorem tw14987219478266130788 : True := .intro
theorem tw14142502885225118848 : True := .intro
theorem tw9800703332001039478 : True := .intro
theorem tw6292954644110606532 : True := .intro
theorem tw16453443671601555132 : True := .intro
theorem tw3195522803047326042 : True := .intro
theorem tw16034636559557993077 : True := .intro
theorem tw2365566498512967660 : True := .intro
theorem tw2218668502564051296 : True := .intro
theorem tw3254097082911018636 : True := .intro
theorem tw13975414291046593716 : True := .intro
theorem tw17219337458794519322 : True := .intro
theorem tw1344191548851548055 : True := .intro
theorem tw5597187220613765494 : True := .intro
theorem tw13370750898655102155 : True := .intro
theorem tw13420762306968818387 : True := .intro
theorem tw10008474027749305400 : True := .intro
theorem tw4963205469387433577 : True := .intro
theorem tw2287823674025257028 : True := .intro
theorem tw453181688931711583 : True := .intro
theorem tw14282377253939248939 : True := .intro
theorem tw3871027444623705763 : True := .intro
theorem tw14632489290957082403 : True := .intro
theorem tw2924597203103170677 : True := .intro
theorem tw10195997230039290492 : True := .intro
theorem tw4047667213573674445 : True := .intro
theorem tw9361663168868926718 : True := .intro
theorem tw15349318334595610263 : True := .intro
theorem tw6333448901615975916 : True := .intro
theorem tw3422688185749166683 : True := .intro
theorem tw501154541418245514 : True := .intro
theorem tw9601329371697537090 : True := .intro
theorem tw4655869559712951663 : True := .intro
theorem tw5105846836358774362 : True := .intro
theorem tw6664487174759623829 : True := .intro
theorem tw5983031951866500094 : True := .intro
theorem tw14917401599646851644 : True := .intro
theorem tw17741875731164886585 : True := .intro
theorem tw7681529838311687354 : True := .intro
theorem tw14861896470697024400 : True := .intro
theorem tw9961057766049560675 : True := .intro
theorem tw5766051744304087583 : True := .intro
theorem tw7429413206186439793 : True := .intro
theorem tw9227057690007400460 : True := .intro
theorem tw14697636140705633519 : True := .intro
theorem tw11459358961799972967 : True := .intro
theorem tw18237780215024852062 : True := .intro
theorem tw1886144042066472794 : True := .intro
theorem tw7008692893051332821 : True := .intro
theorem tw16885616592811714743 : True := .intro
theorem tw14349089067433371257 : True := .intro
theorem tw6189502492464219833 : True := .intro
theorem tw2907113945770861938 : True := .intro
theorem tw12427389293880184781 : True := .intro
theorem tw4571971715460732019 : True := .intro
theorem tw1814787853859245837 : True := .intro
theorem tw3584897518013459382 : True := .intro
theorem tw8140125068956082859 : True := .intro
theorem tw18086089286151905521 : True := .intro
theorem tw16273406610938067001 : True := .intro
theorem tw9913501989792142831 : True := .intro
theorem tw7913636548009798097 : True := .intro
theorem tw7673058066778466091 : True := .intro
theorem tw14901070454687303710 : True := .intro
theorem tw15169761463676818070 : True := .intro
theorem tw16878204669230926818 : True := .intro
theorem tw47109162367338493 : True := .intro
theorem tw16439428074185983240 : True := .intro
theorem tw2782073688633401757 : True := .intro
theorem tw13305523845174962083 : True := .intro
theorem tw7458633546980236471 : True := .intro
theorem tw17022078359063049780 : True := .intro
theorem tw11613256710310857696 : True := .intro
theorem tw15362295582089109014 : True := .intro
theorem tw9063741608606530840 : True := .intro
theorem tw15878805988109762761 : True := .intro
theorem tw10801874191123338550 : True := .intro
theorem tw9378254376102152143 : True := .intro
theorem tw13706816188851595723 : True := .intro
theorem tw15860264024139754761 : True := .intro
theorem tw4205137553216949640 : True := .intro
theorem tw1245559373397905713 : True := .intro
theorem tw13326734554550294991 : True := .intro
theorem tw18085771088847121727 : True := .intro
theorem tw8025738503920905074 : True := .intro
theorem tw15874363893724204672 : True := .intro
theorem tw13223034962123697568 : True := .intro
theorem tw12094960947251128927 : True := .intro
theorem tw16795567611416646642 : True := .intro
theorem tw17050326753033342646 : True := .intro
theorem tw10467260515200827399 : True := .intro
theorem tw14042817526060737062 : True := .intro
theorem tw2007660962349395123 : True := .intro
theorem tw1584292188352093569 : True := .intro
theorem tw10579768621468169598 : True := .intro
theorem tw1212798325632107971 : True := .intro
theorem tw13177472732611162249 : True := .intro
theorem tw6885214360128481674 : True := .intro
theorem tw13549259019975226677 : True := .intro
theorem tw7587601194962177611 : True := .intro
theorem tw12425085872883035938 : True := .intro
theorem tw13968125046926948103 : True := .intro
theorem tw3969286963782609292 : True := .intro
theorem tw17828378304095215089 : True := .intro
theorem tw4321519831107876412 : True := .intro
theorem tw9149571693438533347 : True := .intro
theorem tw12783364522390391256 : True := .intro
theorem tw7990429038631628895 : True := .intro
theorem tw17315540178315561739 : True := .intro
theorem tw1483126911874232274 : True := .intro
theorem tw14453841093610474573 : True := .intro
theorem tw2506305409684761478 : True := .intro
theorem tw8345894832289464959 : True := .intro
theorem tw8443935842833279946 : True := .intro
theorem tw9335426496214029073 : True := .intro
theorem tw13120753694373217308 : True := .intro
theorem tw16155163154822807229 : True := .intro
theorem tw17103585973383926153 : True := .intro
theorem tw14657780768301432306 : True := .intro
theorem tw1988063486488863061 : True := .intro
theorem tw12483720753089274532 : True := .intro
theorem tw7297446738713254254 : True := .intro
theorem tw12415523145999629524 : True := .intro
theorem tw4526881389914513428 : True := .intro
theorem tw5860347150701562758 : True := .intro
theorem tw7527032243904285869 : True := .intro
theorem tw10648311167861321448 : True := .intro
theorem tw14597223018079223185 : True := .intro
theorem tw6265701101103706036 : True := .intro
theorem tw4656485037274611717 : True := .intro
theorem tw14399976873020721970 : True := .intro
theorem tw12643491718579748851 : True := .intro
theorem tw860223938195835975 : True := .intro
theorem tw5523086135645875356 : True := .intro
theorem tw5915399644114372684 : True := .intro
theorem tw2812155379371279736 : True := .intro
theorem tw1088946173253831356 : True := .intro
theorem tw11133666699803404755 : True := .intro
theorem tw11858546649754279707 : True := .intro
theorem tw1697544655201012999 : True := .intro
theorem tw3315250197877816394 : True := .intro
theorem tw9059832203979395877 : True := .intro
theorem tw8204474986945543665 : True := .intro
theorem tw4159251561096739476 : True := .intro
theorem tw620129878449983639 : True := .intro
theorem tw11760055953109336660 : True := .intro
theorem tw775762912060472103 : True := .intro
theorem tw105208000716104510 : True := .intro
theorem tw9227541089923242437 : True := .intro
theorem tw6286779285267259847 : True := .intro
theorem tw4299629679881509495 : True := .intro
theorem tw9503340733035011235 : True := .intro
theorem tw10361075674979980167 : True := .intro
theorem tw11199710921928265848 : True := .intro
theorem tw3561193834555079511 : True := .intro
theorem tw17342085116792181814 : True := .intro
theorem tw8321918168302905379 : True := .intro
theorem tw14459580976405569124 : True := .intro
theorem tw6930518751129746686 : True := .intro
theorem tw1142415686869020238 : True := .intro
theorem tw4671429814451907529 : True := .intro
theorem tw5118827330378232414 : True := .intro
theorem tw668136137496459709 : True := .intro
theorem tw13345470168829271861 : True := .intro
theorem tw6906291655842520137 : True := .intro
theorem tw1732150942055357024 : True := .intro
theorem tw1971433849790844608 : True := .intro
theorem tw6624316729101989866 : True := .intro
theorem tw7198060816514059695 : True := .intro
theorem tw6674990990233134667 : True := .intro
theorem tw13272337422414781067 : True := .intro
theorem tw16325430554902658873 : True := .intro
theorem tw5596365628329696591 : True := .intro
theorem tw9305691244287143441 : True := .intro
theorem tw8507776931139520737 : True := .intro
theorem tw14372152842798730730 : True := .intro
theorem tw16174758807025615021 : True := .intro
theorem tw11199532085631943738 : True := .intro
theorem tw10783980745131425670 : True := .intro
theorem tw16415559393655328363 : True := .intro
theorem tw11430207588045935325 : True := .intro
theorem tw15095372191486117680 : True := .intro
theorem tw3474246075231452896 : True := .intro
theorem tw6127594578889010139 : True := .intro
theorem tw14796646475526232899 : True := .intro
theorem tw13369591340354186047 : True := .intro
theorem tw8645369167282567922 : True := .intro
theorem tw17486766287000646611 : True := .intro
theorem tw728428047077509346 : True := .intro
theorem tw9843447840031818808 : True := .intro
theorem tw13044034144603486326 : True := .intro
theorem tw2312856594315299383 : True := .intro
theorem tw8810280945414196856 : True := .intro
theorem tw12819366960792805191 : True := .intro
theorem tw18063644159110109576 : True := .intro
theorem tw517144808224063464 : True := .intro
theorem tw12958502747184954254 : True := .intro
theorem tw8265311939077410998 : True := .intro
theorem tw15451780782824253742 : True := .intro
theorem tw2665807947273092163 : True := .intro
theorem tw15503665604740900718 : True := .intro
theorem tw8729362747519067210 : True := .intro
theorem tw16044733080236030384 : True := .intro
theorem tw17470836177267949868 : True := .intro
theorem tw575894324575664597 : True := .intro
theorem tw8435561252592420358 : True := .intro
theorem tw3548060758652744671 : True := .intro
theorem tw3484022092364678248 : True := .intro
theorem tw6749217079512962374 : True := .intro
theorem tw15092371282622821202 : True := .intro
theorem tw1149218181149386328 : True := .intro
theorem tw8813761850579938390 : True := .intro
theorem tw6431110157172167083 : True := .intro
theorem tw11053662475850362967 : True := .intro
theorem tw16580785732701462914 : True := .intro
theorem tw1486479319815781832 : True := .intro
theorem tw3712731000106771831 : True := .intro
theorem tw4916261283513009128 : True := .intro
theorem tw15911569825323301435 : True := .intro
theorem tw2145171640123136144 : True := .intro
theorem tw9768079942903668216 : True := .intro
theorem tw3195968871104189447 : True := .intro
theorem tw2514443458684651071 : True := .intro
theorem tw13261893007816960818 : True := .intro
theorem tw6430265229019958763 : True := .intro
theorem tw17886615442053742456 : True := .intro
theorem tw11542710104232473196 : True := .intro
theorem tw11520865232209809239 : True := .intro
theorem tw8538268897159353584 : True := .intro
theorem tw12540527436937284434 : True := .intro
theorem tw8369368087495890639 : True := .intro
theorem tw9919435345466941130 : True := .intro
theorem tw8560541052185303311 : True := .intro
theorem tw11762496359356365647 : True := .intro
theorem tw11922380849998532372 : True := .intro
theorem tw9259421805112917234 : True := .intro
theorem tw6746510453823603384 : True := .intro
theorem tw6187478851450931391 : True := .intro
theorem tw15245507539482535896 : True := .intro
theorem tw12117888159696746259 : True := .intro
theorem tw5938664839603501006 : True := .intro
theorem tw3730354652608582461 : True := .intro
theorem tw16352630495959832749 : True := .intro
theorem tw17565814175750979855 : True := .intro
theorem tw4951766788466123468 : True := .intro
theorem tw8212240652046128837 : True := .intro
theorem tw14789260269991461300 : True := .intro
theorem tw12787338502077490372 : True := .intro
theorem tw9631074621892390191 : True := .intro
theorem tw2847958352784047137 : True := .intro
theorem tw10577272966987657301 : True := .intro
theorem tw17795014544551873601 : True := .intro
theorem tw7855079511596107753 : True := .intro
theorem tw1195175773429642966 : True := .intro
theorem tw13889484949932952446 : True := .intro
theorem tw9685713192446186341 : True := .intro
theorem tw1112988674713690477 : True := .intro
theorem tw5225153198818245361 : True := .intro
theorem tw342308947776675178 : True := .intro
theorem tw12166907935582030026 : True := .intro
theorem tw9951221954081769418 : True := .intro
theorem tw6919701780365589675 : True := .intro
theorem tw9382581127745807760 : True := .intro
theorem tw12385144161495827662 : True := .intro
theorem tw10936122117785486979 : True := .intro
theorem tw4186445540838780016 : True := .intro
theorem tw2683898200743741643 : True := .intro
theorem tw6659320528611288953 : True := .intro
theorem tw16759092144687519636 : True := .intro
theorem tw13432635357386499347 : True := .intro
theorem tw2867133514656366558 : True := .intro
theorem tw864819663365544661 : True := .intro
theorem tw5969682004907312646 : True := .intro
theorem tw4840481374290595910 : True := .intro
theorem tw4940147422707163885 : True := .intro
theorem tw9178861053002065721 : True := .intro
theorem tw995497684801637723 : True := .intro
theorem tw2462062305354472974 : True := .intro
theorem tw6883741973766446791 : True := .intro
theorem tw9851269098105209369 : True := .intro
theorem tw8043003576528973991 : True := .intro
theorem tw17582957951858275007 : True := .intro
theorem tw8184561461823581802 : True := .intro
theorem tw3995942328266245912 : True := .intro
theorem tw9272544492142499777 : True := .intro
theorem tw5278709424875269971 : True := .intro
theorem tw6438537300738474071 : True := .intro
theorem tw10006222313960134694 : True := .intro
theorem tw17085176360113175178 : True := .intro
theorem tw6859976401760118174 : True := .intro
theorem tw1843344800811705456 : True := .intro
theorem tw2601905985415302144 : True := .intro
theorem tw2878843996050045342 : True := .intro
theorem tw14390669486469195807 : True := .intro
theorem tw16058212318047004132 : True := .intro
theorem tw4166218997396506358 : True := .intro
theorem tw5667650583090716360 : True := .intro
theorem tw4713442408853163898 : True := .intro
theorem tw7715697345341360870 : True := .intro
theorem tw1124271682379634556 : True := .intro
theorem tw7671549972530922468 : True := .intro
theorem tw10617020205504526918 : True := .intro
theorem tw2988451766255067171 : True := .intro
theorem tw14826035006057030972 : True := .intro
theorem tw4547018644641229820 : True := .intro
theorem tw5513142621748847562 : True := .intro
theorem tw8054331753737935190 : True := .intro
theorem tw12718909917080609646 : True := .intro
theorem tw1638113669730673903 : True := .intro
theorem tw93012567124736588 : True := .intro
theorem tw17555251805378815213 : True := .intro
theorem tw15299407806266782574 : True := .intro
theorem tw1284575025550258836 : True := .intro
theorem tw8622502720953521162 : True := .intro
end Mine.top
namespace Mine
set_option maxRecDepth 10000
set_option genCtorIdx true in
inductive Atr where
  | data | at_ | end_ | spaces | chars
  deriving DecidableEq
noncomputable def Atr.nm : Atr → Str
  | .data => "data" | .at_ => "at" | .end_ => "end" | .spaces => "spaces" | .chars => "chars"
set_option genCtorIdx true in
inductive Cls where
  | cmap | cursor
  deriving DecidableEq

/-! data -/
set_option genCtorIdx true in
inductive AV where
  | undef | none
  | bool (b : Bool) | int (i : Int) | str (x : List Nat) | bytes (b : List Nat)
  | tup (xs : List AV) | list (xs : List AV)
  | map (kvs : List (List Int × List Nat))
  | inst (c : Cls) (fl : List (Atr × AV))
  | rng (a b c : Int)
  | own (i : Nat) | cur (c : Cls) (i : Nat)

inductive OObj where
  | dead
  | list (xs : List AV)
  | map (kvs : List (List Int × List Nat))
  | inst (c : Cls) (fl : List (Atr × AV))
noncomputable def OObj.live : OObj → Bool
  | .dead => false
  | _ => true
abbrev St := List OObj

abbrev tk (prog : Program) (w : World) : HeapKind prog w (List Int) := tupleKind (intKind prog w)

structure SC where
  prog : Program
  w : World
  K : Frag
  H : Heap
  p : Program
  loose : List Str
  mg : Str → Option Value
  mb : Str → Option Value
  X : K.In H
  T : TopRead p loose mg mb H
  cls : Cls → Addr

noncomputable def Sub (g h : Heap) : Prop := ∀ b o, g.get? b = some o → h.get? b = some o
theorem Sub.refl (g : Heap) : Sub g g := fun _ _ e => e
theorem Sub.trans {a b c : Heap} (x : Sub a b) (y : Sub b c) : Sub a c := fun b o e => y b o (x b o e)

/-- x is an object of class c with its dict object at d -/
noncomputable def IsInst (g : Heap) (x : Addr) (c : Addr) (d : Addr) : Prop := ∃ sl, g.get? x = some ⟨.ref c, some d, .plain, sl⟩
/-- a dictionary object at d with written entries -/
noncomputable def IsDictL (h : Heap) (d : Addr) (es : List DictEntry) : Prop := ∃ n, h.get? d = some (dictOf es n)

noncomputable def RepM : List (List Int × List Nat) → List (List Int × Addr × Value) → Prop
  | [], xs => xs = []
  | (k, x) :: kvs, xs => ∃ a t r, xs = (k, a, .str ⟨x.toArray⟩ t) :: r ∧ RepM kvs r
inductive MapRep (C : SC) (h g : Heap) (a : Addr) (kvs : List (List Int × List Nat)) : Prop
  | mk (hs : (a == sysModules) = false) (xs : List (List Int × Addr × Value)) (o : Obj) (es : Array DictEntry) (ep : Nat) (ho : h.get? a = some o) (hc : o.ExactDict) (hd : o.data = .dict es ep)
    (he : es.toList = xs.map (entryOfKey (tk C.prog C.w))) (hi : ∀ x ∈ xs, (tk C.prog C.w).is g x.1 x.2.1) (hn : (xs.map (·.1)).Nodup) (hm : RepM kvs xs)

inductive RInt (i : Int) : Value → Prop
  | mk (t : Tok) : RInt i (.int i t)
inductive RStr (x : List Nat) : Value → Prop
  | mk (t : Tok) : RStr x (.str ⟨x.toArray⟩ t)
inductive RByt (x : List Nat) : Value → Prop
  | mk (a : Array UInt8) (t : Tok) (e : a.toList.map (·.toNat) = x) : RByt x (.bytes a t)
inductive RSeq (P : Addr → Array Value → Prop) (R : List Value → Prop) : Value → Prop
  | mk (a : Addr) (vs : List Value) (h : P a vs.toArray) (r : R vs) : RSeq P R (.ref a)
inductive RRef (P : Addr → Prop) : Value → Prop
  | mk (a : Addr) (h : P a) : RRef P (.ref a)
inductive RInst (g : Heap) (c : Addr) (R : List DictEntry → Prop) : Value → Prop
  | mk (x d : Addr) (es : List DictEntry) (h : IsInst g x c d) (hd : IsDictL g d es) (r : R es) : RInst g c R (.ref x)
inductive RRng (g : Heap) (a b c : Int) : Value → Prop
  | mk (r : Addr) (t u w : Tok) (h : IsRange g r a b c t u w) : RRng g a b c (.ref r)
inductive RCur (g : Heap) (c : Addr) (o : Option Addr) : Value → Prop
  | mk (x d : Addr) (h : IsInst g x c d) (e : o = some d) : RCur g c o (.ref x)
inductive RCons (P : Value → Prop) (R : List Value → Prop) : List Value → Prop
  | mk (v : Value) (r : List Value) (h : P v) (hr : R r) : RCons P R (v :: r)
inductive RConsF (nm : Str) (P : Value → Prop) (R : List DictEntry → Prop) : List DictEntry → Prop
  | mk (hs : Int) (t : Tok) (v : Value) (r : List DictEntry) (h : P v) (hr : R r) : RConsF nm P R (⟨hs, .str nm t, v⟩ :: r)

mutual
noncomputable def Rep (C : SC) (g : Heap) (as : List Addr) : AV → Value → Prop
  | .undef, _ => False
  | .none, v => v = .none
  | .bool b, v => v = .bool b
  | .int i, v => RInt i v
  | .str x, v => RStr x v
  | .bytes b, v => RByt b v
  | .tup xs, v => RSeq g.IsTuple (fun vs => RepL C g as xs vs) v
  | .list xs, v => RSeq g.IsList (fun vs => RepL C g as xs vs) v
  | .map kvs, v => RRef (fun a => MapRep C g g a kvs) v
  | .inst c fl, v => RInst g (C.cls c) (fun es => RepF C g as fl es) v
  | .rng a b c, v => RRng g a b c v
  | .own i, v => RRef (fun a => as[i]? = some a) v
  | .cur c i, v => RCur g (C.cls c) (as[i]?) v
noncomputable def RepL (C : SC) (g : Heap) (as : List Addr) : List AV → List Value → Prop
  | [], vs => vs = []
  | x :: xs, vs => RCons (fun v => Rep C g as x v) (fun r => RepL C g as xs r) vs
noncomputable def RepF (C : SC) (g : Heap) (as : List Addr) : List (Atr × AV) → List DictEntry → Prop
  | [], es => es = []
  | (a, x) :: fl, es => RConsF a.nm (fun v => Rep C g as x v) (fun r => RepF C g as fl r) es
end

theorem tk_mono {prog : Program} {w : World} {g g' : Heap} {k : List Int} {a : Addr} (hg : Sub g g') (h : (tk prog w).is g k a) : (tk prog w).is g' k a :=
  let ⟨o, items, n, q1, q2⟩ := h; ⟨o, items, n, hg _ _ q1, q2⟩
theorem MapRep.mono {C : SC} {h g h' g' : Heap} {a : Addr} {kvs} (m : MapRep C h g a kvs) (ha : ∀ o, h.get? a = some o → h'.get? a = some o) (hg : Sub g g') : MapRep C h' g' a kvs :=
  let ⟨hs, xs, o, es, ep, ho, h1, h2, h3, h4, h5, h6⟩ := m
  ⟨hs, xs, o, es, ep, ha _ ho, h1, h2, h3, fun x hx => tk_mono hg (h4 x hx), h5, h6⟩

mutual
noncomputable def frozen : AV → Bool
  | .undef => false | .none => true | .bool _ => true | .int _ => true | .str _ => true | .bytes _ => true
  | .tup xs => frozens xs | .list xs => frozens xs | .map _ => true | .inst _ fl => frozenf fl | .rng _ _ _ => true | .own _ => false | .cur _ _ => false
noncomputable def frozens : List AV → Bool
  | [] => true
  | x :: xs => frozen x && frozens xs
noncomputable def frozenf : List (Atr × AV) → Bool
  | [] => true
  | (_, x) :: xs => frozen x && frozenf xs
end

theorem and_l {a b : Bool} (h : (a && b) = true) : a = true := by cases a <;> first | rfl | cases h
theorem and_r {a b : Bool} (h : (a && b) = true) : b = true := by cases a <;> first | exact h | cases h

/-- a step that only adds, and either keeps the owned addresses or meets frozen data alone -/
noncomputable def Pre (as as' : List Addr) : Prop := ∀ (i : Nat) (a : Addr), as[i]? = some a → as'[i]? = some a
noncomputable def Chg (C : SC) (g g' : Heap) (as as' : List Addr) (z : Bool) : Prop := Sub g g' ∧ (z = true ∨ Pre as as')
theorem Chg.own {C : SC} {g g' : Heap} {as as' : List Addr} {z : Bool} (c : Chg C g g' as as' z) (hz : z = true → false = true) : Pre as as' :=
  c.2.elim (fun q => nomatch hz q) id
mutual
theorem Rep.chg {C : SC} {g g' : Heap} {as as' : List Addr} {z : Bool} (c : Chg C g g' as as' z) : ∀ (x : AV) (v : Value), (z = true → frozen x = true) → Rep C g as x v → Rep C g' as' x v
  | .undef, _, _, h => h
  | .none, _, _, h => h
  | .bool _, _, _, h => h
  | .int _, _, _, h => h
  | .str _, _, _, h => h
  | .bytes _, _, _, h => h
  | .tup xs, v, f, h => let ⟨a, vs, ⟨o, ho, h2⟩, h3⟩ := (h : RSeq _ _ v); RSeq.mk a vs ⟨o, c.1 _ _ ho, h2⟩ (RepL.chg c xs vs f h3)
  | .list xs, v, f, h => let ⟨a, vs, ⟨o, ho, h2⟩, h3⟩ := (h : RSeq _ _ v); RSeq.mk a vs ⟨o, c.1 _ _ ho, h2⟩ (RepL.chg c xs vs f h3)
  | .map kvs, v, f, h => let ⟨a, h⟩ := (h : RRef _ v); RRef.mk a (h.mono (fun o e => c.1 _ _ e) c.1)
  | .inst _ fl, v, f, h => let ⟨x, d, es, ⟨sl, h2⟩, ⟨n, h3⟩, h4⟩ := (h : RInst _ _ _ v); RInst.mk x d es ⟨sl, c.1 _ _ h2⟩ ⟨n, c.1 _ _ h3⟩ (RepF.chg c fl es f h4)
  | .rng _ _ _, v, f, h => let ⟨r, t, u, w, h⟩ := (h : RRng _ _ _ _ v); RRng.mk r t u w (c.1 _ _ h)
  | .own i, v, f, h => let ⟨a, h⟩ := (h : RRef _ v); RRef.mk a (c.own f _ _ h)
  | .cur cc i, v, f, h => let ⟨x, d, ⟨sl, h2⟩, h3⟩ := (h : RCur _ _ _ v); RCur.mk x d ⟨sl, c.1 _ _ h2⟩ (c.own f _ _ h3)
theorem RepL.chg {C : SC} {g g' : Heap} {as as' : List Addr} {z : Bool} (c : Chg C g g' as as' z) : ∀ (xs : List AV) (vs : List Value), (z = true → frozens xs = true) → RepL C g as xs vs → RepL C g' as' xs vs
  | [], _, _, h => h
  | x :: xs, vs, f, h => let ⟨v, r, h2, h3⟩ := (h : RCons _ _ vs); RCons.mk v r (Rep.chg c x v (fun q => and_l (f q)) h2) (RepL.chg c xs r (fun q => and_r (f q)) h3)
theorem RepF.chg {C : SC} {g g' : Heap} {as as' : List Addr} {z : Bool} (c : Chg C g g' as as' z) : ∀ (fl : List (Atr × AV)) (es : List DictEntry), (z = true → frozenf fl = true) → RepF C g as fl es → RepF C g' as' fl es
  | [], _, _, h => h
  | (a, x) :: fl, es, f, h => let ⟨hs, t, v, r, h2, h3⟩ := (h : RConsF _ _ _ es); RConsF.mk hs t v r (Rep.chg c x v (fun q => and_l (f q)) h2) (RepF.chg c fl r (fun q => and_r (f q)) h3)
end
section
variable {C : SC} {g g' : Heap} {as as' : List Addr}
theorem Rep.mono (hg : Sub g g') (hp : Pre as as') (x : AV) (v : Value) (h : Rep C g as x v) : Rep C g' as' x v := Rep.chg (z := false) ⟨hg, .inr hp⟩ x v nofun h
theorem RepL.mono (hg : Sub g g') (hp : Pre as as') (x : List AV) (v : List Value) (h : RepL C g as x v) : RepL C g' as' x v := RepL.chg (z := false) ⟨hg, .inr hp⟩ x v nofun h
theorem RepF.mono (hg : Sub g g') (hp : Pre as as') (x : List (Atr × AV)) (v : List DictEntry) (h : RepF C g as x v) : RepF C g' as' x v := RepF.chg (z := false) ⟨hg, .inr hp⟩ x v nofun h
theorem Rep.noown {x : AV} {v : Value} (f : frozen x = true) (h : Rep C g as x v) : Rep C g as' x v := Rep.chg (z := true) ⟨Sub.refl _, .inl rfl⟩ x v (fun _ => f) h
theorem RepL.noown {x : List AV} {v : List Value} (f : frozens x = true) (h : RepL C g as x v) : RepL C g as' x v := RepL.chg (z := true) ⟨Sub.refl _, .inl rfl⟩ x v (fun _ => f) h
theorem RepF.noown {x : List (Atr × AV)} {v : List DictEntry} (f : frozenf x = true) (h : RepF C g as x v) : RepF C g as' x v := RepF.chg (z := true) ⟨Sub.refl _, .inl rfl⟩ x v (fun _ => f) h
theorem Pre.refl (as : List Addr) : Pre as as := fun _ _ h => h
theorem Pre.nil : Pre [] as := fun _ _ h => nomatch h
theorem RepL.len : ∀ {xs : List AV} {vs : List Value}, RepL C g as xs vs → vs.length = xs.length
  | [], _, h => congrArg List.length (show _ = [] from h)
  | _ :: _, vs, h => let ⟨_, _, _, h3⟩ := (h : RCons _ _ vs); congrArg Nat.succ (RepL.len h3)
end

/-! hidden addresses -/
noncomputable def alive : List Addr → List OObj → List Addr
  | a :: as, o :: σ => cond o.live (a :: alive as σ) (alive as σ)
  | _, _ => []
abbrev vis (h : Heap) (l : List Addr) : Heap := hideAll h l

theorem mem_cond {a b : Addr} {l : List Addr} {c : Bool} (h : a ∈ cond c (b :: l) l) : (c = true ∧ a = b) ∨ a ∈ l := by
  cases c
  · exact .inr h
  · cases h with
    | head => exact .inl ⟨rfl, rfl⟩
    | tail _ h => exact .inr h
theorem cond_mem {a b : Addr} {l : List Addr} {c : Bool} (h : a ∈ l) : a ∈ cond c (b :: l) l := by
  cases c
  · exact h
  · exact .tail _ h
theorem alive_of {a : Addr} {o : OObj} (h3 : o.live = true) : ∀ {as : List Addr} {σ : List OObj} {i : Nat}, as[i]? = some a → σ[i]? = some o → a ∈ alive as σ
  | [], _, _, h1, _ => nomatch h1
  | _ :: _, [], _, _, h2 => nomatch h2
  | _ :: as, p :: σ, 0, h1, h2 => by
    cases h1; cases h2
    show a ∈ cond o.live _ _
    rw [h3]; exact .head _
  | _ :: as, _ :: σ, i + 1, h1, h2 => cond_mem (alive_of h3 (as := as) (i := i) h1 h2)
theorem of_alive {a : Addr} : ∀ {as : List Addr} {σ : List OObj}, a ∈ alive as σ → ∃ (i : Nat) (o : OObj), as[i]? = some a ∧ σ[i]? = some o ∧ o.live = true
  | [], _, h => nomatch h
  | _ :: _, [], h => nomatch h
  | b :: as, p :: σ, h => (mem_cond h).elim (fun q => ⟨0, p, by rw [q.2]; rfl, rfl, q.1⟩) fun q => let ⟨i, o, e⟩ := of_alive q; ⟨i + 1, o, e⟩

/-- the heap that is seen -/
noncomputable def gv (hid : List Addr) (s : Shared) (as : List Addr) (σ : St) : Heap := vis s.heap (hid ++ alive as σ)
theorem vis_get {h : Heap} {l : List Addr} {a : Addr} {o : Obj} (hn : a ∉ l) (e : h.get? a = some o) : (vis h l).get? a = some o := hideAll_get l e hn
theorem vis_of {h : Heap} {l : List Addr} {a : Addr} {o : Obj} (e : (vis h l).get? a = some o) : h.get? a = some o ∧ a ∉ l :=
  ⟨of_hideAll l e, fun hm => by rw [hideAll_none l hm] at e; cases e⟩
theorem vis_sub (h : Heap) (l : List Addr) : Sub (vis h l) h := fun _ _ e => (vis_of e).1
theorem vis_mono {h h' : Heap} {l l' : List Addr} (k : ∀ b o, b ∉ l → h.get? b = some o → h'.get? b = some o ∧ b ∉ l') : Sub (vis h l) (vis h' l') := fun b o e =>
  have q := vis_of e
  vis_get (k b o q.2 q.1).2 (k b o q.2 q.1).1
section
variable {hid hid' as as' : List Addr} {s s' : Shared} {σ σ' : St} {a : Addr} {o : Obj}
theorem gv_get (e : s.heap.get? a = some o) (h1 : a ∉ hid) (h2 : a ∉ alive as σ) : (gv hid s as σ).get? a = some o := vis_get (fun h => (List.mem_append.mp h).elim h1 h2) e
theorem gv_h (e : (gv hid s as σ).get? a = some o) : s.heap.get? a = some o := (vis_of e).1
theorem gv_hid (e : (gv hid s as σ).get? a = some o) : a ∉ hid := fun h => (vis_of e).2 (List.mem_append_left _ h)
theorem gv_al (e : (gv hid s as σ).get? a = some o) : a ∉ alive as σ := fun h => (vis_of e).2 (List.mem_append_right _ h)
theorem gv_mono (k : ∀ b o, b ∉ hid → b ∉ alive as σ → s.heap.get? b = some o → s'.heap.get? b = some o ∧ b ∉ hid' ∧ b ∉ alive as' σ') : Sub (gv hid s as σ) (gv hid' s' as' σ') := fun b o e =>
  have q := k b o (gv_hid e) (gv_al e) (gv_h e)
  gv_get q.1 q.2.1 q.2.2
theorem gv_sub : Sub (gv hid s as σ) s.heap := fun _ _ e => gv_h e
end

noncomputable def ObjRep (C : SC) (g h : Heap) (a : Addr) : OObj → Prop
  | .dead => True
  | .list xs => ∃ vs, h.PlainList a (List.toArray vs) ∧ RepL C g [] xs vs
  | .map kvs => MapRep C h g a kvs
  | .inst _ fl => ∃ es, IsDictL h a es ∧ RepF C g [] fl es

structure OK (C : SC) (hid : List Addr) (s : Shared) (as : List Addr) (σ : List OObj) : Prop where
  base : Sub C.H s.heap
  inh : ∀ a ∈ hid ++ alive as σ, ∃ o, s.heap.get? a = some o
  free : ∀ a ∈ hid ++ alive as σ, C.H.get? a = none
  dj : ∀ a ∈ hid, a ∉ alive as σ
  len : as.length = σ.length
  ap : ∀ (i j : Nat) (a : Addr) (o p : OObj), as[i]? = some a → as[j]? = some a → σ[i]? = some o → σ[j]? = some p → o.live = true → p.live = true → i = j
  own : ∀ (i : Nat) (a : Addr) (o : OObj), as[i]? = some a → σ[i]? = some o → ObjRep C (gv hid s as σ) s.heap a o

/-- what a step may do: fs may be written, and what is owned -/
structure Stp (fs : List Addr) (s : Shared) (as : List Addr) (σ : List OObj) (s' : Shared) (as' : List Addr) (σ' : List OObj) : Prop where
  same : ∃ h t, s' = { s with heap := h, toks := t }
  keep : ∀ b o, b ∉ fs → b ∉ alive as σ → s.heap.get? b = some o → s'.heap.get? b = some o
  grow : ∀ a ∈ alive as' σ', a ∈ alive as σ ∨ s.heap.get? a = none
  pre : Pre as as'

theorem ne_of_get {h : Heap} {a : Addr} {o : Obj} {P : Prop} (h1 : h.get? a = none) (h2 : h.get? a = some o) : P := by rw [h1] at h2; cases h2

section
variable {C : SC} {hid fs fs' as as' as'' : List Addr} {s s' s'' : Shared} {σ σ' σ'' : St}
theorem Stp.refl (fs : List Addr) (s : Shared) (as : List Addr) (σ : List OObj) : Stp fs s as σ s as σ :=
  ⟨⟨_, _, rfl⟩, fun _ _ _ _ e => e, fun _ h => .inl h, Pre.refl _⟩
theorem same_tr (x : ∃ h t, s' = { s with heap := h, toks := t }) (y : ∃ h t, s'' = { s' with heap := h, toks := t }) : ∃ h t, s'' = { s with heap := h, toks := t } :=
  let ⟨_, _, e⟩ := x; let ⟨h, t, e'⟩ := y; ⟨h, t, by rw [e', e]⟩
/-- two steps, one after the other -/
theorem stp_more (x : Stp fs s as σ s' as' σ') (y : Stp fs' s' as' σ' s'' as'' σ'') (hf : ∀ a ∈ fs', a ∈ fs ∨ s.heap.get? a = none) (hd : ∀ a ∈ alive as'' σ'', a ∉ fs) : Stp fs s as σ s'' as'' σ'' := by
  refine ⟨same_tr x.same y.same, fun b o h1 h2 e => ?_, fun a ha => ?_, fun i a e => y.pre i a (x.pre i a e)⟩
  · exact y.keep b o (fun hm => (hf b hm).elim h1 fun q => ne_of_get q e) (fun hm => (x.grow b hm).elim h2 fun q => ne_of_get q e) (x.keep b o h1 h2 e)
  · refine (y.grow a ha).elim (x.grow a) fun q => ?_
    cases hq : s.heap.get? a with
    | none => exact .inr rfl
    | some o => exact (Classical.em (a ∈ alive as σ)).imp id fun hm => ne_of_get q (x.keep a o (hd a ha) hm hq)
theorem Stp.trans (x : Stp fs s as σ s' as' σ') (y : Stp fs s' as' σ' s'' as'' σ'') (hd : ∀ a ∈ alive as'' σ'', a ∉ fs) : Stp fs s as σ s'' as'' σ'' :=
  stp_more x y (fun _ h => .inl h) hd
theorem OK.disj (k : OK C hid s as σ) (hf : ∀ a ∈ fs, a ∈ hid) : ∀ a ∈ alive as σ, a ∉ fs := fun a ha hm => k.dj a (hf a hm) ha
theorem Stp.vis (x : Stp fs s as σ s' as' σ') (hf : ∀ a ∈ fs, a ∈ hid) : Sub (gv hid s as σ) (gv hid s' as' σ') :=
  gv_mono fun b o h1 h2 e => ⟨x.keep b o (fun h => h1 (hf b h)) h2 e, h1, fun hm => (x.grow b hm).elim h2 fun q => ne_of_get q e⟩
theorem ObjRep.mono {C : SC} {g g' h h' : Heap} {a : Addr} (hg : Sub g g') (ha : ∀ o, h.get? a = some o → h'.get? a = some o) : ∀ {o : OObj}, ObjRep C g h a o → ObjRep C g' h' a o
  | .dead, _ => trivial
  | .list xs, ⟨vs, h1, h2⟩ => ⟨vs, h1.at ha, RepL.mono hg Pre.nil _ _ h2⟩
  | .map kvs, m => MapRep.mono m ha hg
  | .inst c fl, ⟨es, ⟨n, h1⟩, h2⟩ => ⟨es, ⟨n, ha _ h1⟩, RepF.mono hg Pre.nil _ _ h2⟩

/-- a quiet step: everything that was stays -/
theorem OK.keeps (k : OK C hid s as σ) (x : Keeps s s') : OK C hid s' as σ :=
  let ⟨h', t, e, hk⟩ := x
  have hk' : Sub s.heap s'.heap := e ▸ hk
  have hg : Sub (gv hid s as σ) (gv hid s' as σ) := gv_mono fun b o h1 h2 e => ⟨hk' b o e, h1, h2⟩
  ⟨k.base.trans hk', fun a ha => let ⟨o, e⟩ := k.inh a ha; ⟨o, hk' _ _ e⟩, k.free, k.dj, k.len, k.ap, fun i a o h1 h2 => (k.own i a o h1 h2).mono hg (fun o e => hk' _ _ e)⟩
theorem Stp.keeps (x : Keeps s s') : Stp fs s as σ s' as σ :=
  let ⟨h', t, e, hk⟩ := x
  ⟨⟨_, _, e⟩, fun b o _ _ q => (show Sub s.heap s'.heap from e ▸ hk) b o q, fun _ h => .inl h, Pre.refl _⟩
end
set_option genCtorIdx true in
inductive BI where
  | len | range | sorted | abs | min | int | str | chr | ord | bytes | list | dict | tuple
noncomputable def BI.nm : BI → Str
  | .len => "len" | .range => "range" | .sorted => "sorted" | .abs => "abs" | .min => "min" | .int => "int" | .str => "str" | .chr => "chr" | .ord => "ord"
  | .bytes => "bytes" | .list => "list" | .dict => "dict" | .tuple => "tuple"
set_option genCtorIdx true in
inductive LM where
  | append | extend | join | encode | split
noncomputable def LM.nm : LM → Str
  | .append => "append" | .extend => "extend" | .join => "join" | .encode => "encode" | .split => "split"

/-- my own small syntax -/
inductive ME where
  | loc (i : Nat)
  | num (i : Int) | str (x : List Nat) | byt (b : List Nat) | boo (b : Bool) | non
  | glb (g : Nat)
  | bin (op : Operator) (a b : ME)
  | neg (i : Int)
  | nt (a : ME)
  | bop (isAnd : Bool) (xs : List ME)
  | cmp (a : ME) (ops : List CmpOp) (bs : List ME)
  | ite (t b o : ME)
  | tup (xs : List ME) | lst (xs : List ME) | newl (xs : List ME) | newd
  | call (f : Nat) (args : List ME)
  | new (c : Cls) (frz : Bool) (args : List ME)
  | bi (b : BI) (args : List ME)
  | isint (a : ME)
  | meth (c : Cls) (f : Nat) (o : ME) (args : List ME)
  | lm (m : LM) (o : ME) (args : List ME)
  | att (o : ME) (a : Atr)
  | sub (o i : ME)
  | slc (o : ME) (l u : Option ME)
  | comp (elt : ME) (n : Nat) (capt : List Nat) (iter : ME) (ifs : List ME)
  | stuck

inductive MS where
  | asg (i : Nat) (e : ME)
  | unp (is : List Nat) (e : ME)
  | seta (o : ME) (a : Atr) (e : ME)
  | seti (o i e : ME)
  | exp (e : ME)
  | ret (e : ME)
  | ifs (t : ME) (b o : List MS)
  | whl (t : ME) (b : List MS)
  | for_ (is : List Nat) (tup : Bool) (iter : ME) (b : List MS)
  | cont
  | trc (b : List MS)
  | stuck

noncomputable def drO : Option OObj → AV
  | some (.list xs) => .list xs
  | some (.map kvs) => .map kvs
  | _ => .undef
noncomputable def dr (σ : St) : AV → AV
  | .own i => drO σ[i]?
  | x => x

/-- data that can be compared item by item, so deep -/
inductive CB : Nat → AV → AV → Prop
  | int {n a b} : CB n (.int a) (.int b)
  | str {n a b} : CB n (.str a) (.str b)
  | list {n xs ys} (h : xs.length = ys.length → ∀ (j : Nat) (x y : AV), xs[j]? = some x → ys[j]? = some y → CB n x y) : CB (n + 1) (.list xs) (.list ys)
  | tup {n xs ys} (h : ∀ (j : Nat) (x y : AV), xs[j]? = some x → ys[j]? = some y → CB n x y) : CB (n + 1) (.tup xs) (.tup ys)
mutual
noncomputable def eqb : AV → AV → Bool
  | .int a, .int b => a == b
  | .str a, .str b => a == b
  | .list xs, .list ys => eqbs xs ys
  | .tup xs, .tup ys => eqbs xs ys
  | _, _ => false
noncomputable def eqbs : List AV → List AV → Bool
  | [], [] => true
  | x :: xs, y :: ys => eqb x y && eqbs xs ys
  | _, _ => false
end

@[irreducible] def szl : Nat := 2 ^ 24
noncomputable def smallI (a : Int) : Bool := decide (a.natAbs < 2 ^ 64)

/-! operators, as relations -/
inductive BinR : Operator → AV → AV → AV → Prop
  | addI {a b} : BinR .Add (.int a) (.int b) (.int (a + b))
  | addS {a b} (h : a.length + b.length ≤ szl) : BinR .Add (.str a) (.str b) (.str (a ++ b))
  | addB {a b} (h : a.length + b.length ≤ szl) : BinR .Add (.bytes a) (.bytes b) (.bytes (a ++ b))
  | addL {a b} (h : a.length + b.length ≤ szl) : BinR .Add (.list a) (.list b) (.list (a ++ b))
  | sub {a b} : BinR .Sub (.int a) (.int b) (.int (a - b))
  | mul {a b} (h : smallI a = true ∨ smallI b = true) : BinR .Mult (.int a) (.int b) (.int (a * b))
  | div {a b} (h : b ≠ 0) (h2 : b.natAbs < 1073741824) : BinR .FloorDiv (.int a) (.int b) (.int (a.fdiv b))
  | mod {a b} (h : b ≠ 0) : BinR .Mod (.int a) (.int b) (.int (a.fmod b))
  | pow {a b} (h : 0 ≤ b) (h2 : b ≤ 1000) (h3 : smallI a = true) : BinR .Pow (.int a) (.int b) (.int (a ^ b.toNat))
  | shl {a b} (h : 0 ≤ b) (h2 : b ≤ 1000) (h3 : smallI a = true) : BinR .LShift (.int a) (.int b) (.int (a * 2 ^ b.toNat))
  | shr {a b} (h : 0 ≤ b) : BinR .RShift (.int a) (.int b) (.int (a.fdiv (2 ^ b.toNat)))
  | and {a b} : BinR .BitAnd (.int a) (.int b) (.int (Builtin.bitAnd a b))

inductive EqR : AV → AV → Bool → Prop
  | byt {x y} : EqR (.bytes x) (.bytes y) (x == y)
  | map {x y : List (List Int × List Nat)} (h1 : x.length ≤ szl) (h2 : y.length ≤ szl) : EqR (.map x) (.map y) (x.length == y.length && x.all fun kv => y.lookup kv.1 == some kv.2)
  | cmp {x y} (h : CB 8 x y) : EqR x y (eqb x y)
inductive CmpR : CmpOp → AV → AV → Bool → Prop
  | eq {x y b} (h : EqR x y b) : CmpR .Eq x y b
  | ne {x y b} (h : EqR x y b) : CmpR .NotEq x y (!b)
  | lt {a b} : CmpR .Lt (.int a) (.int b) (decide (a < b))
  | le {a b} : CmpR .LtE (.int a) (.int b) (decide (a ≤ b))
  | gt {a b} : CmpR .Gt (.int a) (.int b) (decide (b < a))
  | ge {a b} : CmpR .GtE (.int a) (.int b) (decide (b ≤ a))
  | in_ {a : Int} {ys : List Int} : CmpR .In (.int a) (.tup (ys.map .int)) (ys.contains a)
  | nin {a : Int} {ys : List Int} : CmpR .NotIn (.int a) (.tup (ys.map .int)) (!ys.contains a)
  | isN : CmpR .Is .none .none true
  | isI {a} : CmpR .Is (.int a) .none false
inductive TruR : AV → Bool → Prop
  | bool {b} : TruR (.bool b) b
  | list {xs} (h : xs.length ≤ szl) : TruR (.list xs) (!xs.isEmpty)
  | map {xs} (h : xs.length ≤ szl) : TruR (.map xs) (!xs.isEmpty)

noncomputable def toTupK (k : List Int) : AV := .tup (k.map .int)

noncomputable def rngLen (a b c : Int) : Nat := if 0 < c ∧ a < b then ((b - a + c - 1) / c).toNat else 0
noncomputable def smallR (a : Int) : Bool := decide (a.natAbs < 2 ^ 31)
/-- what a loop takes out of a frozen value -/
inductive ItR : AV → List AV → Prop
  | list {xs} : ItR (.list xs) xs
  | tup {xs} : ItR (.tup xs) xs
  | bytes {b : List Nat} : ItR (.bytes b) (b.map fun (c : Nat) => .int c)
  | str {x : List Nat} : ItR (.str x) (x.map fun c => .str [c])
  | rng {a b c : Int} (h1 : smallR a = true) (h2 : smallR b = true) (h3 : 0 < c ∧ c < 2 ^ 31) : ItR (.rng a b c) ((List.range (rngLen a b c)).map fun (i : Nat) => .int (a + i * c))

noncomputable def joinT (sep : List Nat) : List (List Nat) → List Nat
  | [] => []
  | [x] => x
  | x :: y :: r => x ++ sep ++ joinT sep (y :: r)
noncomputable def splitT (c : Nat) : List Nat → List (List Nat)
  | [] => [[]]
  | x :: r => match splitT c r with
    | [] => [[x]]
    | w :: ws => if x = c then [] :: w :: ws else (x :: w) :: ws

noncomputable def keyLt : List Int → List Int → Bool
  | [], [] => false
  | [], _ :: _ => true
  | _ :: _, [] => false
  | a :: r, b :: s => if a == b then keyLt r s else decide (a < b)
noncomputable def insK (k : List Int) : List (List Int) → List (List Int)
  | [] => [k]
  | x :: r => if keyLt k x then k :: x :: r else x :: insK k r
noncomputable def sortK : List (List Int) → List (List Int)
  | [] => []
  | k :: r => insK k (sortK r)

noncomputable def dec (n : Nat) : List Nat := (Nat.toDigits 10 n).map Char.toNat
noncomputable def key2 : List Int → Bool
  | [_, _] => true
  | _ => false
/-- the hashes of the keys are told apart -/
noncomputable def hashesApart (ks : List (List Int)) : Bool := decide ((ks.map fun k => reduceHash (Builtin.Tuple.tupleHashOf (k.map hashInt))).Nodup)

inductive BiR : BI → List AV → AV → Prop
  | lenL {xs} (h : xs.length ≤ szl) : BiR .len [.list xs] (.int xs.length)
  | lenT {xs} (h : xs.length ≤ szl) : BiR .len [.tup xs] (.int xs.length)
  | lenB {xs} (h : xs.length ≤ szl) : BiR .len [.bytes xs] (.int xs.length)
  | lenS {xs} (h : xs.length ≤ szl) : BiR .len [.str xs] (.int xs.length)
  | lenM {xs} (h : xs.length ≤ szl) : BiR .len [.map xs] (.int xs.length)
  | rng1 {a} : BiR .range [.int a] (.rng 0 a 1)
  | rng2 {a b} : BiR .range [.int a, .int b] (.rng a b 1)
  | rng3 {a b c} (h : c ≠ 0) (h2 : c.natAbs < 1073741824) : BiR .range [.int a, .int b, .int c] (.rng a b c)
  | sorted {kvs : List (List Int × List Nat)} (h : kvs.length < 64) (h2 : (kvs.all fun kv => key2 kv.1) = true) : BiR .sorted [.map kvs] (.list ((sortK (kvs.map (·.1))).map toTupK))
  | abs {a} : BiR .abs [.int a] (.int a.natAbs)
  | min {a b} : BiR .min [.int a, .int b] (.int (if b < a then b else a))
  | int {a} : BiR .int [.int a] (.int a)
  | str {a : Nat} (h : a < 1000000) : BiR .str [.int a] (.str (dec a))
  | chr {a : Nat} (h : a < 1114112) : BiR .chr [.int a] (.str [a])
  | ord {c : Nat} : BiR .ord [.str [c]] (.int c)
  | bytes {ns : List Nat} (h : ∀ n ∈ ns, n < 256) (h2 : ns.length ≤ szl) : BiR .bytes [.list (ns.map fun (c : Nat) => .int c)] (.bytes ns)
  | list {xs} (h : xs.length ≤ szl) : BiR .list [.list xs] (.list xs)
  | tuple {xs} (h : xs.length ≤ szl) : BiR .tuple [.list xs] (.tup xs)
  | dict {kvs : List (List Int × List Nat)} (h : kvs.length ≤ 1000) (h2 : hashesApart (kvs.map (·.1)) = true) : BiR .dict [.map kvs] (.map kvs)

inductive LmR : LM → List Nat → List AV → AV → Prop
  | join {sep : List Nat} {ss : List (List Nat)} (h : (ss.map (·.length)).sum + ss.length * sep.length ≤ szl) : LmR .join sep [.list (ss.map .str)] (.str (joinT sep ss))
  | encode {x : List Nat} (h : (x.all fun c => decide (c < 128)) = true) (h2 : x.length ≤ szl) : LmR .encode x [.str [97, 115, 99, 105, 105]] (.bytes x)
  | split {x : List Nat} {c : Nat} (h : x.length < szl) : LmR .split x [.str [c]] (.list ((splitT c x).map .str))

/-- the place that an index names -/
inductive Ix (n : Nat) : Int → Nat → Prop
  | pos {i : Int} {j : Nat} (e : i = j) : Ix n i j
  | neg : Ix n (-1) (n - 1)
inductive SubR : AV → AV → AV → Prop
  | list {xs i j v} (h : xs.length ≤ szl) (hi : Ix xs.length i j) (hv : xs[j]? = some v) : SubR (.list xs) (.int i) v
  | tup {xs i j v} (h : xs.length ≤ szl) (hi : Ix xs.length i j) (hv : xs[j]? = some v) : SubR (.tup xs) (.int i) v
  | bytes {xs i j} {v : Nat} (h : xs.length ≤ szl) (hi : Ix xs.length i j) (hv : xs[j]? = some v) : SubR (.bytes xs) (.int i) (.int v)
  | str {xs i j} {v : Nat} (h : xs.length ≤ szl) (hi : Ix xs.length i j) (hv : xs[j]? = some v) : SubR (.str xs) (.int i) (.str [v])
  | map {kvs : List (List Int × List Nat)} {k : List Int} {x} (h : kvs.lookup k = some x) : SubR (.map kvs) (.tup (k.map .int)) (.str x)

noncomputable def cutL {α : Type} (xs : List α) (l u : Option Int) : List α :=
  (xs.drop (l.elim 0 (clipAt xs.length))).take (u.elim xs.length (clipAt xs.length) - l.elim 0 (clipAt xs.length))
inductive SlcR : AV → Option Int → Option Int → AV → Prop
  | list {xs l u} (h : xs.length ≤ szl) : SlcR (.list xs) l u (.list (cutL xs l u))
  | bytes {xs l u} (h : xs.length ≤ szl) : SlcR (.bytes xs) l u (.bytes (cutL xs l u))

noncomputable def putF (a : Atr) (v : AV) : List (Atr × AV) → List (Atr × AV)
  | [] => [(a, v)]
  | (b, x) :: r => if b = a then (a, v) :: r else (b, x) :: putF a v r
noncomputable def putM (k : List Int) (v : List Nat) : List (List Int × List Nat) → List (List Int × List Nat)
  | [] => [(k, v)]
  | (b, x) :: r => if b = k then (k, v) :: r else (b, x) :: putM k v r

inductive FrzR : St → AV → AV → St → Prop
  | same {σ x} (h : frozen x = true) : FrzR σ x x σ
  | list {σ i xs} (h : σ[i]? = some (.list xs)) : FrzR σ (.own i) (.list xs) (σ.set i .dead)
  | map {σ i xs} (h : σ[i]? = some (.map xs)) : FrzR σ (.own i) (.map xs) (σ.set i .dead)
inductive FrzsR : St → List AV → List AV → St → Prop
  | same {σ xs} (h : frozens xs = true) : FrzsR σ xs xs σ
  | cons {σ x y σ1 xs ys σ2} (h : FrzR σ x y σ1) (h2 : FrzsR σ1 xs ys σ2) : FrzsR σ (x :: xs) (y :: ys) σ2

/-- list.append, list.extend: on what is owned -/
inductive GrowR : St → LM → AV → List AV → St → Prop
  | append {σ i xs x} (h : σ[i]? = some (.list xs)) (hf : frozen x = true) (hl : xs.length < szl) : GrowR σ .append (.own i) [x] (σ.set i (.list (xs ++ [x])))
  | extend {σ i xs ys} (h : σ[i]? = some (.list xs)) (hf : frozens ys = true) (hl : xs.length + ys.length ≤ szl) : GrowR σ .extend (.own i) [.list ys] (σ.set i (.list (xs ++ ys)))
inductive AttR : St → Atr → AV → AV → Prop
  | inst {σ a c fl v} (h : fl.lookup a = some v) : AttR σ a (.inst c fl) v
  | cur {σ a c i fl v} (h : σ[i]? = some (.inst c fl)) (h2 : fl.lookup a = some v) : AttR σ a (.cur c i) v
inductive SetaR : St → Atr → AV → AV → St → Prop
  | mk {σ a c i fl v} (h : σ[i]? = some (.inst c fl)) (hf : frozen v = true) (hl : fl.length ≤ 8) : SetaR σ a v (.cur c i) (σ.set i (.inst c (putF a v fl)))
inductive SetiR : St → AV → AV → AV → St → Prop
  | list {σ i k xs v} (h : σ[i]? = some (.list xs)) (hf : frozen v = true) (h0 : 0 ≤ k) (h1 : k < xs.length) (hl : xs.length ≤ szl) : SetiR σ v (.own i) (.int k) (σ.set i (.list (xs.set k.toNat v)))
  | map {σ i kvs k x} (h : σ[i]? = some (.map kvs)) (hl : kvs.length < szl) : SetiR σ (.str x) (.own i) (.tup (k.map .int)) (σ.set i (.map (putM k x kvs)))

/-- the target of a loop -/
inductive TgtR : Nat → AV → List AV → Prop
  | one {v} : TgtR 1 v [v]
  | tup {n xs} (h : xs.length = n) (h2 : 2 ≤ n) : TgtR n (.tup xs) xs

inductive Out where
  | next | cont
  | ret (v : AV)

/-- a method may be looked up here -/
inductive LmOnR : St → LM → AV → Prop
  | append {σ i xs} (h : σ[i]? = some (.list xs)) : LmOnR σ .append (.own i)
  | extend {σ i xs} (h : σ[i]? = some (.list xs)) : LmOnR σ .extend (.own i)

/-- what a function gives back: kept objects below base only -/
inductive FinR : Bool → Nat → AV → St → AV → St → Prop
  | val {k b v σ} (h : frozen v = true) : FinR k b v σ v (σ.take b)
  | list {b i σ xs} (h : σ[i]? = some (.list xs)) (hb : b ≤ i) : FinR false b (.own i) σ (.list xs) (σ.take b)
  | map {b i σ xs} (h : σ[i]? = some (.map xs)) (hb : b ≤ i) : FinR false b (.own i) σ (.map xs) (σ.take b)
  | keep {b σ xs} (h : σ[b]? = some (.map xs)) : FinR true b (.own b) σ (.own b) (σ.take (b + 1))

structure FnIR where
  name : Str
  params : List Str
  /-- literal defaults of the last parameters -/
  dflt : List Int
  locals : List Str
  body : List MS
  keep : Bool := false
/-- names of what is met -/
structure Nm where
  gl : Nat → Str
  fn : Nat → Option Str
  me : Nat → Option (Cls × Str)
  cl : Cls → Str
  fa : Nat → Addr

/-- CMap.__init__ -/
noncomputable def ir0 : FnIR := { name := ("CMap.__init__" : Str), params := [("self" : Str), ("spaces" : Str), ("chars" : Str)], dflt := [], locals := [], keep := false, body := [.seta (.loc 0) .spaces (.loc 1),
  .seta (.loc 0) .chars (.loc 2)] }

/-- Cursor.__init__ -/
noncomputable def ir1 : FnIR := { name := ("Cursor.__init__" : Str), params := [("self" : Str), ("data" : Str), ("at" : Str), ("end" : Str)], dflt := [(0), (-1)], locals := [], keep := false, body := [.seta (.loc 0) .data (.loc 1),
  .seta (.loc 0) .at_ (.loc 2),
  .seta (.loc 0) .end_ (.ite (.cmp (.loc 3) [.Lt] [.num 0]) (.bi .len [.loc 1]) (.bi .min [.loc 3, .bi .len [.loc 1]]))] }

/-- Cursor.is_done -/
noncomputable def ir2 : FnIR := { name := ("Cursor.is_done" : Str), params := [("self" : Str)], dflt := [], locals := [], keep := false, body := [.ret (.cmp (.att (.loc 0) .at_) [.GtE] [.att (.loc 0) .end_])] }

/-- Cursor.peek -/
noncomputable def ir3 : FnIR := { name := ("Cursor.peek" : Str), params := [("self" : Str), ("ahead" : Str)], dflt := [(0)], locals := [("spot" : Str)], keep := false, body := [.asg 2 (.bin .Add (.att (.loc 0) .at_) (.loc 1)),
  .ret (.ite (.cmp (.loc 2) [.Lt] [.att (.loc 0) .end_]) (.sub (.att (.loc 0) .data) (.loc 2)) (.neg 1))] }

/-- Cursor.take -/
noncomputable def ir4 : FnIR := { name := ("Cursor.take" : Str), params := [("self" : Str)], dflt := [], locals := [("code" : Str)], keep := false, body := [.ifs (.cmp (.att (.loc 0) .at_) [.GtE] [.att (.loc 0) .end_]) [.ret (.neg 1)] [],
  .asg 1 (.sub (.att (.loc 0) .data) (.att (.loc 0) .at_)),
  .seta (.loc 0) .at_ (.bin .Add (.att (.loc 0) .at_) (.num 1)),
  .ret (.loc 1)] }

/-- Cursor.starts -/
noncomputable def ir5 : FnIR := { name := ("Cursor.starts" : Str), params := [("self" : Str), ("word" : Str)], dflt := [], locals := [], keep := false, body := [.ret (.bop true [.cmp (.bin .Add (.att (.loc 0) .at_) (.bi .len [.loc 1])) [.LtE] [.att (.loc 0) .end_], .cmp (.slc (.att (.loc 0) .data) (some (.att (.loc 0) .at_)) (some (.bin .Add (.att (.loc 0) .at_) (.bi .len [.loc 1])))) [.Eq] [.loc 1]])] }

/-- Cursor.skip -/
noncomputable def ir6 : FnIR := { name := ("Cursor.skip" : Str), params := [("self" : Str), ("word" : Str)], dflt := [], locals := [], keep := false, body := [.ifs (.nt (.meth .cursor 5 (.loc 0) [.loc 1])) [.ret (.boo false)] [],
  .seta (.loc 0) .at_ (.bin .Add (.att (.loc 0) .at_) (.bi .len [.loc 1])),
  .ret (.boo true)] }

/-- Cursor.skip_white -/
noncomputable def ir7 : FnIR := { name := ("Cursor.skip_white" : Str), params := [("self" : Str)], dflt := [], locals := [("code" : Str)], keep := false, body := [.whl (.cmp (.att (.loc 0) .at_) [.Lt] [.att (.loc 0) .end_]) [.asg 1 (.sub (.att (.loc 0) .data) (.att (.loc 0) .at_)),
  .ifs (.cmp (.loc 1) [.Eq] [.glb 4]) [.whl (.bop true [.cmp (.att (.loc 0) .at_) [.Lt] [.att (.loc 0) .end_], .cmp (.sub (.att (.loc 0) .data) (.att (.loc 0) .at_)) [.NotIn] [.tup [.glb 2, .glb 3]]]) [.seta (.loc 0) .at_ (.bin .Add (.att (.loc 0) .at_) (.num 1))]] [.ifs (.cmp (.loc 1) [.In] [.glb 0]) [.seta (.loc 0) .at_ (.bin .Add (.att (.loc 0) .at_) (.num 1))] [.ret (.non)]]]] }

/-- Cursor.take_regular -/
noncomputable def ir8 : FnIR := { name := ("Cursor.take_regular" : Str), params := [("self" : Str)], dflt := [], locals := [("first" : Str)], keep := false, body := [.asg 1 (.att (.loc 0) .at_),
  .whl (.bop true [.cmp (.att (.loc 0) .at_) [.Lt] [.att (.loc 0) .end_], .call 11 [.sub (.att (.loc 0) .data) (.att (.loc 0) .at_)]]) [.seta (.loc 0) .at_ (.bin .Add (.att (.loc 0) .at_) (.num 1))],
  .ret (.slc (.att (.loc 0) .data) (some (.loc 1)) (some (.att (.loc 0) .at_)))] }

/-- CMap.told -/
noncomputable def ir9 : FnIR := { name := ("CMap.told" : Str), params := [("self" : Str)], dflt := [], locals := [], keep := false, body := [.ret (.tup [.bi .tuple [.att (.loc 0) .spaces], .bi .tuple [.comp (.tup [.loc 0, .sub (.att (.loc 1) .chars) (.loc 0)]) 1 [0] (.bi .sorted [.att (.loc 0) .chars]) []]])] }

/-- is_white -/
noncomputable def ir10 : FnIR := { name := ("is_white" : Str), params := [("code" : Str)], dflt := [], locals := [], keep := false, body := [.ret (.cmp (.loc 0) [.In] [.glb 0])] }

/-- is_regular -/
noncomputable def ir11 : FnIR := { name := ("is_regular" : Str), params := [("code" : Str)], dflt := [], locals := [], keep := false, body := [.ret (.bop true [.cmp (.loc 0) [.GtE] [.num 0], .cmp (.loc 0) [.NotIn] [.glb 0], .cmp (.loc 0) [.NotIn] [.glb 1]])] }

/-- hex_worth -/
noncomputable def ir12 : FnIR := { name := ("hex_worth" : Str), params := [("code" : Str)], dflt := [], locals := [], keep := false, body := [.ifs (.cmp (.num 48) [.LtE, .LtE] [.loc 0, .num 57]) [.ret (.bin .Sub (.loc 0) (.num 48))] [],
  .ifs (.cmp (.num 65) [.LtE, .LtE] [.loc 0, .num 70]) [.ret (.bin .Sub (.loc 0) (.num 55))] [],
  .ifs (.cmp (.num 97) [.LtE, .LtE] [.loc 0, .num 102]) [.ret (.bin .Sub (.loc 0) (.num 87))] [],
  .ret (.neg 1)] }

/-- name_text -/
noncomputable def ir13 : FnIR := { name := ("name_text" : Str), params := [("octets" : Str), ("at" : Str)], dflt := [(-1)], locals := [("signs" : Str), ("place" : Str), ("code" : Str), ("high" : Str), ("low" : Str)], keep := false, body := [.asg 2 (.newl []),
  .asg 3 (.num 0),
  .whl (.cmp (.loc 3) [.Lt] [.bi .len [.loc 0]]) [.asg 4 (.sub (.loc 0) (.loc 3)),
  .asg 3 (.bin .Add (.loc 3) (.num 1)),
  .ifs (.bop true [.cmp (.loc 4) [.Eq] [.glb 15], .cmp (.bin .Add (.loc 3) (.num 1)) [.Lt] [.bi .len [.loc 0]]]) [.asg 5 (.call 12 [.sub (.loc 0) (.loc 3)]),
  .asg 6 (.call 12 [.sub (.loc 0) (.bin .Add (.loc 3) (.num 1))]),
  .ifs (.bop true [.cmp (.loc 5) [.GtE] [.num 0], .cmp (.loc 6) [.GtE] [.num 0]]) [.asg 4 (.bin .Add (.bin .Mult (.num 16) (.loc 5)) (.loc 6)),
  .asg 3 (.bin .Add (.loc 3) (.num 2))] []] [],
  .ifs (.cmp (.loc 4) [.Eq] [.num 0]) [.stuck] [],
  .exp (.lm .append (.loc 2) [.bi .chr [.loc 4]])],
  .ret (.lm .join (.str []) [.loc 2])] }

/-- hex_string -/
noncomputable def ir14 : FnIR := { name := ("hex_string" : Str), params := [("cursor" : Str)], dflt := [], locals := [("opening" : Str), ("halves" : Str), ("code" : Str), ("worth" : Str)], keep := false, body := [.asg 1 (.bin .Sub (.att (.loc 0) .at_) (.num 1)),
  .asg 2 (.newl []),
  .whl (.nt (.meth .cursor 2 (.loc 0) [])) [.asg 3 (.meth .cursor 4 (.loc 0) []),
  .ifs (.cmp (.loc 3) [.Eq] [.glb 13]) [.ifs (.cmp (.bin .Mod (.bi .len [.loc 2]) (.num 2)) [.Eq] [.num 1]) [.exp (.lm .append (.loc 2) [.num 0])] [],
  .ret (.bi .bytes [.comp (.bin .Add (.bin .Mult (.num 16) (.sub (.loc 1) (.loc 0))) (.sub (.loc 1) (.bin .Add (.loc 0) (.num 1)))) 1 [2] (.bi .range [.num 0, .bi .len [.loc 2], .num 2]) []])] [],
  .asg 4 (.call 12 [.loc 3]),
  .ifs (.cmp (.loc 4) [.GtE] [.num 0]) [.exp (.lm .append (.loc 2) [.loc 4])] [.ifs (.nt (.call 10 [.loc 3])) [.stuck] []]],
  .stuck] }

/-- read_decimal -/
noncomputable def ir15 : FnIR := { name := ("read_decimal" : Str), params := [("octets" : Str)], dflt := [], locals := [("begun" : Str), ("top" : Str), ("numerals" : Str), ("places" : Str), ("code" : Str)], keep := false, body := [.asg 1 (.num 0),
  .ifs (.bop true [.cmp (.bi .len [.loc 0]) [.Gt] [.num 0], .bop false [.cmp (.sub (.loc 0) (.num 0)) [.Eq] [.glb 5], .cmp (.sub (.loc 0) (.num 0)) [.Eq] [.glb 6]]]) [.asg 1 (.num 1)] [],
  .asg 2 (.num 0),
  .asg 3 (.num 0),
  .asg 4 (.neg 1),
  .for_ [5] false (.slc (.loc 0) (some (.loc 1)) none) [.ifs (.bop true [.cmp (.loc 5) [.Eq] [.glb 7], .cmp (.loc 4) [.Lt] [.num 0]]) [.asg 4 (.num 0)] [.ifs (.cmp (.glb 8) [.LtE, .LtE] [.loc 5, .bin .Add (.glb 8) (.num 9)]) [.asg 2 (.bin .Sub (.bin .Add (.bin .Mult (.num 10) (.loc 2)) (.loc 5)) (.glb 8)),
  .asg 3 (.bin .Add (.loc 3) (.num 1)),
  .ifs (.cmp (.loc 4) [.GtE] [.num 0]) [.asg 4 (.bin .Add (.loc 4) (.num 1))] []] [.ret (.non)]]],
  .ifs (.bop false [.cmp (.loc 3) [.Eq] [.num 0], .cmp (.loc 3) [.Gt] [.glb 9]]) [.ret (.non)] [],
  .ifs (.cmp (.sub (.loc 0) (.num 0)) [.Eq] [.glb 6]) [.asg 2 (.stuck)] [],
  .ret (.ite (.cmp (.loc 4) [.Lt] [.num 0]) (.loc 2) (.stuck))] }

/-- run_token -/
noncomputable def ir16 : FnIR := { name := ("run_token" : Str), params := [("cursor" : Str), ("at" : Str)], dflt := [], locals := [("run" : Str), ("number" : Str)], keep := false, body := [.asg 2 (.meth .cursor 8 (.loc 0) []),
  .asg 3 (.call 15 [.loc 2]),
  .ifs (.cmp (.loc 3) [.Is] [.non]) [.ret (.tup [.str [119, 111, 114, 100], .loc 2, .loc 1])] [],
  .ifs (.isint (.loc 3)) [.ret (.tup [.str [105, 110, 116], .loc 3, .loc 1])] [],
  .ret (.tup [.str [114, 101, 97, 108], .loc 3, .loc 1])] }

/-- delimited_token -/
noncomputable def ir17 : FnIR := { name := ("delimited_token" : Str), params := [("cursor" : Str), ("code" : Str), ("at" : Str)], dflt := [], locals := [], keep := false, body := [.ifs (.cmp (.loc 1) [.Eq] [.glb 14]) [.exp (.meth .cursor 4 (.loc 0) []),
  .ret (.tup [.str [110, 97, 109, 101], .call 13 [.meth .cursor 8 (.loc 0) [], .loc 2], .loc 2])] [],
  .ifs (.cmp (.loc 1) [.Eq] [.glb 10]) [.exp (.meth .cursor 4 (.loc 0) []),
  .ret (.tup [.str [115, 116, 114, 105, 110, 103], .stuck, .loc 2])] [],
  .ifs (.meth .cursor 6 (.loc 0) [.byt [60, 60]]) [.ret (.tup [.str [115, 105, 103, 110], .byt [60, 60], .loc 2])] [],
  .ifs (.meth .cursor 6 (.loc 0) [.byt [62, 62]]) [.ret (.tup [.str [115, 105, 103, 110], .byt [62, 62], .loc 2])] [],
  .ifs (.cmp (.loc 1) [.Eq] [.glb 12]) [.exp (.meth .cursor 4 (.loc 0) []),
  .ret (.tup [.str [104, 101, 120], .call 14 [.loc 0], .loc 2])] [],
  .ifs (.cmp (.loc 1) [.In] [.glb 16]) [.exp (.meth .cursor 4 (.loc 0) []),
  .ret (.tup [.str [115, 105, 103, 110], .bi .bytes [.lst [.loc 1]], .loc 2])] [],
  .stuck] }

/-- next_token -/
noncomputable def ir18 : FnIR := { name := ("next_token" : Str), params := [("cursor" : Str)], dflt := [], locals := [("at" : Str), ("code" : Str)], keep := false, body := [.exp (.meth .cursor 7 (.loc 0) []),
  .asg 1 (.att (.loc 0) .at_),
  .asg 2 (.meth .cursor 3 (.loc 0) []),
  .ifs (.cmp (.loc 2) [.Eq] [.neg 1]) [.ret (.tup [.str [101, 110, 100], .byt [], .loc 1])] [],
  .ifs (.bop false [.cmp (.loc 2) [.Eq] [.glb 14], .cmp (.loc 2) [.Eq] [.glb 10], .cmp (.loc 2) [.Eq] [.glb 11], .cmp (.loc 2) [.Eq] [.glb 12], .cmp (.loc 2) [.Eq] [.glb 13], .cmp (.loc 2) [.In] [.glb 16]]) [.ret (.call 17 [.loc 0, .loc 2, .loc 1])] [],
  .ret (.call 16 [.loc 0, .loc 1])] }

/-- utf16_units -/
noncomputable def ir19 : FnIR := { name := ("utf16_units" : Str), params := [("octets" : Str)], dflt := [], locals := [], keep := false, body := [.ifs (.cmp (.bin .Mod (.bi .len [.loc 0]) (.num 2)) [.Eq] [.num 1]) [.stuck] [],
  .ret (.comp (.bin .Add (.bin .Mult (.num 256) (.sub (.loc 1) (.loc 0))) (.sub (.loc 1) (.bin .Add (.loc 0) (.num 1)))) 1 [0] (.bi .range [.num 0, .bi .len [.loc 0], .num 2]) [])] }

/-- utf16 -/
noncomputable def ir20 : FnIR := { name := ("utf16" : Str), params := [("octets" : Str)], dflt := [], locals := [("units" : Str), ("signs" : Str), ("place" : Str), ("unit" : Str)], keep := false, body := [.asg 1 (.call 19 [.loc 0]),
  .asg 2 (.newl []),
  .asg 3 (.num 0),
  .whl (.cmp (.loc 3) [.Lt] [.bi .len [.loc 1]]) [.asg 4 (.sub (.loc 1) (.loc 3)),
  .asg 3 (.bin .Add (.loc 3) (.num 1)),
  .ifs (.cmp (.glb 20) [.LtE, .LtE] [.loc 4, .glb 22]) [.ifs (.bop false [.cmp (.loc 4) [.GtE] [.glb 21], .cmp (.loc 3) [.Eq] [.bi .len [.loc 1]], .nt (.cmp (.glb 21) [.LtE, .LtE] [.sub (.loc 1) (.loc 3), .glb 22])]) [.stuck] [],
  .asg 4 (.bin .Sub (.bin .Add (.bin .Add (.num 65536) (.bin .LShift (.bin .Sub (.loc 4) (.glb 20)) (.num 10))) (.sub (.loc 1) (.loc 3))) (.glb 21)),
  .asg 3 (.bin .Add (.loc 3) (.num 1))] [],
  .exp (.lm .append (.loc 2) [.bi .chr [.loc 4]])],
  .ret (.lm .join (.str []) [.loc 2])] }

/-- utf16_octets -/
noncomputable def ir21 : FnIR := { name := ("utf16_octets" : Str), params := [("text" : Str)], dflt := [], locals := [("codes" : Str), ("sign" : Str), ("unit" : Str), ("high" : Str)], keep := false, body := [.asg 1 (.newl []),
  .for_ [2] false (.loc 0) [.asg 3 (.bi .ord [.loc 2]),
  .ifs (.cmp (.glb 20) [.LtE, .LtE] [.loc 3, .glb 22]) [.stuck] [],
  .ifs (.cmp (.loc 3) [.GtE] [.num 65536]) [.asg 4 (.bin .Add (.glb 20) (.bin .RShift (.bin .Sub (.loc 3) (.num 65536)) (.num 10))),
  .exp (.lm .extend (.loc 1) [.lst [.bin .RShift (.loc 4) (.num 8), .bin .BitAnd (.loc 4) (.num 255)]]),
  .asg 3 (.bin .Add (.glb 21) (.bin .BitAnd (.bin .Sub (.loc 3) (.num 65536)) (.num 1023)))] [],
  .exp (.lm .extend (.loc 1) [.lst [.bin .RShift (.loc 3) (.num 8), .bin .BitAnd (.loc 3) (.num 255)]])],
  .ret (.bi .bytes [.loc 1])] }

/-- code_of -/
noncomputable def ir22 : FnIR := { name := ("code_of" : Str), params := [("octets" : Str)], dflt := [], locals := [("code" : Str), ("octet" : Str)], keep := false, body := [.asg 1 (.num 0),
  .for_ [2] false (.loc 0) [.asg 1 (.bin .Add (.bin .Mult (.num 256) (.loc 1)) (.loc 2))],
  .ret (.loc 1)] }

/-- code_octets -/
noncomputable def ir23 : FnIR := { name := ("code_octets" : Str), params := [("length" : Str), ("code" : Str)], dflt := [], locals := [], keep := false, body := [.ret (.bi .bytes [.comp (.bin .BitAnd (.bin .RShift (.loc 1) (.bin .Mult (.num 8) (.bin .Sub (.bin .Sub (.loc 2) (.num 1)) (.loc 0)))) (.num 255)) 1 [1, 0] (.bi .range [.loc 0]) []])] }

/-- string_in -/
noncomputable def ir24 : FnIR := { name := ("string_in" : Str), params := [("token" : Str)], dflt := [], locals := [], keep := false, body := [.ifs (.bop true [.cmp (.sub (.loc 0) (.num 0)) [.NotEq] [.str [104, 101, 120]], .cmp (.sub (.loc 0) (.num 0)) [.NotEq] [.str [115, 116, 114, 105, 110, 103]]]) [.stuck] [],
  .ret (.sub (.loc 0) (.num 1))] }

/-- code_in -/
noncomputable def ir25 : FnIR := { name := ("code_in" : Str), params := [("token" : Str)], dflt := [], locals := [("octets" : Str)], keep := false, body := [.asg 1 (.call 24 [.loc 0]),
  .ifs (.bop false [.cmp (.bi .len [.loc 1]) [.Eq] [.num 0], .cmp (.bi .len [.loc 1]) [.Gt] [.glb 18]]) [.stuck] [],
  .ret (.loc 1)] }

/-- text_in -/
noncomputable def ir26 : FnIR := { name := ("text_in" : Str), params := [("token" : Str)], dflt := [], locals := [("octets" : Str)], keep := false, body := [.asg 1 (.call 24 [.loc 0]),
  .trc [.ret (.call 20 [.loc 1])]] }

/-- is_part_end -/
noncomputable def ir27 : FnIR := { name := ("is_part_end" : Str), params := [("token" : Str), ("word" : Str)], dflt := [], locals := [], keep := false, body := [.ifs (.cmp (.sub (.loc 0) (.num 0)) [.Eq] [.str [101, 110, 100]]) [.stuck] [],
  .ret (.bop true [.cmp (.sub (.loc 0) (.num 0)) [.Eq] [.str [119, 111, 114, 100]], .cmp (.sub (.loc 0) (.num 1)) [.Eq] [.loc 1]])] }

/-- read_spaces -/
noncomputable def ir28 : FnIR := { name := ("read_spaces" : Str), params := [("cursor" : Str), ("spaces" : Str)], dflt := [], locals := [("token" : Str), ("low" : Str), ("high" : Str)], keep := false, body := [.asg 2 (.call 18 [.loc 0]),
  .whl (.nt (.call 27 [.loc 2, .byt [101, 110, 100, 99, 111, 100, 101, 115, 112, 97, 99, 101, 114, 97, 110, 103, 101]])) [.asg 3 (.call 25 [.loc 2]),
  .asg 4 (.call 25 [.call 18 [.loc 0]]),
  .ifs (.bop false [.cmp (.bi .len [.loc 3]) [.NotEq] [.bi .len [.loc 4]], .comp (.loc 0) 1 [3, 4] (.bi .range [.bi .len [.loc 3]]) [.cmp (.sub (.loc 1) (.loc 0)) [.Gt] [.sub (.loc 2) (.loc 0)]]]) [.stuck] [],
  .exp (.lm .append (.loc 1) [.tup [.bi .len [.loc 3], .call 22 [.loc 3], .call 22 [.loc 4]]]),
  .asg 2 (.call 18 [.loc 0])]] }

/-- read_chars -/
noncomputable def ir29 : FnIR := { name := ("read_chars" : Str), params := [("cursor" : Str), ("chars" : Str)], dflt := [], locals := [("token" : Str), ("code" : Str)], keep := false, body := [.asg 2 (.call 18 [.loc 0]),
  .whl (.nt (.call 27 [.loc 2, .byt [101, 110, 100, 98, 102, 99, 104, 97, 114]])) [.asg 3 (.call 25 [.loc 2]),
  .seti (.loc 1) (.tup [.bi .len [.loc 3], .call 22 [.loc 3]]) (.call 26 [.call 18 [.loc 0]]),
  .asg 2 (.call 18 [.loc 0])]] }

/-- texts_that_run -/
noncomputable def ir30 : FnIR := { name := ("texts_that_run" : Str), params := [("token" : Str), ("many" : Str)], dflt := [], locals := [("octets" : Str)], keep := false, body := [.asg 2 (.call 24 [.loc 0]),
  .ifs (.bop true [.cmp (.loc 1) [.Gt] [.num 1], .bop false [.cmp (.loc 2) [.Eq] [.byt []], .cmp (.bin .Sub (.bin .Add (.sub (.loc 2) (.neg 1)) (.loc 1)) (.num 1)) [.Gt] [.num 255]]]) [.stuck] [],
  .ifs (.cmp (.loc 2) [.Eq] [.byt []]) [.ret (.lst [.str []])] [],
  .ret (.comp (.call 26 [.tup [.str [104, 101, 120], .bin .Add (.slc (.loc 2) none (some (.neg 1))) (.bi .bytes [.lst [.bin .Add (.sub (.loc 2) (.neg 1)) (.loc 0)]]), .sub (.loc 1) (.num 2)]]) 1 [0, 2] (.bi .range [.loc 1]) [])] }

/-- read_ranges -/
noncomputable def ir31 : FnIR := { name := ("read_ranges" : Str), params := [("cursor" : Str), ("chars" : Str)], dflt := [], locals := [("token" : Str), ("low" : Str), ("high" : Str), ("many" : Str), ("target" : Str), ("texts" : Str), ("step" : Str)], keep := false, body := [.asg 2 (.call 18 [.loc 0]),
  .whl (.nt (.call 27 [.loc 2, .byt [101, 110, 100, 98, 102, 114, 97, 110, 103, 101]])) [.asg 3 (.call 25 [.loc 2]),
  .asg 4 (.call 25 [.call 18 [.loc 0]]),
  .ifs (.bop false [.cmp (.bi .len [.loc 3]) [.NotEq] [.bi .len [.loc 4]], .cmp (.slc (.loc 3) none (some (.neg 1))) [.NotEq] [.slc (.loc 4) none (some (.neg 1))], .cmp (.sub (.loc 3) (.neg 1)) [.Gt] [.sub (.loc 4) (.neg 1)]]) [.stuck] [],
  .asg 5 (.bin .Add (.bin .Sub (.sub (.loc 4) (.neg 1)) (.sub (.loc 3) (.neg 1))) (.num 1)),
  .asg 6 (.call 18 [.loc 0]),
  .ifs (.bop true [.cmp (.sub (.loc 6) (.num 0)) [.Eq] [.str [115, 105, 103, 110]], .cmp (.sub (.loc 6) (.num 1)) [.Eq] [.byt [91]]]) [.asg 7 (.stuck),
  .ifs (.cmp (.bi .len [.loc 7]) [.NotEq] [.loc 5]) [.stuck] []] [.asg 7 (.call 30 [.loc 6, .loc 5])],
  .for_ [8] false (.bi .range [.loc 5]) [.seti (.loc 1) (.tup [.bi .len [.loc 3], .bin .Add (.call 22 [.loc 3]) (.loc 8)]) (.sub (.loc 7) (.loc 8))],
  .asg 2 (.call 18 [.loc 0])]] }

/-- read_cmap -/
noncomputable def ir32 : FnIR := { name := ("read_cmap" : Str), params := [("data" : Str)], dflt := [], locals := [("cursor" : Str), ("spaces" : Str), ("chars" : Str), ("token" : Str)], keep := false, body := [.asg 1 (.new .cursor false [.loc 0]),
  .asg 2 (.newl []),
  .asg 3 (.newd),
  .asg 4 (.call 18 [.loc 1]),
  .whl (.cmp (.sub (.loc 4) (.num 0)) [.NotEq] [.str [101, 110, 100]]) [.ifs (.bop true [.cmp (.sub (.loc 4) (.num 0)) [.Eq] [.str [119, 111, 114, 100]], .cmp (.sub (.loc 4) (.num 1)) [.Eq] [.byt [98, 101, 103, 105, 110, 99, 111, 100, 101, 115, 112, 97, 99, 101, 114, 97, 110, 103, 101]]]) [.exp (.call 28 [.loc 1, .loc 2])] [.ifs (.bop true [.cmp (.sub (.loc 4) (.num 0)) [.Eq] [.str [119, 111, 114, 100]], .cmp (.sub (.loc 4) (.num 1)) [.Eq] [.byt [98, 101, 103, 105, 110, 98, 102, 99, 104, 97, 114]]]) [.exp (.call 29 [.loc 1, .loc 3])] [.ifs (.bop true [.cmp (.sub (.loc 4) (.num 0)) [.Eq] [.str [119, 111, 114, 100]], .cmp (.sub (.loc 4) (.num 1)) [.Eq] [.byt [98, 101, 103, 105, 110, 98, 102, 114, 97, 110, 103, 101]]]) [.exp (.call 31 [.loc 1, .loc 3])] []]],
  .asg 4 (.call 18 [.loc 1])],
  .ret (.new .cmap true [.loc 2, .loc 3])] }

/-- hex_text -/
noncomputable def ir33 : FnIR := { name := ("hex_text" : Str), params := [("octets" : Str)], dflt := [], locals := [("signs" : Str), ("octet" : Str)], keep := false, body := [.asg 1 (.newl []),
  .for_ [2] false (.loc 0) [.exp (.lm .append (.loc 1) [.bin .Add (.sub (.glb 19) (.bin .RShift (.loc 2) (.num 4))) (.sub (.glb 19) (.bin .BitAnd (.loc 2) (.num 15)))])],
  .ret (.bin .Add (.bin .Add (.str [60]) (.lm .join (.str []) [.loc 1])) (.str [62]))] }

/-- runs_on -/
noncomputable def ir34 : FnIR := { name := ("runs_on" : Str), params := [("first_key" : Str), ("first_target" : Str), ("key" : Str), ("target" : Str), ("step" : Str)], dflt := [], locals := [], keep := false, body := [.ifs (.bop false [.cmp (.loc 2) [.NotEq] [.tup [.sub (.loc 0) (.num 0), .bin .Add (.sub (.loc 0) (.num 1)) (.loc 4)]], .cmp (.bin .RShift (.sub (.loc 2) (.num 1)) (.num 8)) [.NotEq] [.bin .RShift (.sub (.loc 0) (.num 1)) (.num 8)], .cmp (.loc 3) [.Eq] [.byt []]]) [.ret (.boo false)] [],
  .ret (.bop true [.cmp (.slc (.loc 3) none (some (.neg 1))) [.Eq] [.slc (.loc 1) none (some (.neg 1))], .cmp (.sub (.loc 3) (.neg 1)) [.Eq] [.bin .Add (.sub (.loc 1) (.neg 1)) (.loc 4)]])] }

/-- runs_of -/
noncomputable def ir35 : FnIR := { name := ("runs_of" : Str), params := [("keys" : Str), ("targets" : Str)], dflt := [], locals := [("runs" : Str), ("first" : Str), ("end" : Str)], keep := false, body := [.asg 2 (.newl []),
  .asg 3 (.num 0),
  .whl (.cmp (.loc 3) [.Lt] [.bi .len [.loc 0]]) [.asg 4 (.bin .Add (.loc 3) (.num 1)),
  .whl (.bop true [.cmp (.loc 4) [.Lt] [.bi .len [.loc 0]], .call 34 [.sub (.loc 0) (.loc 3), .sub (.loc 1) (.loc 3), .sub (.loc 0) (.loc 4), .sub (.loc 1) (.loc 4), .bin .Sub (.loc 4) (.loc 3)]]) [.asg 4 (.bin .Add (.loc 4) (.num 1))],
  .exp (.lm .append (.loc 2) [.tup [.loc 3, .loc 4]]),
  .asg 3 (.loc 4)],
  .ret (.loc 2)] }

/-- part_lines -/
noncomputable def ir36 : FnIR := { name := ("part_lines" : Str), params := [("rows" : Str), ("word" : Str)], dflt := [], locals := [("lines" : Str), ("first" : Str), ("part" : Str)], keep := false, body := [.asg 2 (.newl []),
  .for_ [3] false (.bi .range [.num 0, .bi .len [.loc 0], .glb 17]) [.asg 4 (.slc (.loc 0) (some (.loc 3)) (some (.bin .Add (.loc 3) (.glb 17)))),
  .exp (.lm .append (.loc 2) [.bin .Add (.bin .Add (.bi .str [.bi .len [.loc 4]]) (.str [32, 98, 101, 103, 105, 110])) (.loc 1)]),
  .exp (.lm .extend (.loc 2) [.loc 4]),
  .exp (.lm .append (.loc 2) [.bin .Add (.str [101, 110, 100]) (.loc 1)])],
  .ret (.loc 2)] }

/-- write_cmap -/
noncomputable def ir37 : FnIR := { name := ("write_cmap" : Str), params := [("cmap" : Str)], dflt := [], locals := [("spaces" : Str), ("length" : Str), ("low" : Str), ("high" : Str), ("keys" : Str), ("targets" : Str), ("singles" : Str), ("ranges" : Str), ("first" : Str), ("end" : Str), ("row" : Str), ("last" : Str), ("lines" : Str)], keep := false, body := [.asg 1 (.newl []),
  .for_ [2, 3, 4] true (.att (.loc 0) .spaces) [.exp (.lm .append (.loc 1) [.bin .Add (.bin .Add (.call 33 [.call 23 [.loc 2, .loc 3]]) (.str [32])) (.call 33 [.call 23 [.loc 2, .loc 4]])])],
  .asg 5 (.bi .sorted [.att (.loc 0) .chars]),
  .asg 6 (.comp (.call 21 [.sub (.att (.loc 1) .chars) (.loc 0)]) 1 [0] (.loc 5) []),
  .asg 7 (.newl []),
  .asg 8 (.newl []),
  .for_ [9, 10] true (.call 35 [.loc 5, .loc 6]) [.asg 11 (.bin .Add (.call 33 [.call 23 [.sub (.sub (.loc 5) (.loc 9)) (.num 0), .sub (.sub (.loc 5) (.loc 9)) (.num 1)]]) (.str [32])),
  .ifs (.cmp (.loc 10) [.Eq] [.bin .Add (.loc 9) (.num 1)]) [.exp (.lm .append (.loc 7) [.bin .Add (.loc 11) (.call 33 [.sub (.loc 6) (.loc 9)])])] [.asg 12 (.call 23 [.sub (.sub (.loc 5) (.bin .Sub (.loc 10) (.num 1))) (.num 0), .sub (.sub (.loc 5) (.bin .Sub (.loc 10) (.num 1))) (.num 1)]),
  .exp (.lm .append (.loc 8) [.bin .Add (.bin .Add (.bin .Add (.loc 11) (.call 33 [.loc 12])) (.str [32])) (.call 33 [.sub (.loc 6) (.loc 9)])])]],
  .asg 13 (.newl [.str [47, 67, 73, 68, 73, 110, 105, 116, 32, 47, 80, 114, 111, 99, 83, 101, 116, 32, 102, 105, 110, 100, 114, 101, 115, 111, 117, 114, 99, 101, 32, 98, 101, 103, 105, 110], .str [49, 50, 32, 100, 105, 99, 116, 32, 98, 101, 103, 105, 110], .str [98, 101, 103, 105, 110, 99, 109, 97, 112]]),
  .exp (.lm .extend (.loc 13) [.lst [.str [47, 67, 77, 97, 112, 78, 97, 109, 101, 32, 47, 65, 100, 111, 98, 101, 45, 73, 100, 101, 110, 116, 105, 116, 121, 45, 85, 67, 83, 32, 100, 101, 102], .str [47, 67, 77, 97, 112, 84, 121, 112, 101, 32, 50, 32, 100, 101, 102]]]),
  .exp (.lm .extend (.loc 13) [.call 36 [.loc 1, .str [99, 111, 100, 101, 115, 112, 97, 99, 101, 114, 97, 110, 103, 101]]]),
  .exp (.lm .extend (.loc 13) [.call 36 [.loc 7, .str [98, 102, 99, 104, 97, 114]]]),
  .exp (.lm .extend (.loc 13) [.call 36 [.loc 8, .str [98, 102, 114, 97, 110, 103, 101]]]),
  .exp (.lm .extend (.loc 13) [.lst [.str [101, 110, 100, 99, 109, 97, 112], .str [67, 77, 97, 112, 78, 97, 109, 101, 32, 99, 117, 114, 114, 101, 110, 116, 100, 105, 99, 116, 32, 47, 67, 77, 97, 112, 32, 100, 101, 102, 105, 110, 101, 114, 101, 115, 111, 117, 114, 99, 101, 32, 112, 111, 112], .str [101, 110, 100], .str [101, 110, 100]]]),
  .ret (.lm .encode (.bin .Add (.lm .join (.str [10]) [.loc 13]) (.str [10])) [.str [97, 115, 99, 105, 105]])] }

/-- _law_bases -/
noncomputable def ir38 : FnIR := { name := ("_law_bases" : Str), params := [], dflt := [], locals := [], keep := false, body := [.ret (.lst [.num 65, .num 254, .num 8364, .num 255, .num 128512, .num 66558, .num 55295, .num 65535, .num 1114096, .num 1, .num 57599])] }

/-- _law_draw -/
noncomputable def ir39 : FnIR := { name := ("_law_draw" : Str), params := [("pen" : Str), ("many" : Str)], dflt := [], locals := [("digit" : Str), ("place" : Str), ("cell" : Str), ("great" : Str), ("blend" : Str)], keep := false, body := [.ifs (.cmp (.sub (.loc 0) (.num 2)) [.Gt] [.num 0]) [.asg 2 (.bin .Mod (.sub (.loc 0) (.num 2)) (.loc 1)),
  .seti (.loc 0) (.num 2) (.bin .FloorDiv (.sub (.loc 0) (.num 2)) (.loc 1)),
  .ret (.loc 2)] [],
  .asg 3 (.sub (.loc 0) (.num 1)),
  .seti (.loc 0) (.num 1) (.bin .Add (.loc 3) (.num 1)),
  .asg 4 (.ite (.sub (.loc 0) (.num 0)) (.sub (.sub (.loc 0) (.num 0)) (.bin .Mod (.loc 3) (.bi .len [.sub (.loc 0) (.num 0)]))) (.num 0)),
  .ifs (.bop true [.cmp (.loc 3) [.Lt] [.bi .len [.sub (.loc 0) (.num 0)]], .cmp (.bi .abs [.loc 4]) [.GtE] [.bin .Pow (.num 10) (.num 18)]]) [.asg 5 (.bin .Sub (.bi .abs [.loc 4]) (.bin .Pow (.num 10) (.num 18))),
  .seti (.loc 0) (.num 2) (.bin .FloorDiv (.loc 5) (.loc 1)),
  .ret (.bin .Mod (.loc 5) (.loc 1))] [],
  .asg 6 (.bin .Mod (.bin .Pow (.bin .Add (.bin .Add (.bin .Mod (.loc 4) (.num 2147483629)) (.bin .Mult (.num 40503) (.loc 3))) (.num 977)) (.num 3)) (.num 2147483587)),
  .asg 6 (.bin .Mod (.bin .Pow (.bin .Add (.bin .Add (.bin .Mult (.loc 6) (.bin .Add (.bin .Mult (.num 2) (.loc 3)) (.num 5003))) (.bin .Mult (.loc 3) (.loc 3))) (.num 11)) (.num 3)) (.num 2147483579)),
  .ret (.bin .Mod (.bin .FloorDiv (.loc 6) (.num 64)) (.loc 1))] }

/-- _law_sign -/
noncomputable def ir40 : FnIR := { name := ("_law_sign" : Str), params := [("code" : Str)], dflt := [], locals := [], keep := false, body := [.ifs (.cmp (.num 55296) [.LtE, .LtE] [.loc 0, .num 57343]) [.asg 0 (.bin .Add (.loc 0) (.num 2048))] [],
  .ret (.bi .chr [.loc 0])] }

/-- _law_spaces -/
noncomputable def ir41 : FnIR := { name := ("_law_spaces" : Str), params := [("pen" : Str)], dflt := [], locals := [("spaces" : Str), ("turn" : Str), ("length" : Str), ("low" : Str), ("high" : Str), ("place" : Str), ("one" : Str)], keep := false, body := [.asg 1 (.newl []),
  .for_ [2] false (.bi .range [.call 39 [.loc 0, .num 5]]) [.asg 3 (.bin .Add (.num 1) (.call 39 [.loc 0, .num 4])),
  .asg 4 (.num 0),
  .asg 5 (.num 0),
  .for_ [6] false (.bi .range [.loc 3]) [.asg 7 (.sub (.lst [.num 0, .num 0, .num 128, .num 255, .num 65, .num 32]) (.call 39 [.loc 0, .num 6])),
  .asg 4 (.bin .Add (.bin .Mult (.num 256) (.loc 4)) (.loc 7)),
  .asg 5 (.bin .Add (.bin .Mult (.num 256) (.loc 5)) (.sub (.lst [.loc 7, .num 255, .bi .min [.num 255, .bin .Add (.loc 7) (.num 3)]]) (.call 39 [.loc 0, .num 3])))],
  .exp (.lm .append (.loc 1) [.tup [.loc 3, .loc 4, .loc 5]])],
  .ret (.loc 1)] }

/-- _law_chars -/
noncomputable def ir42 : FnIR := { name := ("_law_chars" : Str), params := [("pen" : Str)], dflt := [], locals := [("chars" : Str), ("turn" : Str), ("length" : Str), ("code" : Str), ("base" : Str), ("way" : Str), ("step" : Str), ("rise" : Str), ("text" : Str)], keep := true, body := [.asg 1 (.newd),
  .for_ [2] false (.bi .range [.call 39 [.loc 0, .num 8]]) [.asg 3 (.bin .Add (.num 1) (.call 39 [.loc 0, .num 4])),
  .asg 4 (.bin .Mod (.bin .Add (.sub (.lst [.num 0, .num 250, .num 65, .num 253]) (.call 39 [.loc 0, .num 4])) (.bin .Mult (.num 256) (.sub (.lst [.num 0, .num 255, .num 1]) (.call 39 [.loc 0, .num 3])))) (.bin .Pow (.num 256) (.loc 3))),
  .asg 5 (.sub (.call 38 []) (.call 39 [.loc 0, .bi .len [.call 38 []]])),
  .asg 6 (.call 39 [.loc 0, .num 6]),
  .for_ [7] false (.bi .range [.bin .Add (.num 1) (.call 39 [.loc 0, .num 6])]) [.asg 8 (.sub (.lst [.loc 7, .loc 7, .num 0, .bin .Mult (.loc 7) (.num 2), .loc 7]) (.bin .Mod (.loc 6) (.num 5))),
  .asg 9 (.call 40 [.bin .Add (.loc 5) (.loc 8)]),
  .ifs (.cmp (.loc 6) [.Eq] [.num 4]) [.asg 9 (.bin .Add (.str [120]) (.loc 9))] [],
  .ifs (.bop true [.cmp (.loc 6) [.Eq] [.num 5], .cmp (.bin .Mod (.loc 7) (.num 2)) [.Eq] [.num 1]]) [.asg 9 (.str [])] [],
  .ifs (.cmp (.bin .Add (.loc 4) (.loc 7)) [.Lt] [.bin .Pow (.num 256) (.loc 3)]) [.seti (.loc 1) (.tup [.loc 3, .bin .Add (.loc 4) (.loc 7)]) (.loc 9)] []]],
  .ret (.loc 1)] }

/-- _law_hex -/
noncomputable def ir43 : FnIR := { name := ("_law_hex" : Str), params := [("codes" : Str)], dflt := [], locals := [], keep := false, body := [.ret (.bin .Add (.bin .Add (.str [60]) (.lm .join (.str []) [.comp (.bin .Add (.sub (.str [48, 49, 50, 51, 52, 53, 54, 55, 56, 57, 65, 66, 67, 68, 69, 70]) (.bin .FloorDiv (.loc 0) (.num 16))) (.sub (.str [48, 49, 50, 51, 52, 53, 54, 55, 56, 57, 65, 66, 67, 68, 69, 70]) (.bin .Mod (.loc 0) (.num 16)))) 1 [] (.loc 0) []])) (.str [62]))] }

/-- _law_target -/
noncomputable def ir44 : FnIR := { name := ("_law_target" : Str), params := [("text" : Str)], dflt := [], locals := [("codes" : Str), ("sign" : Str), ("code" : Str), ("units" : Str), ("unit" : Str)], keep := false, body := [.asg 1 (.newl []),
  .for_ [2] false (.loc 0) [.asg 3 (.bi .ord [.loc 2]),
  .asg 4 (.lst [.loc 3]),
  .ifs (.cmp (.loc 3) [.Gt] [.num 65535]) [.asg 4 (.lst [.bin .Add (.num 55232) (.bin .FloorDiv (.loc 3) (.num 1024)), .bin .Add (.num 56320) (.bin .Mod (.loc 3) (.num 1024))])] [],
  .for_ [5] false (.loc 4) [.exp (.lm .append (.loc 1) [.bin .FloorDiv (.loc 5) (.num 256)]),
  .exp (.lm .append (.loc 1) [.bin .Mod (.loc 5) (.num 256)])]],
  .ret (.loc 1)] }

/-- _law_key -/
noncomputable def ir45 : FnIR := { name := ("_law_key" : Str), params := [("key" : Str)], dflt := [], locals := [], keep := false, body := [.ret (.comp (.bin .Mod (.bin .FloorDiv (.sub (.loc 1) (.num 1)) (.bin .Pow (.num 256) (.bin .Sub (.bin .Sub (.sub (.loc 1) (.num 0)) (.num 1)) (.loc 0)))) (.num 256)) 1 [0] (.bi .range [.sub (.loc 0) (.num 0)]) [])] }

/-- _law_rows -/
noncomputable def ir46 : FnIR := { name := ("_law_rows" : Str), params := [("chars" : Str)], dflt := [], locals := [("rows" : Str), ("singles" : Str), ("spans" : Str), ("at" : Str), ("code" : Str), ("target" : Str), ("many" : Str)], keep := false, body := [.asg 1 (.comp (.tup [.call 45 [.loc 0], .call 44 [.sub (.loc 1) (.loc 0)]]) 1 [0] (.bi .sorted [.loc 0]) []),
  .asg 2 (.newl []),
  .asg 3 (.newl []),
  .asg 4 (.num 0),
  .whl (.cmp (.loc 4) [.Lt] [.bi .len [.loc 1]]) [.unp [5, 6] (.sub (.loc 1) (.loc 4)),
  .asg 7 (.num 1),
  .whl (.bop true [.cmp (.bin .Add (.loc 4) (.loc 7)) [.Lt] [.bi .len [.loc 1]], .loc 6, .cmp (.sub (.loc 1) (.bin .Add (.loc 4) (.loc 7))) [.Eq] [.tup [.bin .Add (.slc (.loc 5) none (some (.neg 1))) (.lst [.bin .Add (.sub (.loc 5) (.neg 1)) (.loc 7)]), .bin .Add (.slc (.loc 6) none (some (.neg 1))) (.lst [.bin .Add (.sub (.loc 6) (.neg 1)) (.loc 7)])]]]) [.asg 7 (.bin .Add (.loc 7) (.num 1))],
  .ifs (.cmp (.loc 7) [.Eq] [.num 1]) [.exp (.lm .append (.loc 2) [.bin .Add (.bin .Add (.call 43 [.loc 5]) (.str [32])) (.call 43 [.loc 6])])] [.exp (.lm .append (.loc 3) [.bin .Add (.bin .Add (.bin .Add (.bin .Add (.call 43 [.loc 5]) (.str [32])) (.call 43 [.bin .Add (.slc (.loc 5) none (some (.neg 1))) (.lst [.bin .Sub (.bin .Add (.sub (.loc 5) (.neg 1)) (.loc 7)) (.num 1)])])) (.str [32])) (.call 43 [.loc 6])])],
  .asg 4 (.bin .Add (.loc 4) (.loc 7))],
  .ret (.tup [.loc 2, .loc 3])] }

/-- _law_parts -/
noncomputable def ir47 : FnIR := { name := ("_law_parts" : Str), params := [("rows" : Str), ("word" : Str)], dflt := [], locals := [("lines" : Str)], keep := false, body := [.asg 2 (.newl []),
  .whl (.loc 0) [.exp (.lm .extend (.loc 2) [.bin .Add (.bin .Add (.lst [.bin .Add (.bin .Add (.bi .str [.bi .min [.num 100, .bi .len [.loc 0]]]) (.str [32, 98, 101, 103, 105, 110])) (.loc 1)]) (.slc (.loc 0) none (some (.num 100)))) (.lst [.bin .Add (.str [101, 110, 100]) (.loc 1)])]),
  .asg 0 (.slc (.loc 0) (some (.num 100)) none)],
  .ret (.loc 2)] }

/-- law -/
noncomputable def ir48 : FnIR := { name := ("law" : Str), params := [("script" : Str)], dflt := [], locals := [("pen" : Str), ("spaces" : Str), ("chars" : Str), ("long" : Str), ("data" : Str), ("heard" : Str), ("singles" : Str), ("spans" : Str), ("ranges_of_codes" : Str), ("due" : Str), ("lines" : Str), ("key" : Str), ("twice" : Str)], keep := false, body := [.asg 1 (.newl [.comp (.bi .int [.loc 0]) 1 [] (.slc (.loc 0) none (some (.num 40))) [], .num 0, .num 0]),
  .asg 2 (.call 41 [.loc 1]),
  .asg 3 (.call 42 [.loc 1]),
  .asg 4 (.comp (.bi .str [.loc 0]) 1 [] (.bi .range [.bin .Mult (.call 39 [.loc 1, .num 8]) (.num 43)]) []),
  .ifs (.cmp (.call 36 [.loc 4, .str [98, 102, 99, 104, 97, 114]]) [.NotEq] [.call 47 [.loc 4, .str [98, 102, 99, 104, 97, 114]]]) [.ret (.boo false)] [],
  .asg 5 (.call 37 [.new .cmap true [.bi .list [.loc 2], .bi .dict [.loc 3]]]),
  .asg 6 (.call 32 [.loc 5]),
  .ifs (.bop false [.cmp (.att (.loc 6) .spaces) [.NotEq] [.loc 2], .cmp (.att (.loc 6) .chars) [.NotEq] [.loc 3]]) [.ret (.boo false)] [],
  .ifs (.cmp (.meth .cmap 9 (.loc 6) []) [.NotEq] [.tup [.bi .tuple [.loc 2], .bi .tuple [.comp (.tup [.loc 0, .sub (.loc 1) (.loc 0)]) 1 [3] (.bi .sorted [.loc 3]) []]]]) [.ret (.boo false)] [],
  .unp [7, 8] (.call 46 [.loc 3]),
  .asg 9 (.comp (.bin .Add (.bin .Add (.call 43 [.call 45 [.tup [.loc 0, .loc 1]]]) (.str [32])) (.call 43 [.call 45 [.tup [.loc 0, .loc 2]]])) 3 [] (.loc 2) []),
  .asg 10 (.bin .Add (.bin .Add (.call 47 [.loc 9, .str [99, 111, 100, 101, 115, 112, 97, 99, 101, 114, 97, 110, 103, 101]]) (.call 47 [.loc 7, .str [98, 102, 99, 104, 97, 114]])) (.call 47 [.loc 8, .str [98, 102, 114, 97, 110, 103, 101]])),
  .asg 11 (.lm .split (.lm .join (.str []) [.comp (.bi .chr [.loc 0]) 1 [] (.loc 5) []]) [.str [10]]),
  .ifs (.bop false [.cmp (.slc (.loc 11) (some (.num 5)) (some (.bin .Add (.num 5) (.bi .len [.loc 10])))) [.NotEq] [.loc 10], .cmp (.sub (.loc 11) (.bin .Add (.num 5) (.bi .len [.loc 10]))) [.NotEq] [.str [101, 110, 100, 99, 109, 97, 112]]]) [.ret (.boo false)] [],
  .ifs (.loc 3) [.asg 12 (.sub (.bi .sorted [.loc 3]) (.call 39 [.loc 1, .bi .len [.loc 3]])),
  .asg 13 (.bin .Add (.loc 5) (.bi .bytes [.comp (.bi .ord [.loc 0]) 1 [] (.bin .Add (.bin .Add (.str [49, 32, 98, 101, 103, 105, 110, 98, 102, 99, 104, 97, 114, 32]) (.call 43 [.call 45 [.loc 12]])) (.str [60, 48, 48, 55, 65, 62, 101, 110, 100, 98, 102, 99, 104, 97, 114])) []])),
  .seti (.loc 3) (.loc 12) (.str [122]),
  .ret (.cmp (.att (.call 32 [.loc 13]) .chars) [.Eq] [.loc 3])] [],
  .ret (.boo true)] }

noncomputable def irs : List FnIR := [ir0, ir1, ir2, ir3, ir4, ir5, ir6, ir7, ir8, ir9, ir10, ir11, ir12, ir13, ir14, ir15, ir16, ir17, ir18, ir19, ir20, ir21, ir22, ir23, ir24, ir25, ir26, ir27, ir28, ir29, ir30, ir31, ir32, ir33, ir34, ir35, ir36, ir37, ir38, ir39, ir40, ir41, ir42, ir43, ir44, ir45, ir46, ir47, ir48]
noncomputable def prog : Nat → Option FnIR := fun k => irs[k]?
noncomputable def glN : List Str := [("WHITE" : Str), ("DELIMITERS" : Str), ("LINE_FEED" : Str), ("RETURN" : Str), ("COMMENT" : Str), ("PLUS" : Str), ("MINUS" : Str), ("POINT" : Str), ("ZERO" : Str), ("MOST_FIGURES_decimals" : Str), ("PAREN" : Str), ("CLOSE_PAREN" : Str), ("LESS" : Str), ("GREATER" : Str), ("SLASH" : Str), ("HASH" : Str), ("SIGNS" : Str), ("MOST_ROWS" : Str), ("MOST_LENGTH" : Str), ("HEX_SIGNS" : Str), ("HIGH_FIRST" : Str), ("LOW_FIRST" : Str), ("LOW_LAST" : Str)]
noncomputable def glV : List AV := [.tup [.int 0, .int 9, .int 10, .int 12, .int 13, .int 32], .tup [.int 40, .int 41, .int 60, .int 62, .int 91, .int 93, .int 123, .int 125, .int 47, .int 37], .int 10, .int 13, .int 37, .int 43, .int 45, .int 46, .int 48, .int 40, .int 40, .int 41, .int 60, .int 62, .int 47, .int 35, .tup [.int 91, .int 93, .int 123, .int 125], .int 100, .int 4, .str [48, 49, 50, 51, 52, 53, 54, 55, 56, 57, 65, 66, 67, 68, 69, 70], .int 55296, .int 56320, .int 57343]
noncomputable def glG : Nat → AV := fun g => glV.getD g (.int 10)
noncomputable def fnN : List (Option Str) := [none, none, none, none, none, none, none, none, none, none, some ("is_white" : Str), some ("is_regular" : Str), some ("hex_worth" : Str), some ("name_text" : Str), some ("hex_string" : Str), some ("read_decimal" : Str), some ("run_token" : Str), some ("delimited_token" : Str), some ("next_token" : Str), some ("utf16_units" : Str), some ("utf16" : Str), some ("utf16_octets" : Str), some ("code_of" : Str), some ("code_octets" : Str), some ("string_in" : Str), some ("code_in" : Str), some ("text_in" : Str), some ("is_part_end" : Str), some ("read_spaces" : Str), some ("read_chars" : Str), some ("texts_that_run" : Str), some ("read_ranges" : Str), some ("read_cmap" : Str), some ("hex_text" : Str), some ("runs_on" : Str), some ("runs_of" : Str), some ("part_lines" : Str), some ("write_cmap" : Str), some ("_law_bases" : Str), some ("_law_draw" : Str), some ("_law_sign" : Str), some ("_law_spaces" : Str), some ("_law_chars" : Str), some ("_law_hex" : Str), some ("_law_target" : Str), some ("_law_key" : Str), some ("_law_rows" : Str), some ("_law_parts" : Str), some ("law" : Str)]
noncomputable def meN : List (Option (Cls × Str)) := [none, none, some (.cursor, ("is_done" : Str)), some (.cursor, ("peek" : Str)), some (.cursor, ("take" : Str)), some (.cursor, ("starts" : Str)), some (.cursor, ("skip" : Str)), some (.cursor, ("skip_white" : Str)), some (.cursor, ("take_regular" : Str)), some (.cmap, ("told" : Str)), none, none, none, none, none, none, none, none, none, none, none, none, none, none, none, none, none, none, none, none, none, none, none, none, none, none, none, none, none, none, none, none, none, none, none, none, none, none, none]
noncomputable def faN : List Addr := [399, 111, 118, 126, 133, 140, 147, 154, 161, 404, 82, 89, 323, 338, 364, 315, 371, 378, 385, 416, 423, 430, 437, 442, 449, 456, 463, 470, 475, 482, 494, 501, 508, 515, 522, 529, 536, 541, 548, 555, 562, 569, 576, 581, 588, 593, 598, 605, 610]
noncomputable def nms : Nm where
  gl := fun g => glN.getD g ("LINE_FEED" : Str)
  fn := fun k => (fnN[k]?).join
  me := fun k => (meN[k]?).join
  cl := fun c => match c with | .cmap => "CMap" | .cursor => "Cursor"
  fa := fun k => faN.getD k 0
/-- what is told of a run -/
inductive J where
  | e (ρ : List AV) (e : ME) (σ : St) (v : AV) (σ' : St)
  | es (ρ : List AV) (e : List ME) (σ : St) (v : List AV) (σ' : St)
  | o (ρ : List AV) (e : Option ME) (σ : St) (v : Option Int) (σ' : St)
  | t (ρ : List AV) (e : ME) (σ : St) (b : Bool) (σ' : St)
  | tb (k : Bool) (ρ : List AV) (e : List ME) (σ : St) (b : Bool) (σ' : St)
  | bs (k : Bool) (ρ : List AV) (e : List ME) (σ : St) (v : AV) (σ' : St)
  | c (ρ : List AV) (x : AV) (ops : List CmpOp) (e : List ME) (σ : St) (b : Bool) (σ' : St)
  | ts (ρ : List AV) (e : List ME) (σ : St) (b : Bool) (σ' : St)
  | cl (elt : ME) (ifs : List ME) (n : Nat) (cap xs : List AV) (σ : St) (vs : List AV) (σ' : St)
  | s (e : MS) (ρ : List AV) (σ : St) (o : Out) (ρ' : List AV) (σ' : St)
  | ss (e : List MS) (ρ : List AV) (σ : St) (o : Out) (ρ' : List AV) (σ' : St)
  | wh (t : ME) (b : List MS) (ρ : List AV) (σ : St) (o : Out) (ρ' : List AV) (σ' : St)
  | fo (is : List Nat) (b : List MS) (xs ρ : List AV) (σ : St) (o : Out) (ρ' : List AV) (σ' : St)
  | f (f : Nat) (vs : List AV) (σ : St) (v : AV) (σ' : St)

noncomputable def isDef : AV → Bool
  | .undef => false
  | _ => true
noncomputable def rd (ρ : List AV) (i : Nat) : Option AV := (ρ[i]?).bind fun x => cond (isDef x) (some x) none
noncomputable def isGen : ME → Bool
  | .nt _ => false | .bop _ _ => false | .cmp _ _ _ => false | .ite _ _ _ => false | .stuck => false | _ => true
noncomputable def isComp : ME → Bool
  | .comp _ _ _ _ _ => true
  | _ => false
noncomputable def isNon : ME → Bool
  | .non => true
  | _ => false
noncomputable def Out.isNext : Out → Bool
  | .next => true
  | _ => false
noncomputable def Out.isRet : Out → Bool
  | .ret _ => true
  | _ => false
noncomputable def outV : Out → AV
  | .ret v => v
  | _ => .none
noncomputable def initOf : Cls → Nat
  | .cmap => 0 | .cursor => 1
noncomputable def setAll (ρ : List AV) : List Nat → List AV → List AV
  | i :: is, v :: vs => setAll (ρ.set i v) is vs
  | _, _ => ρ
noncomputable def bindA (ir : FnIR) (vs : List AV) : List AV := vs ++ ((ir.dflt.drop (vs.length + ir.dflt.length - ir.params.length)).map .int ++ ir.locals.map fun _ => .undef)

inductive D : Nat → J → Prop
  | loc {n ρ i σ v} (h : rd ρ i = some v) : D n (.e ρ (.loc i) σ v σ)
  | num {n ρ i σ} : D n (.e ρ (.num i) σ (.int i) σ)
  | str {n ρ i σ} : D n (.e ρ (.str i) σ (.str i) σ)
  | byt {n ρ i σ} : D n (.e ρ (.byt i) σ (.bytes i) σ)
  | boo {n ρ i σ} : D n (.e ρ (.boo i) σ (.bool i) σ)
  | non {n ρ σ} : D n (.e ρ .non σ .none σ)
  | glb {n ρ g σ v} (h : glG g = v) : D n (.e ρ (.glb g) σ v σ)
  | neg {n ρ i σ} : D n (.e ρ (.neg i) σ (.int (-i)) σ)
  | bin {n ρ op a b σ x σ1 y σ2 v} (h1 : D n (.e ρ a σ x σ1)) (h2 : D n (.e ρ b σ1 y σ2)) (h : BinR op (dr σ2 x) (dr σ2 y) v) : D n (.e ρ (.bin op a b) σ v σ2)
  | bop {n ρ k xs σ v σ1} (h : D n (.bs k ρ xs σ v σ1)) : D n (.e ρ (.bop k xs) σ v σ1)
  | cmp {n ρ a ops bs σ x σ1 b σ2} (h1 : D n (.e ρ a σ x σ1)) (h2 : D n (.c ρ x ops bs σ1 b σ2)) : D n (.e ρ (.cmp a ops bs) σ (.bool b) σ2)
  | ite {n ρ t a b σ c σ1 v σ2} (h1 : D n (.t ρ t σ c σ1)) (h2 : D n (.e ρ (cond c a b) σ1 v σ2)) : D n (.e ρ (.ite t a b) σ v σ2)
  | tup {n ρ xs σ vs σ1 ws σ2} (h1 : D n (.es ρ xs σ vs σ1)) (h2 : FrzsR σ1 vs ws σ2) (h3 : ws.length ≤ szl) : D n (.e ρ (.tup xs) σ (.tup ws) σ2)
  | lst {n ρ xs σ vs σ1} (h1 : D n (.es ρ xs σ vs σ1)) (h3 : vs.length ≤ szl) : D n (.e ρ (.lst xs) σ (.list vs) σ1)
  | newl {n ρ xs σ vs σ1} (h1 : D n (.es ρ xs σ vs σ1)) (h2 : frozens vs = true) (h3 : vs.length ≤ szl) : D n (.e ρ (.newl xs) σ (.own σ1.length) (σ1 ++ [.list vs]))
  | newd {n ρ σ} : D n (.e ρ .newd σ (.own σ.length) (σ ++ [.map []]))
  | call {n ρ f xs σ vs σ1 v σ2} (h1 : D n (.es ρ xs σ vs σ1)) (h2 : D n (.f f vs σ1 v σ2)) : D n (.e ρ (.call f xs) σ v σ2)
  | newK {n ρ c xs σ vs σ1 ws σ2 σ3} (h1 : D n (.es ρ xs σ vs σ1)) (h2 : FrzsR σ1 vs ws σ2) (h3 : D n (.f (initOf c) (.cur c σ2.length :: ws) (σ2 ++ [.inst c []]) .none σ3)) : D n (.e ρ (.new c false xs) σ (.cur c σ2.length) σ3)
  | newZ {n ρ c xs σ vs σ1 ws σ2 σ3 fl τ} (h1 : D n (.es ρ xs σ vs σ1)) (h2 : FrzsR σ1 vs ws σ2) (h3 : D n (.f (initOf c) (.cur c σ2.length :: ws) (σ2 ++ [.inst c []]) .none σ3)) (h4 : σ3 = τ ++ [.inst c fl]) (h5 : τ.length = σ2.length) : D n (.e ρ (.new c true xs) σ (.inst c fl) τ)
  | bi {n ρ b xs σ vs σ1 v} (h1 : D n (.es ρ xs σ vs σ1)) (h2 : BiR b (vs.map (dr σ1)) v) : D n (.e ρ (.bi b xs) σ v σ1)
  | isint {n ρ a σ i σ1} (h1 : D n (.e ρ a σ (.int i) σ1)) : D n (.e ρ (.isint a) σ (.bool true) σ1)
  | methC {n ρ c f o xs σ i σ1 fl vs σ2 v σ3} (h1 : D n (.e ρ o σ (.cur c i) σ1)) (h : σ1[i]? = some (.inst c fl)) (h2 : D n (.es ρ xs σ1 vs σ2)) (h3 : D n (.f f (.cur c i :: vs) σ2 v σ3)) : D n (.e ρ (.meth c f o xs) σ v σ3)
  | methI {n ρ c f o xs σ σ1 fl vs σ2 v σ3} (h1 : D n (.e ρ o σ (.inst c fl) σ1)) (h2 : D n (.es ρ xs σ1 vs σ2)) (h3 : D n (.f f (.inst c fl :: vs) σ2 v σ3)) : D n (.e ρ (.meth c f o xs) σ v σ3)
  | lmA {n ρ o xs σ x σ1 vs σ2 σ3} (h1 : D n (.e ρ o σ x σ1)) (h : LmOnR σ1 .append x) (h2 : D n (.es ρ xs σ1 vs σ2)) (h3 : GrowR σ2 .append x vs σ3) : D n (.e ρ (.lm .append o xs) σ .none σ3)
  | lmE {n ρ o xs σ x σ1 vs σ2 σ3} (h1 : D n (.e ρ o σ x σ1)) (h : LmOnR σ1 .extend x) (h2 : D n (.es ρ xs σ1 vs σ2)) (h3 : GrowR σ2 .extend x (vs.map (dr σ2)) σ3) : D n (.e ρ (.lm .extend o xs) σ .none σ3)
  | lmS {n ρ m o xs σ x σ1 vs σ2 v} (h1 : D n (.e ρ o σ (.str x) σ1)) (h2 : D n (.es ρ xs σ1 vs σ2)) (h3 : LmR m x (vs.map (dr σ2)) v) : D n (.e ρ (.lm m o xs) σ v σ2)
  | att {n ρ o a σ x σ1 v} (h1 : D n (.e ρ o σ x σ1)) (h : AttR σ1 a x v) : D n (.e ρ (.att o a) σ v σ1)
  | sub {n ρ a b σ x σ1 y σ2 v} (h1 : D n (.e ρ a σ x σ1)) (h2 : D n (.e ρ b σ1 y σ2)) (h : SubR (dr σ2 x) y v) : D n (.e ρ (.sub a b) σ v σ2)
  | slc {n ρ a l u σ x σ1 l' σ2 u' σ3 v} (h1 : D n (.e ρ a σ x σ1)) (h2 : D n (.o ρ l σ1 l' σ2)) (h3 : D n (.o ρ u σ2 u' σ3)) (h : SlcR (dr σ3 x) l' u' v) : D n (.e ρ (.slc a l u) σ v σ3)
  | comp {n ρ elt nn cap it ifs σ x σ1 xs vs σ2} (h1 : D n (.e ρ it σ x σ1)) (h2 : ItR x xs) (h3 : xs.length ≤ szl) (h4 : D n (.cl elt ifs nn (cap.map fun i => ρ.getD i .undef) xs σ1 vs σ2)) : D n (.e ρ (.comp elt nn cap it ifs) σ (.list vs) σ2)
  | nil {n ρ σ} : D n (.es ρ [] σ [] σ)
  | cons {n ρ e es σ v σ1 vs σ2} (h1 : D n (.e ρ e σ v σ1)) (h2 : D n (.es ρ es σ1 vs σ2)) : D n (.es ρ (e :: es) σ (v :: vs) σ2)
  | onil {n ρ σ} : D n (.o ρ none σ none σ)
  | osome {n ρ e σ i σ'} (h : D n (.e ρ e σ (.int i) σ')) : D n (.o ρ (some e) σ (some i) σ')
  | tgen {n ρ e σ x σ1 b} (hg : isGen e = true) (h1 : D n (.e ρ e σ x σ1)) (h : TruR (dr σ1 x) b) : D n (.t ρ e σ b σ1)
  | tnt {n ρ a σ b σ1} (h1 : D n (.t ρ a σ b σ1)) : D n (.t ρ (.nt a) σ (!b) σ1)
  | tcmp {n ρ a ops bs σ x σ1 b σ2} (h1 : D n (.e ρ a σ x σ1)) (h2 : D n (.c ρ x ops bs σ1 b σ2)) : D n (.t ρ (.cmp a ops bs) σ b σ2)
  | tbop {n ρ k xs σ b σ1} (h : D n (.tb k ρ xs σ b σ1)) : D n (.t ρ (.bop k xs) σ b σ1)
  | tbnil {n ρ k σ} : D n (.tb k ρ [] σ k σ)
  | tbgo {n ρ k e es σ σ1 b σ2} (h1 : D n (.t ρ e σ k σ1)) (h2 : D n (.tb k ρ es σ1 b σ2)) : D n (.tb k ρ (e :: es) σ b σ2)
  | tbstop {n ρ k e es σ σ1} (h1 : D n (.t ρ e σ (!k) σ1)) : D n (.tb k ρ (e :: es) σ (!k) σ1)
  | bsone {n ρ k e σ v σ1} (h1 : D n (.e ρ e σ v σ1)) : D n (.bs k ρ [e] σ v σ1)
  | bsgo {n ρ k e e' es σ x σ1 v σ2} (h1 : D n (.e ρ e σ x σ1)) (h : TruR (dr σ1 x) k) (h2 : D n (.bs k ρ (e' :: es) σ1 v σ2)) : D n (.bs k ρ (e :: e' :: es) σ v σ2)
  | bsstop {n ρ k e e' es σ x σ1} (h1 : D n (.e ρ e σ x σ1)) (h : TruR (dr σ1 x) (!k)) : D n (.bs k ρ (e :: e' :: es) σ x σ1)
  | cone {n ρ x op e σ y σ1 b} (h1 : D n (.e ρ e σ y σ1)) (h : CmpR op (dr σ1 x) (dr σ1 y) b) : D n (.c ρ x [op] [e] σ b σ1)
  | cgo {n ρ x op op' ops e e' es σ y σ1 b σ2} (h1 : D n (.e ρ e σ y σ1)) (h : CmpR op (dr σ1 x) (dr σ1 y) true) (h2 : D n (.c ρ y (op' :: ops) (e' :: es) σ1 b σ2)) : D n (.c ρ x (op :: op' :: ops) (e :: e' :: es) σ b σ2)
  | cstop {n ρ x op op' ops e e' es σ y σ1} (h1 : D n (.e ρ e σ y σ1)) (h : CmpR op (dr σ1 x) (dr σ1 y) false) : D n (.c ρ x (op :: op' :: ops) (e :: e' :: es) σ false σ1)
  | tsnil {n ρ σ} : D n (.ts ρ [] σ true σ)
  | tsgo {n ρ e es σ σ1 b σ2} (h1 : D n (.t ρ e σ true σ1)) (h2 : D n (.ts ρ es σ1 b σ2)) : D n (.ts ρ (e :: es) σ b σ2)
  | tsstop {n ρ e es σ σ1} (h1 : D n (.t ρ e σ false σ1)) : D n (.ts ρ (e :: es) σ false σ1)
  | clnil {n elt ifs nn cap σ} : D n (.cl elt ifs nn cap [] σ [] σ)
  | clyes {n elt ifs nn cap x xs tv σ σ1 v σ2 vs σ3} (h0 : TgtR nn x tv) (h1 : D n (.ts (tv ++ cap) ifs σ true σ1)) (h2 : D n (.e (tv ++ cap) elt σ1 v σ2)) (h3 : D n (.cl elt ifs nn cap xs σ2 vs σ3)) : D n (.cl elt ifs nn cap (x :: xs) σ (v :: vs) σ3)
  | clno {n elt ifs nn cap x xs tv σ σ1 vs σ3} (h0 : TgtR nn x tv) (h1 : D n (.ts (tv ++ cap) ifs σ false σ1)) (h3 : D n (.cl elt ifs nn cap xs σ1 vs σ3)) : D n (.cl elt ifs nn cap (x :: xs) σ vs σ3)
  | asg {n i e ρ σ v σ1} (hc : isComp e = false) (h : D n (.e ρ e σ v σ1)) : D n (.s (.asg i e) ρ σ .next (ρ.set i v) σ1)
  | asgc {n i ρ elt nn cap it ifs σ x σ1 xs vs σ2} (h1 : D n (.e ρ it σ x σ1)) (h2 : ItR x xs) (h3 : xs.length ≤ szl) (h4 : D n (.cl elt ifs nn (cap.map fun i => ρ.getD i .undef) xs σ1 vs σ2)) : D n (.s (.asg i (.comp elt nn cap it ifs)) ρ σ .next (ρ.set i (.list vs)) σ2)
  | unp {n is e ρ σ vs σ1} (h : D n (.e ρ e σ (.tup vs) σ1)) (hl : vs.length = is.length) : D n (.s (.unp is e) ρ σ .next (setAll ρ is vs) σ1)
  | seta {n o a e ρ σ v σ1 x σ2 σ3} (h1 : D n (.e ρ e σ v σ1)) (h2 : D n (.e ρ o σ1 x σ2)) (h3 : SetaR σ2 a v x σ3) : D n (.s (.seta o a e) ρ σ .next ρ σ3)
  | seti {n o i e ρ σ v σ1 x σ2 y σ3 σ4} (h1 : D n (.e ρ e σ v σ1)) (h2 : D n (.e ρ o σ1 x σ2)) (h3 : D n (.e ρ i σ2 y σ3)) (h4 : SetiR σ3 v x y σ4) : D n (.s (.seti o i e) ρ σ .next ρ σ4)
  | exp {n e ρ σ v σ1} (h : D n (.e ρ e σ v σ1)) : D n (.s (.exp e) ρ σ .next ρ σ1)
  | ret {n e ρ σ v σ1} (hn : isNon e = false) (h : D n (.e ρ e σ v σ1)) : D n (.s (.ret e) ρ σ (.ret v) ρ σ1)
  | retN {n ρ σ} : D n (.s (.ret .non) ρ σ (.ret .none) ρ σ)
  | ifs {n t a b ρ σ c σ1 o ρ' σ'} (h1 : D n (.t ρ t σ c σ1)) (h2 : D n (.ss (cond c a b) ρ σ1 o ρ' σ')) : D n (.s (.ifs t a b) ρ σ o ρ' σ')
  | whl {n t b ρ σ o ρ' σ'} (h : D n (.wh t b ρ σ o ρ' σ')) : D n (.s (.whl t b) ρ σ o ρ' σ')
  | for_ {n is tup it b ρ σ x σ1 xs o ρ' σ'} (h1 : D n (.e ρ it σ x σ1)) (h2 : ItR x xs) (h3 : xs.length ≤ szl) (h4 : D n (.fo is b xs ρ σ1 o ρ' σ')) : D n (.s (.for_ is tup it b) ρ σ o ρ' σ')
  | cont {n ρ σ} : D n (.s .cont ρ σ .cont ρ σ)
  | trc {n b ρ σ o ρ' σ'} (h : D n (.ss b ρ σ o ρ' σ')) : D n (.s (.trc b) ρ σ o ρ' σ')
  | snil {n ρ σ} : D n (.ss [] ρ σ .next ρ σ)
  | next {n s ss ρ σ ρ1 σ1 o ρ' σ'} (h1 : D n (.s s ρ σ .next ρ1 σ1)) (h2 : D n (.ss ss ρ1 σ1 o ρ' σ')) : D n (.ss (s :: ss) ρ σ o ρ' σ')
  | stop {n s ss ρ σ o ρ' σ'} (h1 : D n (.s s ρ σ o ρ' σ')) (h : o.isNext = false) : D n (.ss (s :: ss) ρ σ o ρ' σ')
  | whdone {n t b ρ σ σ1} (h1 : D n (.t ρ t σ false σ1)) : D n (.wh t b ρ σ .next ρ σ1)
  | whgo {n t b ρ σ σ1 oo ρ1 σ2 o ρ' σ'} (h1 : D n (.t ρ t σ true σ1)) (h2 : D n (.ss b ρ σ1 oo ρ1 σ2)) (h : oo.isRet = false) (h3 : D n (.wh t b ρ1 σ2 o ρ' σ')) : D n (.wh t b ρ σ o ρ' σ')
  | whret {n t b ρ σ σ1 v ρ' σ'} (h1 : D n (.t ρ t σ true σ1)) (h2 : D n (.ss b ρ σ1 (.ret v) ρ' σ')) : D n (.wh t b ρ σ (.ret v) ρ' σ')
  | fonil {n is b ρ σ} : D n (.fo is b [] ρ σ .next ρ σ)
  | fogo {n is b x xs tv ρ σ oo ρ1 σ1 o ρ' σ'} (h0 : TgtR is.length x tv) (h1 : D n (.ss b (setAll ρ is tv) σ oo ρ1 σ1)) (h : oo.isRet = false) (h2 : D n (.fo is b xs ρ1 σ1 o ρ' σ')) : D n (.fo is b (x :: xs) ρ σ o ρ' σ')
  | foret {n is b x xs tv ρ σ v ρ' σ'} (h0 : TgtR is.length x tv) (h1 : D n (.ss b (setAll ρ is tv) σ (.ret v) ρ' σ')) : D n (.fo is b (x :: xs) ρ σ (.ret v) ρ' σ')
  | fn {n f ir vs ρ σ o ρ' σ1 v σ2} (hp : prog f = some ir) (h1 : ir.params.length ≤ vs.length + ir.dflt.length) (h2 : vs.length ≤ ir.params.length) (hb : bindA ir vs = ρ) (h : D n (.ss ir.body ρ σ o ρ' σ1)) (hf : FinR ir.keep σ.length (outV o) σ1 v σ2) : D (n + 1) (.f f vs σ v σ2)
theorem szl_is : szl = sizeLine := by unfold szl; rfl
theorem szl_num : szl = 16777216 := by unfold szl; rfl
theorem le_num {n : Nat} (h : n ≤ szl) : n ≤ 16777216 := szl_num ▸ h
theorem le_line {n : Nat} (h : n ≤ szl) : n ≤ sizeLine := szl_is ▸ h

/-- a value read through the owned objects -/
noncomputable def RepD (C : SC) (h g : Heap) (as : List Addr) : AV → Value → Prop
  | .undef, _ => True
  | .list xs, v => RSeq h.IsList (fun vs => RepL C g as xs vs) v
  | .map kvs, v => RRef (fun a => MapRep C h g a kvs) v
  | x, v => Rep C g as x v

theorem Rep.toD {C : SC} {h g : Heap} {as : List Addr} (hg : Sub g h) {x : AV} {v : Value} (r : Rep C g as x v) : RepD C h g as x v := by
  cases x with
  | undef => trivial
  | list xs => obtain ⟨a, vs, ⟨o, ho, h2⟩, h3⟩ := (r : RSeq _ _ v); exact RSeq.mk a vs ⟨o, hg _ _ ho, h2⟩ h3
  | map kvs => obtain ⟨a, h1⟩ := (r : RRef _ v); exact RRef.mk a (h1.mono (fun o e => hg _ _ e) (Sub.refl g))
  | _ => exact r

theorem drO_rep {C : SC} {h g : Heap} {as : List Addr} {a : Addr} : ∀ {z : Option OObj}, (∀ o, z = some o → ObjRep C g h a o) → RepD C h g as (drO z) (.ref a)
  | none, _ => trivial
  | some .dead, _ => trivial
  | some (.list xs), k => let ⟨vs, ⟨n, h1⟩, h2⟩ := (k _ rfl : ∃ vs, _ ∧ _); RSeq.mk a vs ⟨_, h1, rfl, n, rfl⟩ (RepL.mono (Sub.refl _) Pre.nil _ _ h2)
  | some (.map kvs), k => RRef.mk a (k _ rfl)
  | some (.inst _ _), _ => trivial
theorem dr_rep {C : SC} {hid : List Addr} {s : Shared} {as : List Addr} {σ : St} (k : OK C hid s as σ) {x : AV} {v : Value} (r : Rep C (gv hid s as σ) as x v) :
    RepD C s.heap (gv hid s as σ) as (dr σ x) v := by
  cases x with
  | own i => obtain ⟨a, ha⟩ := (r : RRef _ v); exact drO_rep fun o => k.own i a o ha
  | _ => exact Rep.toD (fun _ _ e => gv_h e) r

section
variable {C : SC} {g : Heap} {as : List Addr}
theorem RepL.get : ∀ {xs : List AV} {vs : List Value}, RepL C g as xs vs → ∀ {i : Nat} {x : AV}, xs[i]? = some x → ∃ v, vs[i]? = some v ∧ Rep C g as x v
  | [], _, _, _, _, e => nomatch e
  | _ :: _, vs, h, i, _, e => by
    obtain ⟨v, r, h2, h3⟩ := (h : RCons _ _ vs)
    cases i with
    | zero => cases e; exact ⟨v, rfl, h2⟩
    | succ j => exact RepL.get h3 e
theorem RepL.back : ∀ {xs : List AV} {vs : List Value}, RepL C g as xs vs → ∀ {i : Nat} {v : Value}, vs[i]? = some v → ∃ x, xs[i]? = some x ∧ Rep C g as x v
  | [], _, h, _, _, e => by cases (h : _ = []); cases e
  | x :: _, vs, h, i, _, e => by
    obtain ⟨v, r, h2, h3⟩ := (h : RCons _ _ vs)
    cases i with
    | zero => cases e; exact ⟨x, rfl, h2⟩
    | succ j => exact RepL.back h3 e
theorem RepL.append : ∀ {xs ys : List AV} {vs ws : List Value}, RepL C g as xs vs → RepL C g as ys ws → RepL C g as (xs ++ ys) (vs ++ ws)
  | [], _, _, _, h, h' => by cases (h : _ = []); exact h'
  | _ :: _, _, vs, ws, h, h' => by obtain ⟨v, r, h2, h3⟩ := (h : RCons _ _ vs); exact RCons.mk v _ h2 (RepL.append h3 h')
theorem RepL.drop : ∀ {xs : List AV} {vs : List Value} (n : Nat), RepL C g as xs vs → RepL C g as (xs.drop n) (vs.drop n)
  | _, _, 0, h => h
  | [], _, n + 1, h => by cases (h : _ = []); exact rfl
  | _ :: _, vs, n + 1, h => by obtain ⟨v, r, h2, h3⟩ := (h : RCons _ _ vs); exact RepL.drop n h3
theorem RepL.take : ∀ {xs : List AV} {vs : List Value} (n : Nat), RepL C g as xs vs → RepL C g as (xs.take n) (vs.take n)
  | _, _, 0, h => rfl
  | [], _, n + 1, h => by cases (h : _ = []); exact rfl
  | _ :: _, vs, n + 1, h => by obtain ⟨v, r, h2, h3⟩ := (h : RCons _ _ vs); exact RCons.mk v _ h2 (RepL.take n h3)
theorem RepL.mem : ∀ {xs : List AV} {vs : List Value}, RepL C g as xs vs → ∀ v ∈ vs, ∃ x ∈ xs, Rep C g as x v := fun h v hv =>
  let ⟨_, hi⟩ := List.getElem?_of_mem hv
  let ⟨x, e, r⟩ := h.back hi
  ⟨x, List.mem_of_getElem? e, r⟩
end

/-- the result of a quiet step -/
noncomputable def Res (C : SC) (hl : List Addr) (as : List Addr) (r : AV) (s : Shared) (v : Value) (s' : Shared) : Prop := Keeps s s' ∧ Rep C (vis s'.heap hl) as r v
theorem Keeps.refl (s : Shared) : Keeps s s := ⟨s.heap, s.toks, rfl, fun _ _ e => e⟩
theorem Keeps.tok (s : Shared) (t : Nat) : Keeps s { s with toks := t } := ⟨s.heap, t, rfl, fun _ _ e => e⟩
theorem keeps_push (s : Shared) (o : Obj) (t : Nat) : Keeps s { s with heap := s.heap.push o, toks := t } := ⟨_, _, rfl, fun b o e => Heap.get?_push_of_some _ e⟩
theorem keeps_vis {s s' : Shared} {hl : List Addr} (x : Keeps s s') : Sub (vis s.heap hl) (vis s'.heap hl) :=
  let ⟨h, t, q, k⟩ := x
  vis_mono fun b o hn e => ⟨(show Sub s.heap s'.heap from q ▸ k) b o e, hn⟩

theorem size_none (h : Heap) : h.get? h.objs.size = none := by
  cases e : h.get? h.objs.size with
  | none => rfl
  | some o => exact absurd (Heap.lt_size e) (Nat.lt_irrefl _)
theorem vis_new {h h' : Heap} {l : List Addr} {o : Obj} (hf : ∀ a ∈ l, ∃ o, h.get? a = some o) (e : h'.get? h.objs.size = some o) : (vis h' l).get? h.objs.size = some o :=
  vis_get (fun hm => let ⟨o, q⟩ := hf _ hm; ne_of_get (size_none h) q) e

abbrev WP {α : Type} (C : SC) (A : Around) (t : Sem α) (Q : α → Shared → Prop) (s : Shared) : Prop := wpAny (model C.prog C.w) A t Q (fun _ _ => False) s
noncomputable def AOK (n : Nat) (A : Around) : Prop := A.handled = none ∧ A.depth + 2 * n + 4 < recursionLimit ∧ A.units + 8 * n + 80 < cLine

section
variable {C : SC} {A : Around} {s : Shared} {hl as : List Addr} {v1 v2 : Value} {x y r : AV}
theorem WP.mono {α : Type} {t : Sem α} {Q Q' : α → Shared → Prop} (h : WP C A t Q s) (k : ∀ a s, Q a s → Q' a s) : WP C A t Q' s := wpAny_mono h k fun _ _ z => z

theorem intD {op : Operator} {Q : Value → Shared → Prop} {a b : Int} (h1 : RInt a v1) (h2 : RInt b v2) (k : ∀ t u, WP C A (binaryOp op (.int a t) (.int b u)) Q s) : WP C A (binaryOp op v1 v2) Q s := by cases h1; cases h2; exact k _ _
theorem Res.tokI {i : Int} {t : Tok} {k : Nat} : Res C hl as (.int i) s (.int i t) { s with toks := k } := ⟨Keeps.tok s _, RInt.mk _⟩
theorem Res.tokS {x : List Nat} {t : Tok} {k : Nat} : Res C hl as (.str x) s (.str ⟨x.toArray⟩ t) { s with toks := k } := ⟨Keeps.tok s _, RStr.mk _⟩

theorem add_listR {prog : Program} {w : World} {A : Around} {E : Value → Shared → Prop} {s : Shared} {l b : Addr} {vs ws : List Value} {Q : Value → Shared → Prop} (hl : s.heap.IsList l vs.toArray) (hb : s.heap.IsList b ws.toArray)
    (hsz : vs.length + ws.length ≤ sizeLine) (h : Q (.ref s.heap.objs.size) { s with heap := s.heap.push { cls := .type "list", data := .seq (vs ++ ws).toArray } }) :
    wpAny (model prog w) A (binaryOp .Add (.ref l) (.ref b)) Q E s := by
  obtain ⟨⟨cls, dd, data, sl⟩, ho, hc, n, hd⟩ := id hl
  obtain ⟨⟨cls2, dd2, data2, sl2⟩, ho2, hc2, n2, hd2⟩ := id hb
  cases hc; cases hd; cases hc2; cases hd2
  exact concat_meets ⟨_, ho, rfl⟩ ⟨_, ho2, rfl⟩ noFill_list_add seq_list_add PySem.F.slot_list_add PySem.F.entry_list_add (PySem.F.args_list_add_2 _ _) (list_addW l b vs.toArray ws.toArray n n2 dd dd2 sl sl2 hsz) ⟨ho, ho2, by rw [List.append_toArray]; exact h⟩

theorem binOp_ok {op : Operator} (hf : ∀ a ∈ hl, ∃ o, s.heap.get? a = some o) (h1 : RepD C s.heap (vis s.heap hl) as x v1) (h2 : RepD C s.heap (vis s.heap hl) as y v2) (e : BinR op x y r) :
    WP C A (binaryOp op v1 v2) (Res C hl as r s) s := by
  cases e with
  | addI => exact intD h1 h2 fun _ _ => add_int Res.tokI
  | addS hsz =>
    obtain ⟨t⟩ := (h1 : RStr _ _); obtain ⟨u⟩ := (h2 : RStr _ _)
    refine add_str (fun t' tk => ?_) (le_line hsz)
    show Res C hl as _ s (.str (Str.append _ _) t') _
    unfold Str.append
    rw [List.append_toArray]
    exact Res.tokS
  | addB hsz =>
    obtain ⟨ba, t, rfl⟩ := (h1 : RByt _ _); obtain ⟨bb, u, rfl⟩ := (h2 : RByt _ _)
    rw [List.length_map, List.length_map] at hsz
    exact KBy.add_bytes (le_num hsz) fun t' k => ⟨Keeps.tok s _, RByt.mk _ _ (by rw [Array.toList_append, List.map_append])⟩
  | addL hsz =>
    obtain ⟨l, vs, hl1, r1⟩ := (h1 : RSeq _ _ _); obtain ⟨b', ws, hl2, r2⟩ := (h2 : RSeq _ _ _)
    have K := keeps_push s { cls := .type "list", data := .seq (vs ++ ws).toArray } s.toks
    have q := RepL.mono (keeps_vis (hl := hl) K) (Pre.refl _) _ _ (r1.append r2)
    exact add_listR hl1 hl2 (by rw [r1.len, r2.len]; exact le_line hsz) ⟨K, RSeq.mk _ _ ⟨_, vis_new hf (Heap.get?_push_size _ rfl), rfl, 0, rfl⟩ q⟩
  | sub => exact intD h1 h2 fun _ _ => sub_int Res.tokI
  | mul h => exact intD h1 h2 fun _ _ => mul_int Res.tokI (h.elim (fun q => IntMulOk.of_left (intBits_le (of_decide_eq_true q))) fun q => IntMulOk.of_right (intBits_le (of_decide_eq_true q)))
  | div h h2' => exact intD h1 h2 fun _ _ => floordiv_int h Res.tokI (.inl (PyProof.noPylong_small h2'))
  | mod h => exact intD h1 h2 fun _ _ => mod_int h Res.tokI
  | pow h h' h'' => exact intD h1 h2 fun _ _ => pow_int_small h (Int.le_trans h' (by decide)) (of_decide_eq_true h'') Res.tokI
  | shl h h' h'' => exact intD h1 h2 fun _ _ => lshift_int_small h (Int.le_trans h' (by decide)) (of_decide_eq_true h'') Res.tokI
  | shr h => exact intD h1 h2 fun _ _ => rshift_int h Res.tokI
  | and => exact intD h1 h2 fun _ _ => and_int Res.tokI
end
theorem toA_inj {α : Type} {a b : List α} (h : a.toArray = b.toArray) : a = b := congrArg Array.toList h
noncomputable def eqj (xs ys : List AV) (j : Nat) : Bool := eqb (xs.getD j .undef) (ys.getD j .undef)
theorem eqbs_min : ∀ (xs ys : List AV), eqbs xs ys = ((List.range (Min.min xs.length ys.length)).all (eqj xs ys) && xs.length == ys.length)
  | [], [] => rfl
  | [], _ :: _ => rfl
  | _ :: _, [] => rfl
  | x :: xs, y :: ys => by
    show (eqb x y && eqbs xs ys) = ((List.range (Min.min (xs.length + 1) (ys.length + 1))).all _ && (xs.length + 1 == ys.length + 1))
    rw [Nat.add_min_add_right, List.range_succ_eq_map, List.all_cons, List.all_map, eqbs_min xs ys, Bool.and_assoc, Bool.eq_iff_iff (a := xs.length + 1 == _) (b := xs.length == ys.length) |>.mpr (by rw [beq_iff_eq, beq_iff_eq]; exact Nat.succ_inj)]
    rfl

section
variable {C : SC} {A : Around} {s : Shared} {g : Heap} {hl as : List Addr} {v1 v2 v u : Value} {x y r : AV} {Q : Value → Shared → Prop}

theorem str_beq (a b : List Nat) : ((⟨a.toArray⟩ : Str) == ⟨b.toArray⟩) = (a == b) := by
  by_cases h : a = b
  · rw [h, beq_self_eq_true, beq_self_eq_true]
  · rw [beq_eq_false_iff_ne.mpr h]
    exact beq_eq_false_iff_ne.mpr fun e => h (toA_inj (Str.mk.inj e))
theorem map_toNat_inj : ∀ {a b : List UInt8}, a.map (·.toNat) = b.map (·.toNat) → a = b
  | [], [], _ => rfl
  | x :: a, y :: b, h => by
    injection h with h1 h2
    rw [UInt8.toNat_inj.mp h1, map_toNat_inj h2]
theorem bytes_beq (a b : List UInt8) : (a == b) = (a.map (·.toNat) == b.map (·.toNat)) := by
  by_cases h : a = b
  · rw [h, beq_self_eq_true, beq_self_eq_true]
  · rw [beq_eq_false_iff_ne.mpr h]
    exact (beq_eq_false_iff_ne.mpr fun e => h (map_toNat_inj e)).symm

theorem seq_same {P : Addr → Array Value → Prop} {R1 R2 : List Value → Prop} {G : Prop} (hP : ∀ a x y, P a x → P a y → x = y) (h1 : RSeq P R1 v) (h2 : RSeq P R2 v) (k : ∀ vs, R1 vs → R2 vs → G) : G := by
  obtain ⟨a, vs, p1, r1⟩ := h1
  obtain ⟨_, ws, p2, r2⟩ := h2
  exact k vs r1 (toA_inj (hP _ _ _ p1 p2) ▸ r2)
theorem tuple_inj {h : Heap} (a : Addr) (x y : Array Value) (h1 : h.IsTuple a x) (h2 : h.IsTuple a y) : x = y := by
  obtain ⟨o, ho, _, m, hd⟩ := h1
  obtain ⟨o', ho', _, m', hd'⟩ := h2
  cases ho.symm.trans ho'
  cases hd.symm.trans hd'; rfl
theorem list_inj {h : Heap} (a : Addr) (x y : Array Value) (h1 : h.IsList a x) (h2 : h.IsList a y) : x = y := by
  obtain ⟨o, ho, _, m, hd⟩ := h1
  obtain ⟨o', ho', _, m', hd'⟩ := h2
  cases ho.symm.trans ho'
  cases hd.symm.trans hd'; rfl
/-- the items of two lists, each by each -/
theorem eqj_of {xs ys : List AV} {vs ws : List Value} (r1 : RepL C g as xs vs) (r2 : RepL C g as ys ws) {P : Value → Value → Bool → Prop} (h : ∀ (j : Nat) x y v w, xs[j]? = some x → ys[j]? = some y → Rep C g as x v → Rep C g as y w → P v w (eqb x y))
    (j : Nat) (h1 : j < vs.length) (h2 : j < ws.length) : P vs[j] ws[j] (eqj xs ys j) := by
  obtain ⟨x, ex, rx⟩ := r1.back (List.getElem?_eq_getElem h1)
  obtain ⟨y, ey, ry⟩ := r2.back (List.getElem?_eq_getElem h2)
  have := h j x y _ _ ex ey rx ry
  unfold eqj List.getD
  rw [ex, ey]; exact this
theorem eqbs_of {xs ys : List AV} {vs : List Value} (r1 : RepL C g as xs vs) (r2 : RepL C g as ys vs) (h : ∀ (j : Nat) x y v, xs[j]? = some x → ys[j]? = some y → Rep C g as x v → Rep C g as y v → eqb x y = true) : eqbs xs ys = true := by
  have el : xs.length = ys.length := r1.len.symm.trans r2.len
  rw [eqbs_min, el, beq_self_eq_true, Bool.and_true, Nat.min_self, List.all_eq_true]
  intro j hj
  have hj : j < vs.length := by rw [r2.len]; exact List.mem_range.mp hj
  exact eqj_of r1 r2 (P := fun v w b => v = w → b = true) (fun j x y v w ex ey rx ry e => h j x y v ex ey rx (e ▸ ry)) j hj hj rfl
/-- one value bears one datum -/
theorem rep_same {n : Nat} (h : CB n x y) : ∀ {v : Value}, Rep C g as x v → Rep C g as y v → eqb x y = true := by
  induction h with
  | int => intro v h1 h2; obtain ⟨t⟩ := (h1 : RInt _ v); cases (h2 : RInt _ _); exact beq_self_eq_true _
  | str =>
    intro v h1 h2; obtain ⟨t⟩ := (h1 : RStr _ v)
    rename_i a b
    have : ∀ {v}, RStr b v → v = .str ⟨a.toArray⟩ t → (a == b) = true := fun h e => by
      cases h; injection e with e; rw [toA_inj (Str.mk.inj e)]; exact beq_self_eq_true _
    exact this h2 rfl
  | list h ih => exact fun h1 h2 => seq_same list_inj h1 h2 fun vs r1 r2 => eqbs_of r1 r2 fun j x y v ex ey => ih (r1.len.symm.trans r2.len) j x y ex ey
  | tup h ih => exact fun h1 h2 => seq_same tuple_inj h1 h2 fun vs r1 r2 => eqbs_of r1 r2 fun j x y v ex ey => ih j x y ex ey

theorem rc_tuples {l b : Addr} {xs ys : List AV} {vs ws : List Value} (hl : s.heap.IsTuple l vs.toArray) (hb : s.heap.IsTuple b ws.toArray) (r1 : RepL C g as xs vs) (r2 : RepL C g as ys ws) (hu : A.units < cLine)
    (he : ∀ (j : Nat) x y v w, xs[j]? = some x → ys[j]? = some y → Rep C g as x v → Rep C g as y w → EqAt A.in1 s v w (eqb x y)) : RcAt A s (.ref l) (.ref b) (eqbs xs ys) ∧ RcNeAt A s (.ref l) (.ref b) (!eqbs xs ys) := by
  rw [eqbs_min, ← r1.len, ← r2.len]
  exact ⟨RcAt.tuples hl hb hu (eqj_of r1 r2 he), RcNeAt.tuples hl hb hu (eqj_of r1 r2 he)⟩
theorem rc_lists {l b : Addr} {xs ys : List AV} {vs ws : List Value} (hl : s.heap.IsList l vs.toArray) (hb : s.heap.IsList b ws.toArray) (r1 : RepL C g as xs vs) (r2 : RepL C g as ys ws) (hu : A.units < cLine)
    (he : xs.length = ys.length → ∀ (j : Nat) x y v w, xs[j]? = some x → ys[j]? = some y → Rep C g as x v → Rep C g as y w → EqAt A.in1 s v w (eqb x y)) : RcAt A s (.ref l) (.ref b) (eqbs xs ys) ∧ RcNeAt A s (.ref l) (.ref b) (!eqbs xs ys) := by
  by_cases el : xs.length = ys.length
  · have hs : vs.length = ws.length := by rw [r1.len, r2.len, el]
    rw [eqbs_min, el, beq_self_eq_true, Bool.and_true, Nat.min_self, ← r2.len, ← hs]
    exact ⟨RcAt.lists hl hb hs hu (eqj_of r1 r2 (he el)), RcNeAt.lists hl hb hs hu (eqj_of r1 r2 (he el))⟩
  · rw [eqbs_min, beq_eq_false_iff_ne.mpr el, Bool.and_false]
    have hs : (vs.length != ws.length) = true := bne_iff_ne.mpr (by rw [r1.len, r2.len]; exact el)
    exact ⟨RcAt.lists_lengths hl hb hs hu, RcNeAt.lists_lengths hl hb hs hu⟩

theorem tupIn (hg : Sub g s.heap) {a : Addr} {vs : Array Value} (h : g.IsTuple a vs) : s.heap.IsTuple a vs := let ⟨o, ho, q⟩ := h; ⟨o, hg _ _ ho, q⟩
theorem listIn (hg : Sub g s.heap) {a : Addr} {vs : Array Value} (h : g.IsList a vs) : s.heap.IsList a vs := let ⟨o, ho, q⟩ := h; ⟨o, hg _ _ ho, q⟩
/-- items compared -/
theorem eqAt_ok (hg : Sub g s.heap) {n : Nat} (h : CB n x y) : ∀ {A : Around} {v u : Value}, A.units + n < cLine → Rep C g as x v → Rep C g as y u → EqAt A s v u (eqb x y) := by
  induction h with
  | int => intro A v u hu h1 h2; obtain ⟨t⟩ := (h1 : RInt _ v); obtain ⟨t'⟩ := (h2 : RInt _ u); exact EqAt.int_int _ t _ t'
  | str =>
    intro A v u hu h1 h2; obtain ⟨t⟩ := (h1 : RStr _ v); obtain ⟨t'⟩ := (h2 : RStr _ u)
    exact (str_beq _ _).subst (motive := fun b => EqAt A s _ _ b) (EqAt.str_str _ t _ t')
  | list h ih =>
    intro A v u hu h1 h2
    by_cases hvu : v = u
    · subst hvu; rw [rep_same (.list h) h1 h2]; exact EqAt.same v
    obtain ⟨a, vs, l1, r1⟩ := (h1 : RSeq _ _ v); obtain ⟨b, ws, l2, r2⟩ := (h2 : RSeq _ _ u)
    exact EqAt.of_refs (fun e => hvu (by rw [e])) (rc_lists (listIn hg l1) (listIn hg l2) r1 r2 (Nat.lt_of_le_of_lt (Nat.le_add_right _ _) hu) fun el j x y v w ex ey => ih el j x y ex ey (by rw [Around.in1_units, Nat.add_right_comm]; exact hu)).1
  | tup h ih =>
    intro A v u hu h1 h2
    by_cases hvu : v = u
    · subst hvu; rw [rep_same (.tup h) h1 h2]; exact EqAt.same v
    obtain ⟨a, vs, l1, r1⟩ := (h1 : RSeq _ _ v); obtain ⟨b, ws, l2, r2⟩ := (h2 : RSeq _ _ u)
    exact EqAt.of_refs (fun e => hvu (by rw [e])) (rc_tuples (tupIn hg l1) (tupIn hg l2) r1 r2 (Nat.lt_of_le_of_lt (Nat.le_add_right _ _) hu) fun j x y v w ex ey => ih j x y ex ey (by rw [Around.in1_units, Nat.add_right_comm]; exact hu)).1

/-- a comparison's end -/
noncomputable def CP (s : Shared) (b : Bool) (r : Value) (s' : Shared) : Prop := Keeps s s' ∧ r = .bool b
theorem CP.same {b : Bool} : CP s b (.bool b) s := ⟨Keeps.refl s, rfl⟩
theorem units_lt (hA : A.units + 16 < cLine) (n : Nat) (h : n ≤ 16) : A.units + n < cLine := Nat.lt_of_le_of_lt (Nat.add_le_add_left h _) hA
noncomputable def EN (C : SC) (A : Around) (s : Shared) (v u : Value) (b : Bool) : Prop := WP C A (compareOp .Eq v u) (CP s b) s ∧ WP C A (compareOp .NotEq v u) (CP s (!b)) s
theorem EN.of {b : Bool} (h : RcAt A s v u b ∧ RcNeAt A s v u (!b)) : EN C A s v u b := ⟨h.1 _ _ _ _ CP.same, h.2 _ _ _ _ CP.same⟩
/-- == and != of what can be compared item by item -/
theorem eqc_ok (hA : A.units + 16 < cLine) (hg : Sub g s.heap) (h1 : RepD C s.heap g as x v) (h2 : RepD C s.heap g as y u) (hc : CB 8 x y) : EN C A s v u (eqb x y) := by
  cases hc with
  | int => obtain ⟨t⟩ := (h1 : RInt _ v); obtain ⟨t'⟩ := (h2 : RInt _ u); exact ⟨eq_int CP.same, ne_int CP.same⟩
  | str =>
    obtain ⟨t⟩ := (h1 : RStr _ v); obtain ⟨t'⟩ := (h2 : RStr _ u)
    exact ⟨eq_str (by rw [str_beq]; exact CP.same), ne_str (show CP s _ (.bool (!(_ == _))) s by rw [str_beq]; exact CP.same)⟩
  | list h =>
    obtain ⟨a, vs, l1, r1⟩ := (h1 : RSeq _ _ v); obtain ⟨b, ws, l2, r2⟩ := (h2 : RSeq _ _ u)
    exact EN.of (rc_lists l1 l2 r1 r2 (units_lt hA 0 (by decide)) fun el j x y v w ex ey => eqAt_ok hg (h el j x y ex ey) (units_lt hA 8 (by decide)))
  | tup h =>
    obtain ⟨a, vs, l1, r1⟩ := (h1 : RSeq _ _ v); obtain ⟨b, ws, l2, r2⟩ := (h2 : RSeq _ _ u)
    exact EN.of (rc_tuples (tupIn hg l1) (tupIn hg l2) r1 r2 (units_lt hA 0 (by decide)) fun j x y v w ex ey => eqAt_ok hg (h j x y ex ey) (units_lt hA 8 (by decide)))

noncomputable def eqI (a : Int) : Value → Bool
  | .int b _ => b == a
  | _ => false
theorem any_ints {a : Int} : ∀ {ys : List Int} {vs : List Value}, RepL C g as (ys.map .int) vs → vs.any (eqI a) = ys.contains a ∧ ∀ w ∈ vs, ∃ i, RInt i w
  | [], _, h => by cases (h : _ = []); exact ⟨rfl, fun _ h => nomatch h⟩
  | y :: ys, vs, h => by
    obtain ⟨_, r, ⟨t⟩, h3⟩ := (h : RCons (fun v => RInt y v) _ vs)
    obtain ⟨q1, q2⟩ := any_ints h3
    refine ⟨?_, fun w hw => ?_⟩
    · rw [List.any_cons, q1, List.contains_cons, Bool.beq_comm]; rfl
    · cases hw with
      | head => exact ⟨y, .mk t⟩
      | tail _ hw => exact q2 w hw
theorem in_ok {a : Int} {ys : List Int} (hg : Sub g s.heap) (h1 : RInt a v) (h2 : RSeq g.IsTuple (fun vs => RepL C g as (ys.map .int) vs) u) :
    WP C A (compareOp .In v u) (CP s (ys.contains a)) s ∧ WP C A (compareOp .NotIn v u) (CP s (!ys.contains a)) s := by
  obtain ⟨l, vs, ht, r⟩ := h2
  obtain ⟨q1, q2⟩ := any_ints (a := a) r
  have he : ∀ w, w ∈ vs.toArray → EqAt A.in1 s w v (eqI a w) := fun w hw => by
    obtain ⟨i, ⟨t⟩⟩ := q2 w (List.mem_toArray.mp hw)
    obtain ⟨t'⟩ := h1
    exact EqAt.int_int i t a t'
  have e : vs.toArray.any (eqI a) = ys.contains a := by rw [List.any_toArray, q1]
  exact ⟨in_tupleAt (eqI a) (tupIn hg ht) he (by rw [e]; exact CP.same), notIn_tupleAt (eqI a) (tupIn hg ht) he (by rw [e]; exact CP.same)⟩

/-- == of two character maps: shown apart -/
noncomputable def MapEqOk (C : SC) : Prop := ∀ (A : Around) (s : Shared) (hl as : List Addr) (v u : Value) (x y : List (List Int × List Nat)) (b : Bool), A.units + 16 < cLine →
  RepD C s.heap (vis s.heap hl) as (.map x) v → RepD C s.heap (vis s.heap hl) as (.map y) u → x.length ≤ szl → y.length ≤ szl → EN C A s v u (x.length == y.length && x.all fun kv => y.lookup kv.1 == some kv.2)

theorem intC {op : CmpOp} {a b : Int} (h1 : RInt a v) (h2 : RInt b u) (k : ∀ t t', WP C A (compareOp op (.int a t) (.int b t')) Q s) : WP C A (compareOp op v u) Q s := by cases h1; cases h2; exact k _ _
theorem eqR_ok (hM : MapEqOk C) {b : Bool} (hA : A.units + 16 < cLine) (h1 : RepD C s.heap (vis s.heap hl) as x v) (h2 : RepD C s.heap (vis s.heap hl) as y u) (hc : EqR x y b) : EN C A s v u b := by
  cases hc with
  | byt =>
    obtain ⟨ba, t, rfl⟩ := (h1 : RByt _ v); obtain ⟨bb, t', rfl⟩ := (h2 : RByt _ u)
    rw [← bytes_beq]
    exact ⟨eq_bytes CP.same, ne_bytes CP.same⟩
  | map l1 l2 => exact hM A s hl as v u _ _ true hA h1 h2 l1 l2
  | cmp hc => exact eqc_ok hA (vis_sub s.heap hl) h1 h2 hc
theorem cmpOp_ok (hM : MapEqOk C) {op : CmpOp} {b : Bool} (hA : A.units + 16 < cLine) (h1 : RepD C s.heap (vis s.heap hl) as x v) (h2 : RepD C s.heap (vis s.heap hl) as y u) (hc : CmpR op x y b) :
    WP C A (compareOp op v u) (CP s b) s := by
  cases hc with
  | eq h => exact (eqR_ok hM hA h1 h2 h).1
  | ne h => exact (eqR_ok hM hA h1 h2 h).2
  | lt => exact intC h1 h2 fun _ _ => lt_int CP.same
  | le => exact intC h1 h2 fun _ _ => le_int CP.same
  | gt => exact intC h1 h2 fun _ _ => gt_int CP.same
  | ge => exact intC h1 h2 fun _ _ => ge_int CP.same
  | in_ => exact (in_ok (vis_sub s.heap hl) h1 h2).1
  | nin => exact (in_ok (vis_sub s.heap hl) h1 h2).2
  | isN => cases (h1 : v = .none); cases (h2 : u = .none); exact is_none CP.same
  | isI => obtain ⟨t⟩ := (h1 : RInt _ v); cases (h2 : u = .none); exact is_none CP.same
end
section
variable {C : SC} {A : Around} {s : Shared} {g : Heap} {hl as : List Addr} {v1 v2 v u : Value} {x y r : AV} {E : Value → Shared → Prop} {Q : Value → Shared → Prop}

theorem RepM.keys : ∀ {kvs : List (List Int × List Nat)} {xs : List (List Int × Addr × Value)}, RepM kvs xs → xs.map (·.1) = kvs.map (·.1)
  | [], _, h => by cases (h : _ = []); rfl
  | (k, x) :: kvs, _, h => by
    obtain ⟨a, t, r, rfl, h⟩ := h
    exact congrArg (k :: ·) (RepM.keys h)
theorem RepM.len {kvs : List (List Int × List Nat)} {xs : List (List Int × Addr × Value)} (h : RepM kvs xs) : xs.length = kvs.length := by
  rw [← List.length_map (f := (·.1)), h.keys, List.length_map]
theorem MapRep.typeIs {a : Addr} {kvs} (m : MapRep C s.heap g a kvs) : s.TypeIs (.ref a) "dict" := by
  obtain ⟨_, xs, o, es, ep, ho, h1, _⟩ := m
  exact ⟨o, ho, h1.1⟩
theorem MapRep.dictOf {h g : Heap} {a : Addr} {kvs} (m : MapRep C h g a kvs) (hg : Sub g h) : ∃ xs, h.DictOfH (tk C.prog C.w) a xs ∧ RepM kvs xs := by
  obtain ⟨_, xs, o, es, ep, ho, h1, h2, h3, h4, h5, h6⟩ := m
  exact ⟨xs, ⟨o, es, ep, ho, h1, h2, h3, fun x hx => tk_mono hg (h4 x hx), h5⟩, h6⟩

theorem meets_len_map {d : Addr} (hd : (d == sysModules) = false) {prog : Program} {w : World} :
    MeetsIn prog w (Builtin.«dict.__len__» ⟨[.ref d], []⟩) (fun _ R s => ∃ o es ep, s.heap.get? d = some o ∧ o.data = .dict es ep ∧ R (.ok (.ret (.int es.size s.toks))) { s with toks := s.toks + 1 }) :=
  .of_wp fun A R s ⟨o, es, ep, ho, hdat, h⟩ => by
    show wpAny _ _ (dictSize d >>= _) _ _ s
    unfold dictSize
    refine wpAny_bind (wpAny_bind (wpAny_dictEntries ho hdat (wpAny_pure ?_)))
    show wpAny _ _ (Builtin.Dict.pendingCount d >>= _) _ _ s
    exact wpAny_bind (wpAny_pendingCount_other hd (wpAny_ret_mkInt h))
theorem len_body_map {d : Addr} {o : Obj} {es : Array DictEntry} {ep : Nat} {prog : Program} {w : World} (hd : (d == sysModules) = false) (ho : s.heap.get? d = some o) (hc : o.cls = .type "dict") (hdat : o.data = .dict es ep) (hfit : (es.size : Int) < 2 ^ 63)
    (h : Q (.int es.size (s.toks + 1)) { s with toks := s.toks + 1 + 1 }) : wpAny (model prog w) A (Builtin.«len» ⟨[.ref d], []⟩) (fun fin s' => ∃ r, fin = .done (.ret r) ∧ Q r s') E s := by
  have hT : s.TypeIs (.ref d) "dict" := ⟨o, ho, hc⟩
  unfold Builtin.«len»
  refine wpAny_bind (m := oneArg "len" _) (wpAny_pure ?_)
  refine wpAny_bind (m := callSpecial? (.ref d) (Str.ofString "__len__")) (wpAny_callSpecial?_slot (name := Str.ofString "__len__") hT F.slot_dict_len
    (call_meetsIn F.slot_dict_len hT F.entry_dict_len (F.args_dict_len_1 _) (meets_len_map hd) ⟨o, es, ep, ho, hdat, ?_⟩))
  show wpAny _ _ _ _ _ { s with toks := s.toks + 1 }
  refine wpAny_bind (wpAny_holding (wpAny_pure ?_))
  refine wpAny_bind (wpAny_letGo ?_)
  show wpAny _ _ (if ((es.size : Nat) : Int) < 0 then _ else _) _ _ _
  rw [if_neg (Int.not_lt.mpr (Int.natCast_nonneg _))]
  show wpAny _ _ (if ((es.size : Nat) : Int) ≥ 2 ^ 63 then _ else _) _ _ _
  rw [if_neg (Int.not_le.mpr hfit)]
  exact wpAny_bind (wpAny_mkInt (wpAny_pure ⟨_, rfl, h⟩))
theorem truthy_map {d : Addr} {o : Obj} {es : Array DictEntry} {ep : Nat} {prog : Program} {w : World} {Q : Bool → Shared → Prop} (hd : (d == sysModules) = false) (ho : s.heap.get? d = some o) (hc : o.cls = .type "dict") (hdat : o.data = .dict es ep) (hfit : (es.size : Int) < 2 ^ 63)
    (h : Q ((es.size : Int) != 0) { s with toks := s.toks + 1 + 1 }) : wpAny (model prog w) A (truthy (.ref d)) Q E s := by
  have hT : s.TypeIs (.ref d) "dict" := ⟨o, ho, hc⟩
  unfold truthy
  refine wpAny_bind (wpAny_callSpecial?_none (name := Str.ofString "__bool__") hT noBool_dict ?_)
  refine wpAny_bind (wpAny_specialOf (name := Str.ofString "__len__") hT F.slot_dict_len.lookup ?_)
  refine wpAny_bind (wpAny_mono (Q := fun r s' => r = .int es.size (s.toks + 1) ∧ Q ((es.size : Int) != 0) s') (wpAny_runValue (codeAny_builtin entry_len ?_)) (fun r s' h' => by obtain ⟨rfl, hq⟩ := h'; exact wpAny_pure hq) fun _ _ e => e)
  rw [Around.under_plainId plain_len _]
  exact wpAny_mono (len_body_map (Q := fun r s' => r = .int es.size (s.toks + 1) ∧ Q ((es.size : Int) != 0) s') hd ho hc hdat hfit ⟨rfl, h⟩) (fun fin s' h' => by obtain ⟨r, rfl, hq⟩ := h'; exact hq) fun _ _ e => e

/-- a map's object -/
inductive MapObj (h : Heap) (a : Addr) (n : Nat) : Prop
  | mk (hs : (a == sysModules) = false) (o : Obj) (es : Array DictEntry) (ep : Nat) (ho : h.get? a = some o) (hc : o.cls = .type "dict") (hd : o.data = .dict es ep) (hz : es.size = n)
theorem MapRep.obj {h g : Heap} {a : Addr} {kvs} (m : MapRep C h g a kvs) : MapObj h a kvs.length := by
  obtain ⟨hs, xs, o, es, ep, ho, h1, h2, h3, h4, h5, h6⟩ := m
  exact ⟨hs, o, es, ep, ho, h1.1, h2, (size_of_entries h3).trans h6.len⟩
theorem fit63 {n : Nat} (h : n ≤ szl) : (n : Int) < 2 ^ 63 := Int.lt_of_le_of_lt (Int.ofNat_le.mpr (le_num h)) (by decide)
theorem ne_zero_bool (n : Nat) : (((n + 1 : Nat) : Int) != 0) = true := rfl
theorem truthy_ok {b : Bool} (h1 : RepD C s.heap g as x v) (hc : TruR x b) : WP C A (truthy v) (fun r s' => Keeps s s' ∧ r = b) s := by
  cases hc with
  | bool => cases (h1 : v = _); exact wpAny_truthy_bool ⟨Keeps.refl s, rfl⟩
  | list hz =>
    rename_i xs
    obtain ⟨a, vs, l1, r1⟩ := (h1 : RSeq _ _ v)
    refine wpAny_truthy_list l1 (fit63 (by rw [← r1.len] at hz; exact hz)) ⟨Keeps.tok s _, ?_⟩
    cases xs with
    | nil => cases (r1 : _ = []); rfl
    | cons y ys => obtain ⟨w, r, _⟩ := (r1 : RCons _ _ vs); rfl
  | map hz =>
    rename_i xs
    obtain ⟨a, m⟩ := (h1 : RRef _ v)
    obtain ⟨hs, o, es, ep, ho, hc, hd, hz'⟩ := m.obj
    refine truthy_map hs ho hc hd (fit63 (hz' ▸ hz)) ⟨Keeps.tok s _, ?_⟩
    rw [hz']
    cases xs <;> rfl

/-- o[i] where o's type has a built-in __getitem__ -/
noncomputable def Item (C : SC) (A : Around) (s : Shared) (o i : Value) (Q : Value → Shared → Prop) : Prop :=
  ∃ T id, s.TypeIs o T ∧ typeLookup (.type T) "__getitem__" = pure (some (.builtin id)) ∧ WP C A (getItem o i) Q s
theorem subscripted_op (slice : Expr) (o i : Value) : ∃ ops, subscripted slice false o i = operate ops (getItem o i) := by
  cases slice <;> first | exact ⟨[o, i], rfl⟩ | (rename_i st _; cases st <;> exact ⟨_, rfl⟩)
theorem Item.tail {value slice : Expr} {o i : Value} (h : Item C A s o i Q) : WP C A (subscriptTail value slice o i) Q s := by
  obtain ⟨T, id, hT, hl, hg⟩ := h
  obtain ⟨ops, hs⟩ := subscripted_op slice o i
  exact tail_any hT hl hg hs

theorem RepM.find : ∀ {kvs : List (List Int × List Nat)} {xs : List (List Int × Addr × Value)}, RepM kvs xs → ∀ {k : List Int} {t : List Nat}, kvs.lookup k = some t → ∃ a tk, atKey xs k = some (a, .str ⟨t.toArray⟩ tk)
  | [], _, h, k, t, e => nomatch e
  | (k', z) :: kvs, _, h, k, t, e => by
    obtain ⟨a, tk, r, rfl, h⟩ := h
    rw [List.lookup_cons] at e
    unfold atKey
    rw [List.find?_cons]
    by_cases hk : k = k'
    · subst hk
      rw [beq_self_eq_true] at e; cases e
      exact ⟨a, tk, by rw [decide_eq_true rfl]; rfl⟩
    · rw [beq_eq_false_iff_ne.mpr hk] at e
      rw [decide_eq_false fun q => hk q.symm]
      exact RepM.find h e
theorem items_are : ∀ {k : List Int} {vs : List Value}, RepL C g as (k.map .int) vs → ItemsAre (intKind C.prog C.w) k vs
  | [], _, h => by cases (h : _ = []); exact .nil
  | _ :: _, vs, h => by obtain ⟨_, r, ⟨t⟩, h3⟩ := (h : RCons (fun v => RInt _ v) _ vs); exact .cons (intKind_is _ _ _ _) (items_are h3)
theorem tupK_rep {k : List Int} (h : RSeq g.IsTuple (fun vs => RepL C g as (k.map .int) vs) v) : RRef (fun a => (tk C.prog C.w).is g k a) v := by
  obtain ⟨a, vs, ⟨o, ho, hc, n, hd⟩, r⟩ := h
  exact ⟨a, o, vs.toArray, n, ho, hc, hd, items_are r⟩
theorem room_of (hA : A.units + 16 < cLine) : (tk C.prog C.w).room A.in1 := units_lt hA 1 (by decide)

theorem sq_of {i : Int} {n j : Nat} (h0 : (if i < 0 then i + n else i) = (j : Int)) (hj : j < n) : seqIndex? i n = some j := by
  unfold seqIndex?
  dsimp only
  rw [h0, decide_eq_true (Int.natCast_nonneg j), decide_eq_true (Int.ofNat_lt.mpr hj)]; rfl
theorem m1_add (m : Nat) : (-1 : Int) + ((m + 1 : Nat) : Int) = m := by rw [Int.natCast_succ, Int.add_comm, Int.add_assoc]; rfl
theorem ix_ok {n j : Nat} {i : Int} (h : Ix n i j) (hj : j < n) (hn : n ≤ szl) : seqIndex? i n = some j ∧ -(2 ^ 63) ≤ i ∧ i < 2 ^ 63 := by
  cases h with
  | pos e =>
    subst e
    exact ⟨sq_of (if_neg (Int.not_lt.mpr (Int.natCast_nonneg j))) hj, Int.le_trans (by decide) (Int.natCast_nonneg j), Int.lt_trans (Int.ofNat_lt.mpr hj) (fit63 hn)⟩
  | neg =>
    cases n with
    | zero => exact absurd hj (Nat.not_lt_zero _)
    | succ m => exact ⟨sq_of ((if_pos (by decide)).trans (m1_add m)) hj, by decide, by decide⟩
theorem arr_get {α : Type} {l : List α} {j : Nat} {o : Option α} (h : l[j]? = o) : l.toArray[j]? = o := List.getElem?_toArray.trans h
theorem get_lt {α : Type} {l : List α} {j : Nat} {a : α} (h : l[j]? = some a) : j < l.length := (List.getElem?_eq_some_iff.mp h).1

theorem subOp_ok (hA : A.units + 16 < cLine) (h1 : RepD C s.heap (vis s.heap hl) as x v) (h2 : Rep C (vis s.heap hl) as y u) (e : SubR x y r) :
    Item C A s v u (Res C hl as r s) := by
  have hg := vis_sub s.heap hl
  cases e with
  | list hz hi hv =>
    obtain ⟨l, vs, l1, r1⟩ := (h1 : RSeq _ _ v); obtain ⟨t⟩ := (h2 : RInt _ u)
    obtain ⟨w, hw, rw'⟩ := r1.get hv
    obtain ⟨-, q2, q3⟩ := ix_ok hi (get_lt hv) hz
    refine ⟨_, _, l1.typeIs, PySem.slot_list_getitem.lookup, ?_⟩
    cases hi with
    | pos e => subst e; exact wpAny_getItem_list l1 (Int.natCast_nonneg _) q3 (arr_get hw) ⟨Keeps.refl s, rw'⟩
    | neg =>
      rw [← r1.len] at hw
      have hlt := get_lt hw
      cases hn : vs.length with
      | zero => rw [hn] at hlt; exact absurd hlt (Nat.not_lt_zero _)
      | succ m =>
        rw [hn] at hw
        refine wpAny_getItem_list_neg l1 (by decide) ?_ q2 ?_ ⟨Keeps.refl s, rw'⟩
        · show -((vs.length : Nat) : Int) ≤ -1; rw [hn]; exact Int.neg_le_neg (Int.ofNat_le.mpr (Nat.succ_le_succ (Nat.zero_le m)))
        · show vs.toArray[((-1 : Int) + ((vs.length : Nat) : Int)).toNat]? = _; rw [hn, m1_add]; exact arr_get hw
  | tup hz hi hv =>
    obtain ⟨l, vs, l1, r1⟩ := (h1 : RSeq _ _ v); obtain ⟨t⟩ := (h2 : RInt _ u)
    obtain ⟨w, hw, rw'⟩ := r1.get hv
    obtain ⟨q1, q2, q3⟩ := ix_ok hi (get_lt hv) hz
    rw [← r1.len] at q1
    have l2 := tupIn hg l1
    exact ⟨_, _, let ⟨o, ho, hc, _⟩ := l2; ⟨o, ho, hc⟩, PyProof.Rows.slot_tuple_getitem.lookup, getItem_tuple l2 q2 q3 q1 (arr_get hw) ⟨Keeps.refl s, rw'⟩⟩
  | bytes hz hi hv =>
    obtain ⟨ba, t, rfl⟩ := (h1 : RByt _ v); obtain ⟨t'⟩ := (h2 : RInt _ u)
    obtain ⟨q1, q2, q3⟩ := ix_ok hi (get_lt hv) hz
    rw [List.getElem?_map] at hv
    obtain ⟨c, hc, rfl⟩ := Option.map_eq_some_iff.mp hv
    rw [List.length_map] at q1
    refine ⟨_, _, typeIs_bytes _ _ _, FB.slot_bytes_getitem.lookup, ?_⟩
    exact getItem_gives (typeIs_bytes s _ t) (by decide) FB.slot_bytes_getitem FB.entry_bytes_getitem (FB.args_bytes_getitem_2 _ _) (gives_bytes_getitem _ _ t t' c (Bool.and_eq_true_iff.mpr ⟨decide_eq_true q2, decide_eq_true q3⟩) (by
      show (seqIndex? _ ba.toList.length).bind _ = _
      rw [q1]; exact (Array.getElem?_toList ..).symm.trans hc)) Res.tokI
  | str hz hi hv =>
    obtain ⟨t⟩ := (h1 : RStr _ v); obtain ⟨t'⟩ := (h2 : RInt _ u)
    obtain ⟨q1, q2, q3⟩ := ix_ok hi (get_lt hv) hz
    refine ⟨_, _, typeIs_str _ _ _, PyProof.Rows.slot_str_getitem.lookup, ?_⟩
    exact getItem_str (Bool.or_eq_false_iff.mpr ⟨decide_eq_false (Int.not_lt.mpr q2), decide_eq_false (Int.not_le.mpr q3)⟩) ((congrArg (Option.bind · _) q1).trans (arr_get hv)) Res.tokS
  | map h =>
    obtain ⟨d, m⟩ := (h1 : RRef _ v)
    obtain ⟨xs, hd, hm⟩ := m.dictOf hg
    obtain ⟨a, hk⟩ := tupK_rep h2
    obtain ⟨a', tk', hat⟩ := hm.find h
    exact ⟨_, _, m.typeIs, PySem.slot_dict_getitem.lookup, wpAny_getItem_heap (room_of hA) (tk_mono hg hk) hd hat Res.tokS⟩

/-- the slice object has just been made -/
theorem slcOp_ok {l u : Option Int} {a : Addr} {vl vu : Value} (hf : ∀ a ∈ hl, ∃ o, s.heap.get? a = some o) (h1 : RepD C s.heap (vis s.heap hl) as x v)
    (hs : s.heap.IsSliceOf a vl vu .none) (pl : IsPart vl l) (pu : IsPart vu u) (e : SlcR x l u r) : Item C A s v (.ref a) (Res C hl as r s) := by
  cases e with
  | list hz =>
    rename_i xs
    obtain ⟨b, vs, l1, r1⟩ := (h1 : RSeq _ _ v)
    refine ⟨_, _, l1.typeIs, PySem.slot_list_getitem.lookup, wpAny_getItem_list_slice l1 hs pl pu .none nofun ?_ (by rw [← r1.len] at hz; exact le_line hz)⟩
    rw [slicePick_plain]
    have q := (r1.drop (l.elim 0 (clipAt vs.length))).take (u.elim vs.length (clipAt vs.length) - l.elim 0 (clipAt vs.length))
    have K := keeps_push s { cls := .type "list", data := .seq ((vs.drop (l.elim 0 (clipAt vs.length))).take (u.elim vs.length (clipAt vs.length) - l.elim 0 (clipAt vs.length))).toArray } s.toks
    have q' := RepL.mono (keeps_vis (hl := hl) K) (Pre.refl _) _ _ q
    refine ⟨K, RSeq.mk _ _ ⟨_, vis_new hf (Heap.get?_push_size _ rfl), rfl, 0, rfl⟩ ?_⟩
    unfold cutL
    rw [← r1.len]
    exact q'
  | bytes hz =>
    obtain ⟨ba, t, rfl⟩ := (h1 : RByt _ v)
    rw [List.length_map] at hz
    refine ⟨_, _, typeIs_bytes _ _ _, FB.slot_bytes_getitem.lookup, ?_⟩
    refine getItem_meets (typeIs_bytes _ _ _) (by decide) FB.slot_bytes_getitem FB.entry_bytes_getitem (FB.args_bytes_getitem_2 _ _) (KBc.meets_slice2 ba t a pl pu)
      ⟨hs, Nat.le_trans (KBc.size_picked_le ba l u) (le_line hz), fun t' k => ⟨Keeps.tok s _, RByt.mk _ _ ?_⟩⟩
    rw [KBc.picked_eq]
    unfold cutL
    rw [List.length_map, List.map_take, List.map_drop]; rfl
end
noncomputable def BI.val : BI → Value
  | .len => .builtin "len" | .range => .type "range" | .sorted => .builtin "sorted" | .abs => .builtin "abs" | .min => .builtin "min" | .int => .type "int" | .str => .type "str" | .chr => .builtin "chr" | .ord => .builtin "ord"
  | .bytes => .type "bytes" | .list => .type "list" | .dict => .type "dict" | .tuple => .type "tuple"
theorem BI.boot (b : BI) : bootBuiltins b.nm = some b.val := by
  cases b <;> (show bootBuiltins _ = _; first | boot_fast | decide +kernel)

noncomputable def RepDL (C : SC) (h g : Heap) (as : List Addr) : List AV → List Value → Prop
  | [], vs => vs = []
  | x :: xs, vs => RCons (fun v => RepD C h g as x v) (fun r => RepDL C h g as xs r) vs

theorem dec_is (n : Nat) : (Str.ofString (toString (n : Int))) = ⟨(dec n).toArray⟩ := by
  rw [Str.ofString_eq_toList]
  show (⟨(((String.ofList (Nat.toDigits 10 n)).toList).map _).toArray⟩ : Str) = _
  rw [String.toList_ofList]; rfl

section
variable {C : SC} {A : Around} {s : Shared} {g : Heap} {hl as : List Addr} {v1 v2 v u : Value} {x y z r : AV} {Q : Value → Shared → Prop} {F : Value} {vs : List Value}

theorem ints_rep : ∀ {ns : List Nat} {vs : List Value}, RepL C g as (ns.map fun (c : Nat) => .int c) vs → IntsAre vs (ns.map fun (c : Nat) => (c : Int))
  | [], _, h => by cases (h : _ = []); exact .nil
  | _ :: _, vs, h => by obtain ⟨_, r, ⟨t⟩, h3⟩ := (h : RCons (fun v => RInt _ v) _ vs); exact .cons _ _ (ints_rep h3)

/-- what is still to be shown of sorted(..) and dict(..) -/
noncomputable def SortedOk (C : SC) : Prop := ∀ (A : Around) (s : Shared) (hl as : List Addr) (v : Value) (kvs : List (List Int × List Nat)) (n : Nat), AOK n A → (∀ a ∈ hl, ∃ o, s.heap.get? a = some o) →
  RepD C s.heap (vis s.heap hl) as (.map kvs) v → kvs.length < 64 → (kvs.all fun kv => key2 kv.1) = true → WP C A (call (.builtin "sorted") [v]) (Res C hl as (.list ((sortK (kvs.map (·.1))).map toTupK)) s) s
noncomputable def DictOk (C : SC) : Prop := ∀ (A : Around) (s : Shared) (hl as : List Addr) (v : Value) (kvs : List (List Int × List Nat)) (n : Nat), AOK n A → (s.heap.objs.size == sysModules) = false → (∀ a ∈ hl, ∃ o, s.heap.get? a = some o) →
  RepD C s.heap (vis s.heap hl) as (.map kvs) v → kvs.length ≤ 1000 → hashesApart (kvs.map (·.1)) = true → WP C A (call (.type "dict") [v]) (Res C hl as (.map kvs) s) s

theorem new_list_res {h' : Heap} {vs : List Value} {xs : List AV} {k : Nat} (hf : ∀ a ∈ hl, ∃ o, s.heap.get? a = some o) (hk : ∀ b o, s.heap.get? b = some o → h'.get? b = some o) {o : Obj} (ho : h'.get? s.heap.objs.size = some o)
    (hc : o.cls = .type "list") (hd : o.data = .seq (List.toArray vs) k) (r : RepL C (vis s.heap hl) as xs vs) {t : Nat} : Res C hl as (.list xs) s (.ref s.heap.objs.size) { s with heap := h', toks := t } :=
  have K : Keeps s { s with heap := h', toks := t } := ⟨h', t, rfl, hk⟩
  ⟨K, RSeq.mk _ _ ⟨o, vis_new hf ho, hc, k, hd⟩ (RepL.mono (keeps_vis K) (Pre.refl _) _ _ r)⟩

theorem dl1 {h : Heap} (hh : RepDL C h g as [x] vs) (k : ∀ v, RepD C h g as x v → WP C A (call F [v]) Q s) : WP C A (call F vs) Q s := by
  obtain ⟨v, _, h1, rfl⟩ := (hh : RCons _ (fun r => r = []) vs); exact k v h1
theorem dl2 {h : Heap} (hh : RepDL C h g as [x, y] vs) (k : ∀ v u, RepD C h g as x v → RepD C h g as y u → WP C A (call F [v, u]) Q s) : WP C A (call F vs) Q s := by
  obtain ⟨v, _, h1, ⟨u, _, h2, rfl⟩⟩ := (hh : RCons _ (fun r => RCons _ (fun r => r = []) r) vs); exact k v u h1 h2
theorem dlI {h : Heap} {a : Int} (hh : RepDL C h g as [.int a] vs) (k : ∀ t, WP C A (call F [.int a t]) Q s) : WP C A (call F vs) Q s :=
  dl1 hh fun v h1 => by obtain ⟨t⟩ := (h1 : RInt _ v); exact k t
theorem dlII {h : Heap} {a b : Int} (hh : RepDL C h g as [.int a, .int b] vs) (k : ∀ t u, WP C A (call F [.int a t, .int b u]) Q s) : WP C A (call F vs) Q s :=
  dl2 hh fun v u h1 h2 => by obtain ⟨t⟩ := (h1 : RInt _ v); obtain ⟨t'⟩ := (h2 : RInt _ u); exact k t t'
theorem rng_res {a b c : Int} {t u w : Tok} {k : Nat} (hf : ∀ a ∈ hl, ∃ o, s.heap.get? a = some o) : Res C hl as (.rng a b c) s (.ref s.heap.objs.size) { s with heap := s.heap.push { cls := .type "range", data := .fields #[.int a t, .int b u, .int c w] }, toks := k } :=
  ⟨keeps_push s _ _, RRng.mk _ _ _ _ (vis_new hf (Heap.get?_push_size _ rfl))⟩
theorem le_tera {n : Nat} (h : n ≤ szl) : n ≤ 1099511627776 := Nat.le_trans (le_num h) (by decide)
theorem log_small {a : Nat} (h : a < 1000000) : (a : Int).natAbs.log2 < 1920 := by
  show a.log2 < 1920
  by_cases h0 : a = 0
  · subst h0; decide +kernel
  · exact Nat.lt_trans ((Nat.log2_lt h0).mpr (Nat.lt_trans h (by decide : 1000000 < 2 ^ 20))) (by decide)

theorem biOp_ok {n : Nat} {b : BI} {xs : List AV} (hS : SortedOk C) (hD : DictOk C) (hB : (s.heap.objs.size == sysModules) = false) (hA : AOK n A) (hf : ∀ a ∈ hl, ∃ o, s.heap.get? a = some o) (h1 : RepDL C s.heap (vis s.heap hl) as xs vs) (e : BiR b xs r) :
    WP C A (call b.val vs) (Res C hl as r s) s := by
  cases e with
  | lenL hz =>
    exact dl1 h1 fun v h1 => by
      obtain ⟨a, ws, l1, r1⟩ := (h1 : RSeq _ _ v)
      rw [← r1.len] at hz ⊢
      exact PyProof.Rows.len_list l1 (fit63 hz) Res.tokI
  | lenT hz =>
    exact dl1 h1 fun v h1 => by
      obtain ⟨a, ws, l1, r1⟩ := (h1 : RSeq _ _ v)
      rw [← r1.len] at hz ⊢
      exact len_tuple (tupIn (vis_sub _ _) l1) (fit63 hz) Res.tokI
  | lenB hz =>
    exact dl1 h1 fun v h1 => by
      obtain ⟨ba, t, rfl⟩ := (h1 : RByt _ v)
      rw [List.length_map] at hz ⊢
      exact len_bytes (le_tera hz) Res.tokI
  | lenS hz =>
    exact dl1 h1 fun v h1 => by
      obtain ⟨t⟩ := (h1 : RStr _ v)
      exact PySem.P.len_str (Int.not_le.mpr (fit63 hz)) Res.tokI
  | lenM hz =>
    exact dl1 h1 fun v h1 => by
      obtain ⟨a, m⟩ := (h1 : RRef _ v)
      obtain ⟨hs, o, es, ep, ho, hc, hd, hq⟩ := m.obj
      rw [← hq] at hz ⊢
      exact Calls.call_function_entry kind_len plain_len entry_len (args_len1 _) (len_body_map hs ho hc hd (fit63 hz) Res.tokI)
  | rng1 => exact dlI h1 fun t => call_range_1 (rng_res hf)
  | rng2 => exact dlII h1 fun t u => call_range_2 (rng_res hf)
  | rng3 hc hc' =>
    obtain ⟨_, _, ⟨t⟩, ⟨_, _, ⟨u⟩, ⟨_, _, ⟨w⟩, rfl⟩⟩⟩ := (h1 : RCons (fun v => RInt _ v) (fun r => RCons (fun v => RInt _ v) (fun r => RCons (fun v => RInt _ v) (fun r => r = []) r) r) vs)
    exact call_range_3 hc (rng_res hf) (.inl (PyProof.noPylong_small hc'))
  | sorted h h2 => exact dl1 h1 fun v h1 => hS A s hl as v _ n hA hf h1 h h2
  | abs => exact dlI h1 fun t => call_abs_int fun u tk => by rw [ite_abs']; exact Res.tokI
  | min => exact dlII h1 fun t u => min_two_ints hA.1 fun h' tk hk => ⟨⟨h', tk, rfl, hk⟩, by split <;> exact RInt.mk _⟩
  | int => exact dlI h1 fun t => call_int_int ⟨Keeps.refl s, RInt.mk _⟩
  | str h => exact dlI h1 fun t => P.str_of_int (log_small h) (by rw [dec_is]; exact Res.tokS)
  | chr h => exact dlI h1 fun t => chr_of_range (Int.natCast_nonneg _) (Int.ofNat_le.mpr (Nat.le_of_lt_succ h)) Res.tokS
  | ord => exact dl1 h1 fun v h1 => by obtain ⟨t⟩ := (h1 : RStr _ v); exact P.ord_of_char Res.tokI
  | bytes h h2 =>
    exact dl1 h1 fun v h1 => by
      obtain ⟨a, ws, l1, r1⟩ := (h1 : RSeq _ _ v)
      refine call_bytes_ints l1 (ints_rep r1) (fun n hn => ?_) (by rw [r1.len, List.length_map]; exact le_line h2) hA.1 fun h' t k hk => ⟨⟨h', k, rfl, hk⟩, RByt.mk _ _ ?_⟩
      · obtain ⟨c, hc, rfl⟩ := List.mem_map.mp hn
        exact ⟨Int.natCast_nonneg c, Int.ofNat_lt.mpr (h c hc)⟩
      · show List.map _ (List.map _ (List.map _ _)) = _
        rw [List.map_map, List.map_map]
        exact (List.map_congr_left (g := id) fun c hc => Nat.mod_eq_of_lt (h c hc)).trans (List.map_id _)
  | list hz =>
    exact dl1 h1 fun v h1 => by
      obtain ⟨a, ws, ⟨o, ho, hc, m, hd⟩, r1⟩ := (h1 : RSeq _ _ v)
      exact call_list_seq a (.inl rfl) ho hc hd (fun h' c' hk ho' => new_list_res hf hk ho' rfl rfl r1) (by rw [← r1.len] at hz; exact le_line hz)
  | tuple hz =>
    exact dl1 h1 fun v h1 => by
      obtain ⟨a, ws, l1, r1⟩ := (h1 : RSeq _ _ v)
      refine call_tuple_list l1 (fun h' hk => ?_) (by rw [← r1.len] at hz; exact le_line hz)
      have K : Keeps s { s with heap := h'.push { cls := .type "tuple", data := .seq ws.toArray } } := ⟨_, s.toks, rfl, fun b o e => Heap.get?_push_of_some _ (hk b o e)⟩
      exact ⟨K, RSeq.mk _ _ ⟨_, vis_new (fun a ha => let ⟨o, q⟩ := hf a ha; ⟨o, hk _ _ q⟩) (Heap.get?_push_size _ rfl), rfl, 0, rfl⟩ (RepL.mono (keeps_vis K) (Pre.refl _) _ _ r1)⟩
  | dict h h2 => exact dl1 h1 fun v h1 => hD A s hl as v _ n hA hB hf h1 h h2
end
theorem set_get {α : Type} {l : List α} {i j : Nat} {x p : α} (h : (l.set i x)[j]? = some p) : (j = i ∧ p = x) ∨ (j ≠ i ∧ l[j]? = some p) := by
  by_cases hj : i = j
  · subst hj
    rw [List.getElem?_set_self' (l := l)] at h
    obtain ⟨_, _, rfl⟩ := Option.map_eq_some_iff.mp h
    exact .inl ⟨rfl, rfl⟩
  · rw [List.getElem?_set_ne hj] at h; exact .inr ⟨fun e => hj e.symm, h⟩
theorem snoc_get {α : Type} {l : List α} {j : Nat} {x p : α} (h : (l ++ [x])[j]? = some p) : (j = l.length ∧ p = x) ∨ (j < l.length ∧ l[j]? = some p) := by
  rcases Nat.lt_or_ge j l.length with hj | hj
  · rw [List.getElem?_append_left hj] at h; exact .inr ⟨hj, h⟩
  · rw [List.getElem?_append_right hj] at h
    have := get_lt h
    have e : j - l.length = 0 := Nat.lt_one_iff.mp this
    rw [e] at h; cases h
    exact .inl ⟨Nat.le_antisymm (Nat.sub_eq_zero_iff_le.mp e) hj, rfl⟩
theorem take_get {α : Type} {l : List α} {n j : Nat} {p : α} (h : (l.take n)[j]? = some p) : j < n ∧ l[j]? = some p := by
  rw [List.getElem?_take] at h
  split at h
  · exact ⟨‹_›, h⟩
  · cases h

section
variable {C : SC} {hid hid' : List Addr} {s s' : Shared} {as as' : List Addr} {σ σ' : St} {i : Nat} {a : Addr} {o o' : OObj}

/-- one state after another -/
theorem OK.gen (k : OK C hid s as σ) (K : ∀ b ob, b ∉ hid → b ∉ alive as σ → s.heap.get? b = some ob → s'.heap.get? b = some ob)
    (hin : ∀ b, b ∈ hid' ∨ b ∈ alive as' σ' → ((b ∈ hid ∨ b ∈ alive as σ) ∨ s.heap.get? b = none) ∧ ∃ ob, s'.heap.get? b = some ob)
    (dj : ∀ b ∈ hid', b ∉ alive as' σ') (len : as'.length = σ'.length)
    (ap : ∀ (i j : Nat) (a : Addr) (o p : OObj), as'[i]? = some a → as'[j]? = some a → σ'[i]? = some o → σ'[j]? = some p → o.live = true → p.live = true → i = j)
    (own : ∀ (i : Nat) (a : Addr) (o : OObj), as'[i]? = some a → σ'[i]? = some o → (∃ j : Nat, as[j]? = some a ∧ σ[j]? = some o ∧ ∀ ob, s.heap.get? a = some ob → s'.heap.get? a = some ob) ∨ ObjRep C (gv hid s as σ) s'.heap a o) :
    OK C hid' s' as' σ' ∧ Sub (gv hid s as σ) (gv hid' s' as' σ') := by
  have nb : ∀ b, b ∈ hid' ∨ b ∈ alive as' σ' → C.H.get? b = none := fun b hb => (hin b hb).1.elim (fun q => k.free b (List.mem_append.mpr q)) fun q => by
    cases e : C.H.get? b with
    | none => rfl
    | some ob => exact ne_of_get q (k.base _ _ e)
  have S : Sub (gv hid s as σ) (gv hid' s' as' σ') := gv_mono fun b ob h1 h2 e =>
    have z : ¬ (b ∈ hid' ∨ b ∈ alive as' σ') := fun q => (hin b q).1.elim (fun q => q.elim h1 h2) fun q => ne_of_get q e
    ⟨K b ob h1 h2 e, fun q => z (.inl q), fun q => z (.inr q)⟩
  refine ⟨⟨fun b ob e => K b ob (fun q => ne_of_get (k.free b (List.mem_append_left _ q)) e) (fun q => ne_of_get (k.free b (List.mem_append_right _ q)) e) (k.base b ob e), fun b hb => (hin b (List.mem_append.mp hb)).2, fun b hb => nb b (List.mem_append.mp hb), dj, len, ap, fun i a o h1 h2 => ?_⟩, S⟩
  exact (own i a o h1 h2).elim (fun ⟨j, q1, q2, q3⟩ => (k.own j a o q1 q2).mono S q3) fun q => q.mono S fun _ e => e

theorem alive_set (hs : o'.live = true → a ∈ alive as σ) (ha : as[i]? = some a) {b : Addr} (hb : b ∈ alive as (σ.set i o')) : b ∈ alive as σ := by
  obtain ⟨j, p, h1, h2, h3⟩ := of_alive hb
  rcases set_get h2 with ⟨rfl, rfl⟩ | ⟨-, q⟩
  · rw [ha] at h1; cases h1; exact hs h3
  · exact alive_of h3 h1 q
theorem alive_take {n : Nat} {b : Addr} (hb : b ∈ alive (as.take n) (σ.take n)) : b ∈ alive as σ := by
  obtain ⟨j, p, h1, h2, h3⟩ := of_alive hb
  exact alive_of h3 (take_get h1).2 (take_get h2).2
theorem alive_snoc {b : Addr} (hl : as.length = σ.length) (hb : b ∈ alive (as ++ [a]) (σ ++ [o])) : b = a ∨ b ∈ alive as σ := by
  obtain ⟨j, p, h1, h2, h3⟩ := of_alive hb
  rcases snoc_get h1 with ⟨-, rfl⟩ | ⟨q, h1⟩
  · exact .inl rfl
  · rcases snoc_get h2 with ⟨e, -⟩ | ⟨-, h2⟩
    · rw [hl, e] at q; exact absurd q (Nat.lt_irrefl _)
    · exact .inr (alive_of h3 h1 h2)

/-- the after-state of a step on what is owned -/
noncomputable def Aft (C : SC) (hid : List Addr) (s : Shared) (as : List Addr) (σ : St) (as' : List Addr) (σ' : St) (s' : Shared) : Prop := OK C hid s' as' σ' ∧ Stp [] s as σ s' as' σ'
theorem sameBut_at {a : Addr} {h h' : Heap} (hs : Heap.SameBut a h h') : ∀ b ob, b ≠ a → h.get? b = some ob → h'.get? b = some ob := fun b ob hb e => (hs.2 b hb).trans e

/-- the object at i may be changed to o', which may be dead -/
theorem OK.put (k : OK C hid s as σ) (ha : as[i]? = some a) (hs : o'.live = true → o.live = true) (ho : σ[i]? = some o) {h' : Heap} {t : Nat}
    (hk : ∀ b ob, (o.live = true → b ≠ a) → s.heap.get? b = some ob → h'.get? b = some ob) (hex : o.live = true → ∃ ob, h'.get? a = some ob) (hr : ObjRep C (gv hid s as σ) h' a o') :
    Aft C hid s as σ as (σ.set i o') { s with heap := h', toks := t } ∧ Sub (gv hid s as σ) (gv hid { s with heap := h', toks := t } as (σ.set i o')) := by
  have al : ∀ {b}, b ∈ alive as (σ.set i o') → b ∈ alive as σ := alive_set (fun q => alive_of (hs q) ha ho) ha
  have nea : ∀ {b}, b ∉ alive as σ → o.live = true → b ≠ a := fun h q e => h (e ▸ alive_of q ha ho)
  have g := k.gen (hid' := hid) (s' := { s with heap := h', toks := t }) (as' := as) (σ' := σ.set i o') (fun b ob _ h2 e => hk b ob (nea h2) e) (fun b hb => ⟨.inl (hb.imp id al), by
      have : b ∈ hid ∨ b ∈ alive as σ := hb.imp id al
      obtain ⟨ob, e⟩ := k.inh b (List.mem_append.mpr this)
      by_cases hba : o.live = true → b ≠ a
      · exact ⟨ob, hk b ob hba e⟩
      · obtain ⟨q1, q2⟩ := Classical.not_imp.mp hba
        rw [Classical.not_not.mp q2]; exact hex q1⟩)
    (fun b hb q => k.dj b hb (al q)) (by rw [List.length_set]; exact k.len)
    (fun i' j b p q h1 h2 h3 h4 h5 h6 => by
      rcases set_get h3 with ⟨rfl, rfl⟩ | ⟨-, g3⟩ <;> rcases set_get h4 with ⟨rfl, rfl⟩ | ⟨-, g4⟩
      · rfl
      · exact k.ap _ j b o q h1 h2 ho g4 (hs h5) h6
      · exact k.ap i' _ b p o h1 h2 g3 ho h5 (hs h6)
      · exact k.ap i' j b p q h1 h2 g3 g4 h5 h6)
    (fun j b p h1 h2 => by
      rcases set_get h2 with ⟨rfl, rfl⟩ | ⟨hj, h2⟩
      · rw [ha] at h1; cases h1; exact .inr hr
      · cases hp : p.live with
        | false => cases p <;> first | exact .inr trivial | cases hp
        | true => exact .inl ⟨j, h1, h2, fun ob e => hk b ob (fun q e => hj (k.ap j i b p o h1 (e ▸ ha) h2 ho hp q)) e⟩)
  exact ⟨⟨g.1, ⟨_, _, rfl⟩, fun b ob _ h2 e => hk b ob (nea h2) e, fun b hb => .inl (al hb), Pre.refl _⟩, g.2⟩
theorem OK.setOwn (k : OK C hid s as σ) (ha : as[i]? = some a) (ho : σ[i]? = some o) (hd : o.live = true) {h' : Heap} {t : Nat} (hs : Heap.SameBut a s.heap h') {ob : Obj} (hex : h'.get? a = some ob)
    (hr : ∀ g, Sub (gv hid s as σ) g → ObjRep C g h' a o') : Aft C hid s as σ as (σ.set i o') { s with heap := h', toks := t } :=
  (k.put ha (fun _ => hd) ho (fun b ob q => sameBut_at hs b ob (q hd)) (fun _ => ⟨_, hex⟩) (hr _ (Sub.refl _))).1
theorem own_list {v : Value} {xs : List AV} (k : OK C hid s as σ) (r : Rep C (gv hid s as σ) as (.own i) v) (ho : σ[i]? = some (.list xs)) : RRef (fun a => as[i]? = some a ∧ ∃ vs, s.heap.PlainList a (List.toArray vs) ∧ RepL C (gv hid s as σ) [] xs vs) v := by
  obtain ⟨a, ha⟩ := (r : RRef _ v); exact ⟨a, ha, k.own i a _ ha ho⟩

/-- a new object is owned -/
theorem OK.newOwn (k : OK C hid s as σ) (hd : o.live = true) {h' : Heap} {t : Nat} (hn : s.heap.get? a = none)
    (hk : ∀ b ob, s.heap.get? b = some ob → h'.get? b = some ob) {ob : Obj} (hex : h'.get? a = some ob) (hr : ObjRep C (gv hid s as σ) h' a o) :
    Aft C hid s as σ (as ++ [a]) (σ ++ [o]) { s with heap := h', toks := t } := by
  have old : ∀ {b}, b ∈ hid ∨ b ∈ alive as σ → b ≠ a := fun h e => let ⟨_, q⟩ := k.inh _ (List.mem_append.mpr h); ne_of_get hn (e ▸ q)
  have oldi : ∀ {j : Nat} {b p}, as[j]? = some b → σ[j]? = some p → p.live = true → b ≠ a := fun h1 h2 h3 => old (.inr (alive_of h3 h1 h2))
  refine ⟨(k.gen (hid' := hid) (s' := { s with heap := h', toks := t }) (fun b ob _ _ e => hk b ob e) (fun b hb => ?_) (fun b hb q => ?_) (by rw [List.length_append, List.length_append, k.len]; rfl) (fun i' j b p q h1 h2 h3 h4 h5 h6 => ?_) (fun j b p h1 h2 => ?_)).1,
    ⟨_, _, rfl⟩, fun b ob _ _ e => hk b ob e, fun b hb => ?_, fun j b h => by rw [List.getElem?_append_left (get_lt h)]; exact h⟩
  · have : b = a ∨ b ∈ hid ∨ b ∈ alive as σ := hb.elim (fun q => .inr (.inl q)) fun q => (alive_snoc k.len q).imp id .inr
    rcases this with rfl | q
    · exact ⟨.inr hn, _, hex⟩
    · obtain ⟨ob, e⟩ := k.inh b (List.mem_append.mpr q)
      exact ⟨.inl q, ob, hk b ob e⟩
  · exact (alive_snoc k.len q).elim (old (.inl hb)) (k.dj b hb)
  · rcases snoc_get h3 with ⟨e3, rfl⟩ | ⟨l3, g3⟩ <;> rcases snoc_get h4 with ⟨e4, rfl⟩ | ⟨l4, g4⟩
    · rw [e3, e4]
    · rw [e3, ← k.len, List.getElem?_concat_length] at h1; cases h1
      rcases snoc_get h2 with ⟨e, -⟩ | ⟨-, g2⟩
      · rw [e, k.len] at l4; exact absurd l4 (Nat.lt_irrefl _)
      · exact absurd rfl (oldi g2 g4 h6)
    · rw [e4, ← k.len, List.getElem?_concat_length] at h2; cases h2
      rcases snoc_get h1 with ⟨e, -⟩ | ⟨-, g1⟩
      · rw [e, k.len] at l3; exact absurd l3 (Nat.lt_irrefl _)
      · exact absurd rfl (oldi g1 g3 h5)
    · rw [List.getElem?_append_left (k.len ▸ l3)] at h1
      rw [List.getElem?_append_left (k.len ▸ l4)] at h2
      exact k.ap i' j b p q h1 h2 g3 g4 h5 h6
  · rcases snoc_get h2 with ⟨e, rfl⟩ | ⟨l, h2⟩
    · rw [e, ← k.len, List.getElem?_concat_length] at h1; cases h1; exact .inr hr
    · rw [List.getElem?_append_left (k.len ▸ l)] at h1
      exact .inl ⟨j, h1, h2, fun ob e => hk b ob e⟩
  · exact (alive_snoc k.len hb).elim (fun q => .inr (q ▸ hn)) .inl

theorem OK.cut (k : OK C hid s as σ) (n : Nat) : OK C hid s (as.take n) (σ.take n) ∧ Sub (gv hid s as σ) (gv hid s (as.take n) (σ.take n)) :=
  k.gen (fun _ _ _ _ e => e) (fun b hb => have q := hb.imp id alive_take; ⟨.inl q, k.inh b (List.mem_append.mpr q)⟩) (fun b hb q => k.dj b hb (alive_take q)) (by rw [List.length_take, List.length_take, k.len])
    (fun i j b p q h1 h2 h3 h4 => k.ap i j b p q (take_get h1).2 (take_get h2).2 (take_get h3).2 (take_get h4).2) fun j b p h1 h2 => .inl ⟨j, (take_get h1).2, (take_get h2).2, fun _ e => e⟩

/-- what is frozen is seen -/
theorem OK.kill (k : OK C hid s as σ) (ha : as[i]? = some a) (ho : σ[i]? = some o) (hd : o.live = true) : Aft C hid s as σ as (σ.set i .dead) s ∧ Sub (gv hid s as σ) (gv hid s as (σ.set i .dead)) ∧ a ∉ hid ∧ a ∉ alive as (σ.set i .dead) := by
  have g := k.put (h' := s.heap) (t := s.toks) ha (o' := .dead) nofun ho (fun _ _ _ e => e) (fun _ => k.inh a (List.mem_append_right _ (alive_of hd ha ho))) trivial
  refine ⟨g.1, g.2, fun q => k.dj a q (alive_of hd ha ho), fun q => ?_⟩
  obtain ⟨j, p, h1, h2, h3⟩ := of_alive q
  rcases set_get h2 with ⟨rfl, rfl⟩ | ⟨hj, h2⟩
  · cases h3
  · exact hj (k.ap j i a p o h1 ha h2 ho h3 hd)
theorem frz_ok (k : OK C hid s as σ) {x x' : AV} {v : Value} (r : Rep C (gv hid s as σ) as x v) (e : FrzR σ x x' σ') : Aft C hid s as σ as σ' s ∧ Rep C (gv hid s as σ') as x' v := by
  cases e with
  | same h => exact ⟨⟨k, Stp.refl _ _ _ _⟩, r⟩
  | list h =>
    obtain ⟨a, ha, vs, ⟨n, ho⟩, h2⟩ := own_list k r h
    obtain ⟨q1, q2, q3, q4⟩ := k.kill ha h rfl
    exact ⟨q1, RSeq.mk a vs ⟨_, gv_get ho q3 q4, rfl, n, rfl⟩ (RepL.mono q2 Pre.nil _ _ h2)⟩
  | map h =>
    obtain ⟨a, ha⟩ := (r : RRef _ v)
    obtain ⟨q1, q2, q3, q4⟩ := k.kill ha h rfl
    exact ⟨q1, RRef.mk a (MapRep.mono (k.own _ a _ ha h) (fun _ e => gv_get e q3 q4) q2)⟩
end
theorem list_extend_meets (l : Addr) (items : Array Value) (n : Nat) (b : Addr) (dd : Option Addr) (sl : Array (Option Value)) (items2 : Array Value) (n2 : Nat) (hc0 : ¬(!items.isEmpty && Builtin.List.listTooLong (items.size + items2.size)) = true) (hc1 : items.size ≤ sizeLine) (hs2 : items.size + items2.size ≤ sizeLine + 1) :
    Meets (Builtin.«list.extend» ⟨[.ref l, .ref b], []⟩) (fun _ R s => s.heap.get? l = some { cls := .type "list", dict := none, data := .seq items n, slots := #[] } ∧ s.heap.get? b = some { cls := .type "list", dict := dd, data := .seq items2 n2, slots := sl } ∧ R (.ok (.ret Value.none)) { s with heap := s.heap.update l (Obj.mapSeq fun x => x ++ items2), toks := s.toks }) :=
  .of_wp fun prog w A R s h => by
    obtain ⟨hp, g, d, tk, os⟩ := s; obtain ⟨hl, hb, h⟩ := h; have f1 := AutoSeq1.idx_int; have f2 := AutoSeq1.sub_tuple_tuple; have f3 := AutoSeq1.sub_list_list; have f4 := AutoSeq1.sub_tuple_list; have f5 := AutoSeq1.sub_list_tuple;
    have hz' : (items ++ items2).size ≤ sizeLine + 1 := by rw [Array.size_append]; exact hs2
    wp_walk using (wpAny_updateSeq hl rfl (hz := hc1) (_hz' := hz')), AutoSeq1.wpAny_loadPart' hl, AutoSeq1.wpAny_loadPart' hb; exact ⟨_, rfl, h⟩

section
variable {C : SC} {A : Around} {s : Shared} {g : Heap} {hid as : List Addr} {σ σ' : St} {v1 v2 v u w : Value} {x y r : AV} {E : Value → Shared → Prop} {Q : Value → Shared → Prop}

theorem lt_line {n : Nat} (h : n < szl) : n < sizeLine := szl_is ▸ h
/-- what a step on what is owned gives back -/
noncomputable def GP (C : SC) (hid : List Addr) (s : Shared) (as : List Addr) (σ σ' : St) (r : Value) (s' : Shared) : Prop := r = .none ∧ Aft C hid s as σ as σ' s'
theorem append_ok {vs : List Value} {xs : List AV} (k : OK C hid s as σ) (h1 : Rep C (gv hid s as σ) as x v) (h2 : RepL C (gv hid s as σ) as xs vs) (e : GrowR σ .append x xs σ') : WP C A (call (.builtin "list.append") (v :: vs)) (GP C hid s as σ σ') s := by
  cases e with
  | append h hf hl =>
    obtain ⟨a, ha, ws, hp, hr⟩ := own_list k h1 h
    obtain ⟨w, _, h2, rfl⟩ := (h2 : RCons _ (fun r => r = []) vs)
    refine wpAny_list_append_plain hp (fun h' hp' hs => ⟨rfl, ?_⟩) (by show ws.length ≤ _; rw [hr.len]; exact Nat.le_of_lt (lt_line hl))
    rw [List.push_toArray] at hp'
    obtain ⟨n, ho⟩ := hp'
    exact k.setOwn ha h rfl hs ho fun g sg => ⟨ws ++ [w], ⟨n, ho⟩, RepL.mono sg (Pre.refl _) _ _ (hr.append (RCons.mk w [] (Rep.noown hf h2) rfl))⟩
theorem extend_ok {vs : List Value} {xs : List AV} (k : OK C hid s as σ) (h1 : Rep C (gv hid s as σ) as x v) (h2 : RepDL C s.heap (gv hid s as σ) as xs vs) (e : GrowR σ .extend x xs σ') : WP C A (call (.builtin "list.extend") (v :: vs)) (GP C hid s as σ σ') s := by
  cases e with
  | extend h hf hl =>
    obtain ⟨a, ha, ws, ⟨n, ho⟩, hr⟩ := own_list k h1 h
    obtain ⟨_, _, ⟨b, us, ⟨⟨bc, bd, bda, bs⟩, ho2, hc2, n2, hd2⟩, hbr⟩, rfl⟩ := (h2 : RCons (fun v => RSeq _ _ v) (fun r => r = []) vs)
    cases hc2; cases hd2
    have hsz : ws.toArray.size + us.toArray.size ≤ sizeLine := by show ws.length + us.length ≤ _; rw [hr.len, hbr.len]; exact le_line hl
    refine call_meets PySem.F.slot_list_extend ⟨_, ho, rfl⟩ PySem.F.entry_list_extend (PySem.F.args_list_extend_2 _ _) (list_extend_meets a ws.toArray n b bd bs us.toArray n2 (extend_door hsz) (Nat.le_trans (Nat.le_add_right _ _) hsz) (Nat.le_succ_of_le hsz)) ⟨ho, ho2, rfl, ?_⟩
    have ho' : (s.heap.update a (Obj.mapSeq fun x => x ++ us.toArray)).get? a = some { cls := .type "list", data := .seq (ws ++ us).toArray (if (ws.toArray ++ us.toArray).size == ws.toArray.size then n else n + 1) } := by
      rw [Heap.get?_update_self _ ho (by rw [mapSeq_app]; rfl), mapSeq_app, List.append_toArray]
    exact k.setOwn ha h rfl (Heap.SameBut.update ..) ho' fun g sg => ⟨ws ++ us, ⟨_, ho'⟩, RepL.mono sg (Pre.refl _) _ _ (hr.append (RepL.noown hf hbr))⟩

theorem atKey_cons (k' k : List Int) (av : Addr × Value) (xs : List (List Int × Addr × Value)) : atKey ((k', av) :: xs) k = if k' = k then some av else atKey xs k := by
  unfold atKey
  rw [List.find?_cons]
  by_cases h : k' = k
  · rw [decide_eq_true h, if_pos h]; rfl
  · rw [decide_eq_false h, if_neg h]
theorem storedH_cons (k' k : List Int) (b a : Addr) (u v : Value) (xs : List (List Int × Addr × Value)) (hn : k' ∉ xs.map (·.1)) : storedH ((k', b, u) :: xs) k a v = if k' = k then (k', b, v) :: xs else (k', b, u) :: storedH xs k a v := by
  unfold storedH
  rw [atKey_cons]
  by_cases h : k' = k
  · rw [if_pos h, if_pos h]
    show List.map _ (_ :: xs) = _
    rw [List.map_cons]
    have e : xs.map (putAt k v) = xs := (List.map_congr_left (g := id) fun x hx => if_neg fun q : x.1 = k => hn (h ▸ q ▸ List.mem_map_of_mem hx)).trans (List.map_id _)
    rw [e]
    exact congrArg (· :: xs) (if_pos h)
  · rw [if_neg h, if_neg h]
    by_cases hk : (atKey xs k).isSome
    · rw [if_pos hk, if_pos hk, List.map_cons]
      exact congrArg (· :: _) (if_neg h)
    · rw [if_neg hk, if_neg hk]; rfl
theorem RepM.put {k : List Int} {t : List Nat} {a : Addr} {tk : Tok} : ∀ {kvs : List (List Int × List Nat)} {xs : List (List Int × Addr × Value)}, RepM kvs xs → (xs.map (·.1)).Nodup → RepM (putM k t kvs) (storedH xs k a (.str ⟨t.toArray⟩ tk))
  | [], _, h, _ => by cases (h : _ = []); exact ⟨a, tk, [], rfl, rfl⟩
  | (k', z) :: kvs, _, h, hn => by
    obtain ⟨b, t', r, rfl, h⟩ := h
    have hn := List.nodup_cons.mp hn
    rw [storedH_cons _ _ _ _ _ _ _ hn.1]
    unfold putM
    by_cases hk : k' = k
    · rw [if_pos hk, if_pos hk, ← hk]; exact ⟨b, tk, r, rfl, h⟩
    · rw [if_neg hk, if_neg hk]; exact ⟨b, t', _, rfl, RepM.put h hn.2⟩

theorem setPlain {l : Addr} {items : Array Value} {k : Int} {t : Tok} {v : Value} {Q : Unit → Shared → Prop} (hl : s.heap.PlainList l items) (h0 : 0 ≤ k) (hfit : k < 2 ^ 63) (hn : k < items.size)
    (hQ : ∀ h', h'.PlainList l (items.setIfInBounds k.toNat v) → Heap.SameBut l s.heap h' → Q () { s with heap := h' }) : WP C A (setItem (.ref l) (.int k t) v) Q s := by
  obtain ⟨n, ho⟩ := id hl
  unfold setItem
  refine wpAny_holding ?_
  refine wpAny_bind (wpAny_sequenceKey hl.isList.typeIs (by decide) ?_)
  refine wpAny_bind (wpAny_callSpecial?_slot (name := Str.ofString "__setitem__") hl.isList.typeIs slot_list_setitem
    (wpAny_call_entry slot_list_setitem hl.isList.typeIs entry_list_setitem ?_ (args_list_setitem _ _ _)))
  show wpAny _ _ (Builtin.List.listSubscript? (.int k t) >>= _) _ _ s
  refine wpAny_bind (wpAny_listSubscript_int (fitsIndex_of h0 hfit) ?_)
  obtain ⟨j, rfl⟩ := Int.eq_ofNat_of_zero_le h0
  have hx' : items[j]? = some (items[j]'(Int.ofNat_lt.mp hn)) := Array.getElem?_eq_getElem _
  show wpAny _ _ ((seqItemAt l j >>= fun r => pure (r.map (j, ·))) >>= _) _ _ s
  refine wpAny_bind (wpAny_bind (wpAny_seqItemAt ho rfl (wpAny_pure ?_)))
  rw [hx']
  show wpAny _ _ (setSeqItemAt l j v >>= _) _ _ s
  obtain ⟨n', hd'⟩ := Obj.data_mapSeq (o := { cls := .type "list", data := .seq items n }) rfl (·.setIfInBounds j v)
  refine wpAny_bind (wpAny_setSeqItemAt ho rfl (wpAny_bind (wpAny_pure (wpAny_pure ⟨.none, rfl, wpAny_pure (hQ _ ⟨n', ?_⟩ (Heap.SameBut.update ..))⟩))))
  rw [Heap.get?_update_self _ ho (Obj.isFreed_of_seq hd')]
  exact congrArg (fun d : Data => some ({ cls := .type "list", data := d } : Obj)) hd'

theorem RepL.set : ∀ {xs : List AV} {vs : List Value} {i : Nat} {x : AV} {v : Value}, RepL C g as xs vs → Rep C g as x v → RepL C g as (xs.set i x) (vs.set i v)
  | [], _, _, _, _, h, _ => by cases (h : _ = []); exact rfl
  | y :: xs, vs, 0, _, _, h, hx => by obtain ⟨w, r, h2, h3⟩ := (h : RCons _ _ vs); exact RCons.mk _ r hx h3
  | y :: xs, vs, i + 1, _, _, h, hx => by obtain ⟨w, r, h2, h3⟩ := (h : RCons _ _ vs); exact RCons.mk w _ h2 (RepL.set h3 hx)

theorem seti_ok (hA : A.units + 16 < cLine) (k : OK C hid s as σ) (h0 : Rep C (gv hid s as σ) as r w) (h1 : Rep C (gv hid s as σ) as x v) (h2 : Rep C (gv hid s as σ) as y u) (e : SetiR σ r x y σ') :
    WP C A (setItem v u w) (fun _ s' => Aft C hid s as σ as σ' s') s := by
  cases e with
  | list h hf g0 g1 hl =>
    obtain ⟨a, ha, ws, hp, hr⟩ := own_list k h1 h
    obtain ⟨t⟩ := (h2 : RInt _ u)
    rw [← hr.len] at g1 hl
    refine setPlain hp g0 (Int.lt_trans g1 (fit63 hl)) g1 fun h' hp' hs => ?_
    rw [List.setIfInBounds_toArray] at hp'
    obtain ⟨n, ho⟩ := hp'
    exact k.setOwn ha h rfl hs ho fun g sg => ⟨_, ⟨n, ho⟩, RepL.mono sg (Pre.refl _) _ _ (RepL.set hr (Rep.noown hf h0))⟩
  | map h hl =>
    obtain ⟨d, ha⟩ := (h1 : RRef _ v)
    obtain ⟨hsm, xs, o, es, ep, ho, hex, hd, he, hi, hn, hm⟩ := k.own _ d _ ha h
    obtain ⟨a, hka⟩ := tupK_rep h2
    obtain ⟨t⟩ := (h0 : RStr _ w)
    refine wpAny_setItem_heap (xs := xs) (room_of hA) (tk_mono gv_sub hka) ⟨o, es, ep, ho, hex, hd, he, fun x hx => tk_mono gv_sub (hi x hx), hn⟩ (fun h' hd' hs => ?_) (by rw [hm.len]; exact Nat.le_of_lt (lt_line hl))
    obtain ⟨o', es', ep', ho', hex', hdd', he', hi', hn'⟩ := hd'
    refine k.setOwn ha h rfl hs ho' fun g sg => ⟨hsm, _, o', es', ep', ho', hex', hdd', he', fun x hx => ?_, hn', RepM.put hm hn⟩
    rcases mem_storedH hx with ⟨y, hy, e1, e2⟩ | ⟨e1, e2⟩
    · rw [e1, e2]; exact tk_mono sg (hi y hy)
    · rw [e1, e2]; exact tk_mono sg hka

/-! attributes -/
structure ClsOk (C : SC) (c : Cls) : Prop where
  ga : findIn C.K (.ref (C.cls c)) "__getattribute__" = some (some (.builtin "object.__getattribute__"))
  gx : findIn C.K (.ref (C.cls c)) "__getattr__" = some none
  sa : findIn C.K (.ref (C.cls c)) "__setattr__" = some (some (.builtin "object.__setattr__"))
  po : plainOver C.K (C.cls c) = true
  hd : hasDictIn C.K (C.cls c) = true
  attr : ∀ a : Atr, findIn C.K (.ref (C.cls c)) a.nm = some none
  mk_ : makesIn C.K (C.cls c) = true

theorem nm_eq (a b : Atr) : (b.nm == a.nm) = (a == b) := by cases a <;> cases b <;> decide +kernel
theorem nm_is (a b : Atr) (t : Tok) : Value.isStr (.str b.nm t) a.nm = (a == b) := nm_eq a b
theorem getL_cons (nm : Str) (e : DictEntry) (es : List DictEntry) (h : e.refKey = false) : getL nm (e :: es) = if e.key.isStr nm then some (some e.val) else getL nm es := by
  unfold getL
  rw [List.find?_cons, List.any_cons, h]
  cases e.key.isStr nm <;> rfl
theorem RepF.get {a : Atr} {x : AV} : ∀ {fl : List (Atr × AV)} {es : List DictEntry}, RepF C g as fl es → fl.lookup a = some x → ∃ v, getL a.nm es = some (some v) ∧ Rep C g as x v
  | [], _, _, e => nomatch e
  | (b, y) :: fl, es, h, e => by
    obtain ⟨hs, t, v, r, h2, h3⟩ := (h : RConsF _ _ _ es)
    rw [getL_cons _ _ _ rfl, nm_is]
    rw [List.lookup_cons] at e
    cases hb : a == b with
    | true => rw [hb] at e; cases e; exact ⟨v, rfl, h2⟩
    | false => rw [hb] at e; exact RepF.get h3 e
theorem RepF.fine {name : Str} : ∀ {fl : List (Atr × AV)} {es : List DictEntry}, RepF C g as fl es → es.length = fl.length ∧ (getL name es).isSome = true ∧ ((∀ a : Atr, a.nm ≠ name) → getL name es = some none)
  | [], es, h => by cases (h : es = []); exact ⟨rfl, rfl, fun _ => rfl⟩
  | (b, y) :: fl, es, h => by
    obtain ⟨hs, t, v, r, h2, h3⟩ := (h : RConsF _ _ _ es)
    obtain ⟨q1, q2, q3⟩ := RepF.fine (name := name) h3
    refine ⟨congrArg Nat.succ q1, ?_, fun hn => ?_⟩ <;> rw [getL_cons _ _ _ rfl]
    · split
      · rfl
      · exact q2
    · have : Value.isStr (.str b.nm t) name = false := beq_eq_false_iff_ne.mpr (hn b)
      rw [this]; exact q3 hn
theorem RepF.put {a : Atr} {hs : Int} {t : Tok} {w : Value} (hw : Rep C g as r w) : ∀ {fl : List (Atr × AV)} {es : List DictEntry}, RepF C g as fl es → RepF C g as (putF a r fl) (putL a.nm hs (.str a.nm t) w es)
  | [], es, h => by cases (h : es = []); exact RConsF.mk hs t w [] hw rfl
  | (b, y) :: fl, es, h => by
    obtain ⟨hs', t', v, r', h2, h3⟩ := (h : RConsF _ _ _ es)
    unfold putF putL
    rw [nm_is]
    by_cases hab : b = a
    · subst hab; rw [if_pos rfl, if_pos (beq_self_eq_true b)]; exact RConsF.mk hs' t' w r' hw h3
    · rw [if_neg hab, if_neg fun q => hab (eq_of_beq q).symm]; exact RConsF.mk hs' t' v _ h2 (RepF.put hw h3)
theorem putL_len (name : Str) (hsh : Int) (key v : Value) : ∀ es : List DictEntry, (putL name hsh key v es).length ≤ es.length + 1
  | [] => Nat.le_refl _
  | e :: r => by
    unfold putL
    split
    · exact Nat.le_succ _
    · exact Nat.succ_le_succ (putL_len name hsh key v r)

theorem handedIn_of (h : Rep C g as x v) : handedIn v = true := by
  cases x with
  | undef => exact False.elim h
  | none => cases (h : v = _); rfl
  | bool => cases (h : v = _); rfl
  | int => cases (h : RInt _ v); rfl
  | str => cases (h : RStr _ v); rfl
  | bytes => cases (h : RByt _ v); rfl
  | tup => cases (h : RSeq _ _ v); rfl
  | list => cases (h : RSeq _ _ v); rfl
  | map => cases (h : RRef _ v); rfl
  | inst => cases (h : RInst _ _ _ v); rfl
  | rng => cases (h : RRng _ _ _ _ v); rfl
  | own => cases (h : RRef _ v); rfl
  | cur => cases (h : RCur _ _ _ v); rfl

/-- the object behind a value -/
inductive InsP (C : SC) (g : Heap) (s : Shared) (as : List Addr) (a : Atr) (r : AV) : Value → Prop
  | mk (c : Cls) (z d : Addr) (n : Nat) (es : List DictEntry) (fl : List (Atr × AV)) (ob : Obj) (I : InstAt s.heap z ob (C.cls c) (some (dictOf es n))) (hr : RepF C g as fl es) (hl : fl.lookup a = some r) : InsP C g s as a r (.ref z)
theorem inst_at {a : Atr} (k : OK C hid s as σ) (h1 : Rep C (gv hid s as σ) as x v) (e : AttR σ a x r) : InsP C (gv hid s as σ) s as a r v := by
  cases e with
  | inst h =>
    obtain ⟨z, d, es, ⟨sl, h2⟩, ⟨n, h3⟩, h4⟩ := (h1 : RInst _ _ _ v)
    exact ⟨_, z, d, n, es, _, _, ⟨gv_h h2, rfl, rfl, gv_h h3⟩, h4, h⟩
  | cur h h' =>
    obtain ⟨z, d, ⟨sl, h2⟩, hd⟩ := (h1 : RCur _ _ _ v)
    obtain ⟨es, ⟨n, h3⟩, h4⟩ := k.own _ d _ hd h
    exact ⟨_, z, d, n, es, _, _, ⟨gv_h h2, rfl, rfl, h3⟩, RepF.mono (Sub.refl _) Pre.nil _ _ h4, h'⟩
theorem OK.X (k : OK C hid s as σ) : C.K.In s.heap := fun b o e => k.base _ _ (C.X b o e)
theorem att_ok {a : Atr} {expr : Bool} (hK : ∀ c, ClsOk C c) (k : OK C hid s as σ) (h1 : Rep C (gv hid s as σ) as x v) (e : AttR σ a x r) :
    WP C A (getAttr v a.nm expr) (fun u s' => s' = { s with toks := s.toks + 1 } ∧ Rep C (gv hid s as σ) as r u) s := by
  obtain ⟨c, z, d, n, es, fl, ob, I, hr, hl⟩ := inst_at k h1 e
  obtain ⟨w, hw, rw'⟩ := hr.get hl
  exact get_value k.X I (hK c).ga (findObj_own (hK c).hd ((hK c).attr a) rfl hw) (handedIn_of rw') ⟨rfl, rw'⟩

theorem osa_raw {ox : Obj} {dx x Cl : Addr} {K : Frag} {name : Str} {tk : Tok} {v : Value} {es : List DictEntry} {n : Nat} {prog : Program} {w : World} {R : Result → Shared → Prop} (X : K.In s.heap)
    (I : InstAt s.heap x ox Cl (some (dictOf es n))) (hd : ox.dict = some dx) (hp : plainOver K Cl = true) (ht : takerIn K Cl name = some none) (hh : (clsIn K Cl).any (·.hasDict) = true)
    (hl : (getL name es).isSome = true) (hz : es.length ≤ 8)
    (h : ∀ h' es' n', Heap.SameBut dx s.heap h' → es' = putL name (PyData.keyHash w.params name) (.str name s.toks) v es → h'.get? dx = some (dictOf es' n') → R (.ok (.ret .none)) { s with heap := h', toks := s.toks + 1 }) :
    codeAny (model prog w) A (.call (.builtin "object.__setattr__") ⟨[.ref x, .str name tk, v], []⟩) R s := by
  refine osa_open X I hp ht fun b => ?_
  obtain ⟨cd, hc, hd'⟩ := any_some hh
  obtain ⟨hx, hcl, hn, hdd⟩ := I
  obtain ⟨oc, odi, oda, osl⟩ := ox
  cases hcl; cases hd
  have D : s.heap.get? dx = some (dictOf es n) := hdd
  have e1 := putName_dict name (PyData.keyHash w.params name) (.str name s.toks) v es n
  have D' : (s.heap.update dx (Obj.putName name (PyData.keyHash w.params name) (.str name s.toks) v)).get? dx = some (dictOf (putL name (PyData.keyHash w.params name) (.str name s.toks) v es) (putN name es n)) := by
    rw [Heap.get?_update_self _ D (by rw [e1]; rfl), e1]
  refine wpAny_bind (wpAny_pure (wpAny_bind (wpAny_bind (wpAny_loadPart hx (wpAny_bind ((looks_clsIn X hc).here ?_))))))
  rw [hd']
  refine wpAny_pure (a := some dx) (wpAny_bind (wpAny_pure (wpAny_bind ?_)))
  unfold nsSet
  refine wpAny_bind (wpAny_bind (wpAny_askSetting (wpAny_pure (wpAny_bind (wpAny_mkText (wpAny_bind (wpAny_loadPart D ?_)))))))
  dsimp only
  have c : (!es.toArray.any (·.key.isStr name) && es.toArray.any (·.refKey)) = false := by
    rw [← Array.any_toList, ← Array.any_toList]
    unfold getL at hl
    split at hl
    · rename_i en he
      rw [List.any_eq_true.mpr ⟨en, List.mem_of_find?_eq_some he, List.find?_some he⟩]; rfl
    · split at hl
      · cases hl
      · rename_i z; rw [Bool.not_eq_true] at z; rw [z, Bool.and_false]
  rw [aRefKeyMayBeTheName_at, c]
  refine wpAny_updatePart D ?_
  refine wpAny_bind (wpAny_lookBehind D' (pastItsLine_dict (Nat.le_trans (putL_len name _ _ v es) (Nat.le_trans (Nat.succ_le_succ hz) (by decide)))) ?_)
  exact wpAny_pure (h _ _ _ (Heap.SameBut.update ..) rfl D')

theorem seta_ok {a : Atr} (hK : ∀ c, ClsOk C c) (k : OK C hid s as σ) (h0 : Rep C (gv hid s as σ) as r w) (h1 : Rep C (gv hid s as σ) as x v) (e : SetaR σ a r x σ') :
    WP C A (setAttr v a.nm w) (fun _ s' => Aft C hid s as σ as σ' s') s := by
  cases e with
  | mk h hf hl =>
    rename_i c i fl
    obtain ⟨z, d, ⟨sl, h2⟩, hd⟩ := (h1 : RCur _ _ _ v)
    obtain ⟨es, ⟨n, h3⟩, h4⟩ := k.own i d _ hd h
    have I : InstAt s.heap z ⟨.ref (C.cls c), some d, .plain, sl⟩ (C.cls c) (some (dictOf es n)) := ⟨gv_h h2, rfl, rfl, h3⟩
    obtain ⟨q1, q2, -⟩ := h4.fine (name := a.nm)
    refine set_plain k.X I (hK c).sa (osa_raw (s := { s with toks := s.toks + 1 }) k.X I rfl (hK c).po (by unfold takerIn; rw [(hK c).attr a]; rfl) (hK c).hd q2 (q1 ▸ hl) fun h' es' n' hs he' hg' => ?_)
    exact k.setOwn hd h rfl hs hg' fun g sg => ⟨es', ⟨n', hg'⟩, he' ▸ RepF.mono sg (Pre.refl _) _ _ (RepF.put (Rep.noown hf h0) h4)⟩

/-- a method of the class -/
theorem meth_ok {c : Cls} {f : Addr} {name : Str} {pl : Sem Bool} {Q : Value × List Value → Shared → Prop} (hK : ClsOk C c) (k : OK C hid s as σ) (h1 : Rep C (gv hid s as σ) as x v)
    (hx : (∃ i fl, x = .cur c i ∧ σ[i]? = some (.inst c fl)) ∨ ∃ fl, x = .inst c fl) (hf : findIn C.K (.ref (C.cls c)) name = some (some (.ref f))) (ht : typeIn C.K (.ref f) = some (.type "function")) (hn : ∀ a : Atr, a.nm ≠ name) (h : Q (.ref f, [v]) s) :
    WP C A (getMethod v name pl) Q s := by
  have key : ∀ {z d : Addr} {es : List DictEntry} {n : Nat} {sl g' as' fl}, Q (.ref f, [.ref z]) s → s.heap.get? z = some ⟨.ref (C.cls c), some d, .plain, sl⟩ → s.heap.get? d = some (dictOf es n) → RepF C g' as' fl es → WP C A (getMethod (.ref z) name pl) Q s := fun hq e1 e2 h4 =>
    method_fn k.X (⟨e1, rfl, rfl, e2⟩ : InstAt s.heap _ _ (C.cls c) (some (dictOf _ _))) hK.ga hK.gx hf ht (congrArg (Option.map Option.isSome) (h4.fine.2.2 hn)) hq
  rcases hx with ⟨i, fl, rfl, hσ⟩ | ⟨fl, rfl⟩
  · obtain ⟨z, d, ⟨sl, h2⟩, hd⟩ := (h1 : RCur _ _ _ v)
    obtain ⟨es, ⟨n, h3⟩, h4⟩ := k.own i d _ hd hσ
    exact key h (gv_h h2) h3 h4
  · obtain ⟨z, d, es, ⟨sl, h2⟩, ⟨n, h3⟩, h4⟩ := (h1 : RInst _ _ _ v)
    exact key h (gv_h h2) (gv_h h3) h4
end
/-! expressions and statements by their parts -/
structure XF where
  t : Nat
  w : Expr
  a : Expr
  b : Expr
  c : Expr
  xs : List Expr
  os : List (Option Expr)
  s : Str
  k : Nat
  pos : Pos
  op : Operator
  uop : UnaryOp
  bop : BoolOp
  cops : List CmpOp
  kws : List Keyword
  gens : List Comprehension
  sc : Scope
  cst : Const
  oa : Option Expr
  ob : Option Expr
  oc : Option Expr
noncomputable def x0 (e : Expr) (t : Nat) (p : Pos) : XF := ⟨t, e, e, e, e, [], [], Str.empty, 0, p, .Add, .Not, .And, [], [], [], default, .none, none, none, none⟩
noncomputable def xf (e : Expr) : XF := match e with
  | .Name s p => { x0 e 1 p with s := s }
  | .BinOp l op r p => { x0 e 2 p with a := l, op := op, b := r }
  | .UnaryOp op x p => { x0 e 3 p with a := x, uop := op }
  | .BoolOp op xs p => { x0 e 4 p with bop := op, xs := xs }
  | .Compare l ops xs p => { x0 e 5 p with a := l, cops := ops, xs := xs }
  | .IfExp a b c p => { x0 e 6 p with a := a, b := b, c := c }
  | .Tuple xs k p => { x0 e 7 p with xs := xs, k := k }
  | .List xs p => { x0 e 8 p with xs := xs }
  | .Dict os xs p => { x0 e 9 p with os := os, xs := xs }
  | .Call f xs kws p => { x0 e 10 p with a := f, xs := xs, kws := kws }
  | .Attribute a s p => { x0 e 11 p with a := a, s := s }
  | .Subscript a b p => { x0 e 12 p with a := a, b := b }
  | .Constant c k p => { x0 e 13 p with cst := c, k := k }
  | .ListComp a g sc p => { x0 e 14 p with a := a, gens := g, sc := sc }
  | .Slice a b c p => { x0 e 15 p with oa := a, ob := b, oc := c }
  | e => x0 e 0 default
noncomputable def XF.mk' (f : XF) : Nat → Expr
  | 1 => .Name f.s f.pos
  | 2 => .BinOp f.a f.op f.b f.pos
  | 3 => .UnaryOp f.uop f.a f.pos
  | 4 => .BoolOp f.bop f.xs f.pos
  | 5 => .Compare f.a f.cops f.xs f.pos
  | 6 => .IfExp f.a f.b f.c f.pos
  | 7 => .Tuple f.xs f.k f.pos
  | 8 => .List f.xs f.pos
  | 9 => .Dict f.os f.xs f.pos
  | 10 => .Call f.a f.xs f.kws f.pos
  | 11 => .Attribute f.a f.s f.pos
  | 12 => .Subscript f.a f.b f.pos
  | 13 => .Constant f.cst f.k f.pos
  | 14 => .ListComp f.a f.gens f.sc f.pos
  | 15 => .Slice f.oa f.ob f.oc f.pos
  | _ => f.w
theorem eta (e : Expr) : e = (xf e).mk' (xf e).t := by cases e <;> rfl
noncomputable def is (k : Nat) (e : Expr) : Bool := Nat.beq (xf e).t k
theorem is_eq {k : Nat} {e : Expr} (h : is k e = true) : e = (xf e).mk' k := Nat.eq_of_beq_eq_true h ▸ eta e

structure YF where
  t : Nat
  w : Stmt
  a : Expr
  b : Expr
  xs : List Expr
  o : Option Expr
  ss : List Stmt
  s2 : List Stmt
  s3 : List Stmt
  hs : List ExceptHandler
  pos : Pos
noncomputable def y0 (e : Stmt) (t : Nat) (p : Pos) : YF := ⟨t, e, .Name Str.empty p, .Name Str.empty p, [], none, [], [], [], [], p⟩
noncomputable def yf (e : Stmt) : YF := match e with
  | .Assign xs v p => { y0 e 1 p with xs := xs, a := v }
  | .Expr v p => { y0 e 2 p with a := v }
  | .Return v p => { y0 e 3 p with o := v }
  | .If t b o p => { y0 e 4 p with a := t, ss := b, s2 := o }
  | .While t b o p => { y0 e 5 p with a := t, ss := b, s2 := o }
  | .For t i b o p => { y0 e 6 p with a := t, b := i, ss := b, s2 := o }
  | .Continue p => { y0 e 7 p with o := none }
  | .Try b h o f p => { y0 e 8 p with ss := b, hs := h, s2 := o, s3 := f }
  | e => y0 e 0 default
noncomputable def YF.mk' (f : YF) : Nat → Stmt
  | 1 => .Assign f.xs f.a f.pos
  | 2 => .Expr f.a f.pos
  | 3 => .Return f.o f.pos
  | 4 => .If f.a f.ss f.s2 f.pos
  | 5 => .While f.a f.ss f.s2 f.pos
  | 6 => .For f.a f.b f.ss f.s2 f.pos
  | 7 => .Continue f.pos
  | 8 => .Try f.ss f.hs f.s2 f.s3 f.pos
  | _ => f.w
theorem yeta (e : Stmt) : e = (yf e).mk' (yf e).t := by cases e <;> rfl
noncomputable def yis (k : Nat) (e : Stmt) : Bool := Nat.beq (yf e).t k
theorem yis_eq {k : Nat} {e : Stmt} (h : yis k e = true) : e = (yf e).mk' k := Nat.eq_of_beq_eq_true h ▸ yeta e

/-! what is asked of an expression -/
noncomputable def dbg (x : Str) : Bool := x == ("__debug__" : Str)
noncomputable def isGl (sc : Scope) (x : Str) : Bool := sc.names.lookup x == some .globalImplicit && !dbg x
noncomputable def lc (sc : Scope) (x : Str) : Bool := sc.names.lookup x == some .local || sc.names.lookup x == some .cell
noncomputable def relab (scope outer : Scope) : Scope :=
  { scope with names := scope.names.map fun (n, k) => if (k == .free && outer.kind == .function && outer.names.lookup n == some .cell) then (n, .cell) else (n, k) }
/-- a plain expression: not starred, no set, no other comprehension -/
noncomputable def okX (e : Expr) : Bool := !is 0 e
noncomputable def okBase (e : Expr) : Bool := !is 10 e || (!is 1 (xf e).a || !(xf e).xs.isEmpty)
/-- its truth is its value's -/
noncomputable def genX (e : Expr) : Bool := okX e && !is 4 e && !is 5 e && !is 6 e && (!is 3 e || decide ((xf e).uop = .USub))
noncomputable def gx (m : ME) (e : Expr) : Bool := okX e && (!isGen m || genX e)
noncomputable def callN (e : Expr) : Bool := is 10 e && (is 1 (xf e).a && (xf e).kws.isEmpty)
noncomputable def callM (e : Expr) : Bool := is 10 e && (is 11 (xf e).a && ((xf e).kws.isEmpty && (okBase (xf (xf e).a).a && (Nat.beq (xf (xf e).a).pos.endLine (xf e).pos.line && Nat.ble ((xf e).xs.length + 1) 29))))
noncomputable def cName (e : Expr) : Str := (xf (xf e).a).s

noncomputable def tgL : List Expr → Option (List Str)
  | [] => some []
  | e :: r => cond (is 1 e) ((tgL r).map ((xf e).s :: ·)) none
noncomputable def tgts (e : Expr) : Option (List Str) := cond (is 1 e) (some [(xf e).s]) (cond (is 7 e && Nat.ble 2 (xf e).xs.length) (tgL (xf e).xs) none)

/-- a comprehension's names -/
noncomputable def compOK (sc : Scope) (nm : List Str) (n : Nat) (cap : List Nat) (scope : Scope) (xs : List Str) : Bool :=
  Nat.beq xs.length n && (scope.kind == .function && (scope.names.all (fun x => x.2 != .cell && (x.2 != .local || scope.names.lookup x.1 == some .local)) && (xs.all (fun x => scope.names.lookup x == some .local) &&
    (decide ((xs ++ cap.map fun i => nm.getD i Str.empty).Nodup) &&
    (cap.all (fun i => decide (i < nm.length) && sc.names.lookup (nm.getD i Str.empty) == some .cell && scope.names.lookup (nm.getD i Str.empty) == some .free) &&
    scope.names.all (fun x => x.2 != .free || (cap.any (fun i => nm.getD i Str.empty == x.1))))))))
noncomputable def gen1 (e : Expr) : Bool := match (xf e).gens with
  | [g] => decide (g.is_async = 0)
  | _ => false
noncomputable def genOf (e : Expr) : Comprehension := match (xf e).gens with
  | g :: _ => g
  | [] => ⟨e, e, [], 0⟩

noncomputable def itemN (e : Expr) (k : Nat) : Expr := (xf e).xs.getD k e
mutual
/-- my syntax is this expression's -/
noncomputable def mE : Scope → List Str → ME → Expr → Bool
  | sc, nm, .loc i, e => is 1 e && (nm[i]? == some (xf e).s && (lc sc (xf e).s && !dbg (xf e).s))
  | sc, nm, .num i, e => is 13 e && decide ((xf e).cst = .int i)
  | sc, nm, .str x, e => is 13 e && decide ((xf e).cst = .str ⟨x.toArray⟩)
  | sc, nm, .byt x, e => is 13 e && (decide ((xf e).cst = .bytes (x.map (·.toUInt8))) && (x.map (·.toUInt8)).map (·.toNat) == x)
  | sc, nm, .boo b, e => is 13 e && decide ((xf e).cst = .bool b)
  | sc, nm, .non, e => is 13 e && decide ((xf e).cst = .none)
  | sc, nm, .glb g, e => is 1 e && (nms.gl g == (xf e).s && isGl sc (xf e).s)
  | sc, nm, .bin op a b, e => is 2 e && (decide ((xf e).op = op) && (mE sc nm a (xf e).a && mE sc nm b (xf e).b))
  | sc, nm, .neg i, e => is 3 e && (decide ((xf e).uop = .USub) && (is 13 (xf e).a && decide ((xf (xf e).a).cst = .int i)))
  | sc, nm, .nt a, e => is 3 e && (decide ((xf e).uop = .Not) && (gx a (xf e).a && mE sc nm a (xf e).a))
  | sc, nm, .bop k xs, e => is 4 e && (decide ((xf e).bop = cond k .And .Or) && mEs sc nm xs (xf e).xs)
  | sc, nm, .cmp a ops bs, e => is 5 e && (decide ((xf e).cops = ops) && (mE sc nm a (xf e).a && (mEs sc nm bs (xf e).xs && !lastMarks (xf e).cops (xf e).xs)))
  | sc, nm, .ite t b o, e => is 6 e && ((gx t (xf e).a && mE sc nm t (xf e).a) && (mE sc nm b (xf e).b && mE sc nm o (xf e).c))
  | sc, nm, .tup xs, e => is 7 e && mEs sc nm xs (xf e).xs
  | sc, nm, .lst xs, e => is 8 e && mEs sc nm xs (xf e).xs
  | sc, nm, .newl xs, e => is 8 e && mEs sc nm xs (xf e).xs
  | sc, nm, .newd, e => is 9 e && ((xf e).os.isEmpty && (xf e).xs.isEmpty)
  | sc, nm, .call f args, e => callN e && (isGl sc (cName e) && (nms.fn f == some (cName e) && mEs sc nm args (xf e).xs))
  | sc, nm, .new c z args, e => callN e && (isGl sc (cName e) && (nms.cl c == cName e && mEs sc nm args (xf e).xs))
  | sc, nm, .bi b args, e => callN e && (isGl sc (cName e) && (b.nm == cName e && mEs sc nm args (xf e).xs))
  | sc, nm, .isint a, e => callN e && (isGl sc (cName e) && (("isinstance" : Str) == cName e && (Nat.beq (xf e).xs.length 2 && (okX (itemN e 0) && (mE sc nm a (itemN e 0) && (is 1 (itemN e 1) && (BI.int.nm == (xf (itemN e 1)).s && isGl sc (xf (itemN e 1)).s)))))))
  | sc, nm, .meth c f o args, e => callM e && (nms.me f == some (c, cName e) && (mE sc nm o (xf (xf e).a).a && mEs sc nm args (xf e).xs))
  | sc, nm, .lm m o args, e => callM e && (m.nm == cName e && (mE sc nm o (xf (xf e).a).a && mEs sc nm args (xf e).xs))
  | sc, nm, .att o a, e => is 11 e && (a.nm == (xf e).s && (okBase (xf e).a && mE sc nm o (xf e).a))
  | sc, nm, .sub o i, e => is 12 e && (mE sc nm o (xf e).a && mE sc nm i (xf e).b)
  | sc, nm, .slc o l u, e => is 12 e && (is 15 (xf e).b && ((xf (xf e).b).oc.isNone && (mE sc nm o (xf e).a && (mO sc nm l (xf (xf e).b).oa && mO sc nm u (xf (xf e).b).ob))))
  | sc, nm, .comp elt n cap iter ifs, e => is 14 e && (gen1 e && (okX (genOf e).iter && (mE sc nm iter (genOf e).iter && ((tgts (genOf e).target).isSome && (compOK sc nm n cap (xf e).sc ((tgts (genOf e).target).getD []) &&
      (mE (relab (xf e).sc sc) (((tgts (genOf e).target).getD []) ++ cap.map fun i => nm.getD i Str.empty) elt (xf e).a && mEs (relab (xf e).sc sc) (((tgts (genOf e).target).getD []) ++ cap.map fun i => nm.getD i Str.empty) ifs (genOf e).ifs))))))
  | sc, nm, .stuck, e => true
noncomputable def mEs : Scope → List Str → List ME → List Expr → Bool
  | sc, nm, [], es => es.isEmpty
  | sc, nm, x :: xs, [] => false
  | sc, nm, x :: xs, e :: es => gx x e && (mE sc nm x e && mEs sc nm xs es)
noncomputable def mO : Scope → List Str → Option ME → Option Expr → Bool
  | sc, nm, none, e => e.isNone
  | sc, nm, some x, none => false
  | sc, nm, some x, some e => mE sc nm x e
end

noncomputable def idxOK (sc : Scope) (nm : List Str) : List Nat → List Str → Bool
  | [], xs => xs.isEmpty
  | i :: is, [] => false
  | i :: is, x :: xs => nm[i]? == some x && (lc sc x && idxOK sc nm is xs)
noncomputable def tgOK (sc : Scope) (nm : List Str) (is : List Nat) (e : Expr) : Bool := (tgts e).isSome && (Nat.beq ((tgts e).getD []).length is.length && idxOK sc nm is ((tgts e).getD []))
noncomputable def plainV (e : Expr) : Bool := okX e && !is 14 e
noncomputable def t1 (e : YF) : Expr := e.xs.headD e.a
noncomputable def noNames (scope : Scope) (x : Str) : Bool := !(scope.names.any fun (n, k) => n == x && (k == .local || k == .cell))

mutual
noncomputable def mS (sc : Scope) (nm : List Str) : MS → Stmt → Bool
  | .asg i e, st => yis 1 st && (Nat.beq (yf st).xs.length 1 && (is 1 (t1 (yf st)) && (nm[i]? == some (xf (t1 (yf st))).s && (lc sc (xf (t1 (yf st))).s && (mE sc nm e (yf st).a && (okX (yf st).a &&
      cond (isComp e) (sc.names.lookup (xf (t1 (yf st))).s == some .local && (Nat.beq (xf (t1 (yf st))).pos.line (xf (yf st).a).pos.line && noNames (xf (yf st).a).sc (xf (t1 (yf st))).s)) (!is 14 (yf st).a)))))))
  | .unp is_ e, st => yis 1 st && (Nat.beq (yf st).xs.length 1 && (is 7 (t1 (yf st)) && (tgOK sc nm is_ (t1 (yf st)) && (mE sc nm e (yf st).a && (plainV (yf st).a && !is 7 (yf st).a)))))
  | .seta o a e, st => yis 1 st && (Nat.beq (yf st).xs.length 1 && (is 11 (t1 (yf st)) && (a.nm == (xf (t1 (yf st))).s && (mE sc nm o (xf (t1 (yf st))).a && (mE sc nm e (yf st).a && plainV (yf st).a)))))
  | .seti o i e, st => yis 1 st && (Nat.beq (yf st).xs.length 1 && (is 12 (t1 (yf st)) && (mE sc nm o (xf (t1 (yf st))).a && (mE sc nm i (xf (t1 (yf st))).b && (mE sc nm e (yf st).a && plainV (yf st).a)))))
  | .exp e, st => yis 2 st && (mE sc nm e (yf st).a && plainV (yf st).a)
  | .ret e, st => yis 3 st && (match (yf st).o with
    | some v => mE sc nm e v
    | none => isNon e)
  | .ifs t b o, st => yis 4 st && (gx t (yf st).a && (mE sc nm t (yf st).a && (mSs sc nm b (yf st).ss && mSs sc nm o (yf st).s2)))
  | .whl t b, st => yis 5 st && (gx t (yf st).a && (mE sc nm t (yf st).a && (mSs sc nm b (yf st).ss && (yf st).s2.isEmpty)))
  | .for_ is_ tup iter b, st => yis 6 st && (tgOK sc nm is_ (yf st).a && (okX (yf st).b && (mE sc nm iter (yf st).b && (mSs sc nm b (yf st).ss && (yf st).s2.isEmpty))))
  | .cont, st => yis 7 st
  | .trc b, st => yis 8 st && (!(yf st).hs.isEmpty && ((yf st).s2.isEmpty && ((yf st).s3.isEmpty && mSs sc nm b (yf st).ss)))
  | .stuck, _ => true
noncomputable def mSs (sc : Scope) (nm : List Str) : List MS → List Stmt → Bool
  | [], sts => sts.isEmpty
  | s :: ss, [] => false
  | s :: ss, st :: sts => mS sc nm s st && mSs sc nm ss sts
end
noncomputable def fsOf (env : Env) : List Addr := env.locals :: env.cells.map (·.2)
structure EnvS (env : Env) : Prop where
  kf : env.scope.kind = .function
  gl : env.globals = mainGlobals
  bu : env.builtins = builtinsNs
  cs : ∀ n, env.kindOf n = some .cell → (env.cells.lookup n).isSome = true
  ap : ∀ n n' c, env.cells.lookup n = some c → env.cells.lookup n' = some c → n = n'
  lc : ∀ n c, env.cells.lookup n = some c → c ≠ env.locals
/-- a frame -/
inductive FrOK (C : SC) (env : Env) (nm : List Str) (ρ : List AV) (hid : List Addr) (s : Shared) (as : List Addr) (σ : St) : Prop
  | mk (m cm : Str → Option Value) (hn : s.heap.Ns env.locals m) (hc : ∀ n c, env.cells.lookup n = some c → s.heap.IsCell c (cm n))
    (hv : ∀ (i : Nat) (n : Str) (x : AV), nm[i]? = some n → ρ[i]? = some x → isDef x = true → ∃ v, Rep C (gv hid s as σ) as x v ∧ (env.kindOf n = some .local → m n = some v) ∧ (env.kindOf n = some .cell → cm n = some v))
    (fh : ∀ a ∈ fsOf env, a ∈ hid) (st : EnvS env)

/-- what calls may use -/
noncomputable def BOK (n : Nat) (A : Around) : Prop := A.handled = none ∧ A.depth + 2 * n + 3 < recursionLimit ∧ A.units + 8 * n + 76 < cLine
structure Cx (C : SC) (n : Nat) (A : Around) (env : Env) (nm : List Str) (ρ : List AV) (hid : List Addr) (s : Shared) (as : List Addr) (σ : St) : Prop where
  a : AOK n A
  k : OK C hid s as σ
  f : FrOK C env nm ρ hid s as σ

inductive EPost (C : SC) (hid : List Addr) (s : Shared) (as : List Addr) (σ : St) (r : AV) (σ' : St) (v : Value) (s' : Shared) : Prop
  | mk (as' : List Addr) (k : OK C hid s' as' σ') (t : Stp [] s as σ s' as' σ') (h : Rep C (gv hid s' as' σ') as' r v)
inductive EsPost (C : SC) (hid : List Addr) (s : Shared) (as : List Addr) (σ : St) (r : List AV) (σ' : St) (v : List Value) (s' : Shared) : Prop
  | mk (as' : List Addr) (k : OK C hid s' as' σ') (t : Stp [] s as σ s' as' σ') (h : RepL C (gv hid s' as' σ') as' r v)
inductive TPost (C : SC) (hid : List Addr) (s : Shared) (as : List Addr) (σ : St) (r : Bool) (σ' : St) (s' : Shared) : Bool → Prop
  | mk (as' : List Addr) (k : OK C hid s' as' σ') (t : Stp [] s as σ s' as' σ') : TPost C hid s as σ r σ' s' r
inductive OPost (C : SC) (hid : List Addr) (s : Shared) (as : List Addr) (σ : St) (r : Option Int) (σ' : St) (v : Value) (s' : Shared) : Prop
  | mk (as' : List Addr) (k : OK C hid s' as' σ') (t : Stp [] s as σ s' as' σ') (h : IsPart v r)
noncomputable def outIs (C : SC) (g : Heap) (as : List Addr) : Out → Flow → Prop
  | .next, f => f = .next
  | .cont, f => f = .cont
  | .ret v, f => ∃ w, f = .ret w ∧ Rep C g as v w
inductive SPost (C : SC) (env : Env) (nm : List Str) (hid : List Addr) (s : Shared) (as : List Addr) (σ : St) (o : Out) (ρ' : List AV) (σ' : St) (f : Flow) (s' : Shared) : Prop
  | mk (as' : List Addr) (k : OK C hid s' as' σ') (t : Stp (fsOf env) s as σ s' as' σ') (F : FrOK C env nm ρ' hid s' as' σ') (h : outIs C (gv hid s' as' σ') as' o f)

section
variable {C : SC} {n : Nat} {A : Around} {env : Env} {nm : List Str} {ρ ρ' : List AV} {hid : List Addr} {s s' s'' : Shared} {as as' as'' : List Addr} {σ σ' σ'' : St} {r : AV} {v : Value}

theorem FrOK.fh (F : FrOK C env nm ρ hid s as σ) : ∀ a ∈ fsOf env, a ∈ hid := let ⟨_, _, _, _, _, h, _⟩ := F; h
theorem FrOK.st (F : FrOK C env nm ρ hid s as σ) : EnvS env := let ⟨_, _, _, _, _, _, h⟩ := F; h
theorem nofs : ∀ a ∈ ([] : List Addr), a ∈ hid := fun _ h => nomatch h
theorem stp_vis (x : Stp [] s as σ s' as' σ') : Sub (gv hid s as σ) (gv hid s' as' σ') := x.vis nofs
theorem stp_rep (x : Stp [] s as σ s' as' σ') (h : Rep C (gv hid s as σ) as r v) : Rep C (gv hid s' as' σ') as' r v := Rep.mono (stp_vis x) x.pre _ _ h
theorem stp_repL {rs : List AV} {vs : List Value} (x : Stp [] s as σ s' as' σ') (h : RepL C (gv hid s as σ) as rs vs) : RepL C (gv hid s' as' σ') as' rs vs := RepL.mono (stp_vis x) x.pre _ _ h
theorem stp_tr (x : Stp [] s as σ s' as' σ') (y : Stp [] s' as' σ' s'' as'' σ'') : Stp [] s as σ s'' as'' σ'' := x.trans y fun _ _ h => nomatch h
theorem stp_hid (x : Stp [] s as σ s' as' σ') (k : OK C hid s as σ) {a : Addr} {o : Obj} (h : a ∈ hid) (e : s.heap.get? a = some o) : s'.heap.get? a = some o :=
  x.keep a o (fun h => nomatch h) (k.dj a h) e
theorem mem_lookup {α β : Type} [BEq α] [LawfulBEq α] : ∀ {l : List (α × β)} {a : α} {b : β}, l.lookup a = some b → (a, b) ∈ l
  | (x, y) :: l, a, b, h => by
    rw [List.lookup_cons] at h
    cases hx : a == x with
    | true => rw [hx] at h; cases h; rw [eq_of_beq hx]; exact .head _
    | false => rw [hx] at h; exact .tail _ (mem_lookup h)
theorem mem_fs {n : Str} {c : Addr} (h : env.cells.lookup n = some c) : c ∈ fsOf env := List.mem_cons_of_mem _ (List.mem_map.mpr ⟨(n, c), mem_lookup h, rfl⟩)
/-- the frame is seen after steps that leave it -/
theorem FrOK.move {hid' : List Addr} (F : FrOK C env nm ρ hid s as σ) (hk : ∀ b o, b ∈ fsOf env → s.heap.get? b = some o → s'.heap.get? b = some o) (hs : Sub (gv hid s as σ) (gv hid' s' as' σ')) (hp : Pre as as') (hh : ∀ a ∈ fsOf env, a ∈ hid') : FrOK C env nm ρ hid' s' as' σ' :=
  let ⟨m, cm, h1, h2, h3, h4, h5⟩ := F
  ⟨m, cm, h1.at fun o e => hk _ o (.head _) e, fun n c hc => let ⟨o, ho, hd⟩ := h2 n c hc; ⟨o, hk _ o (mem_fs hc) ho, hd⟩, fun i n y e1 e2 e3 => let ⟨v, q1, q2⟩ := h3 i n y e1 e2 e3; ⟨v, Rep.mono hs hp _ _ q1, q2⟩, hh, h5⟩
theorem FrOK.stp (F : FrOK C env nm ρ hid s as σ) (k : OK C hid s as σ) (x : Stp [] s as σ s' as' σ') : FrOK C env nm ρ hid s' as' σ' :=
  F.move (fun b o h e => stp_hid x k (F.fh b h) e) (stp_vis x) x.pre F.fh
theorem Cx.to (c : Cx C n A env nm ρ hid s as σ) (k1 : OK C hid s' as' σ') (t : Stp [] s as σ s' as' σ') : Cx C n A env nm ρ hid s' as' σ' := ⟨c.a, k1, c.f.stp c.k t⟩
theorem Res.epost (k : OK C hid s as σ) (h : Res C (hid ++ alive as σ) as r s v s') : EPost C hid s as σ r σ v s' := ⟨as, k.keeps h.1, Stp.keeps h.1, h.2⟩
theorem EPost.tr (x : Stp [] s as σ s' as' σ') (h : EPost C hid s' as' σ' r σ'' v s'') : EPost C hid s as σ r σ'' v s'' := let ⟨a, h1, h2, h3⟩ := h; ⟨a, h1, stp_tr x h2, h3⟩
theorem TPost.tr {b c : Bool} (x : Stp [] s as σ s' as' σ') (h : TPost C hid s' as' σ' b σ'' s'' c) : TPost C hid s as σ b σ'' s'' c := let ⟨a, h1, h2⟩ := h; ⟨a, h1, stp_tr x h2⟩
theorem stp_tok (t : Nat) : Stp [] s as σ { s with toks := t } as σ := Stp.keeps (Keeps.tok s t)
theorem Cx.tok (c : Cx C n A env nm ρ hid s as σ) (t : Nat) : Cx C n A env nm ρ hid { s with toks := t } as σ := c.to (c.k.keeps (Keeps.tok s t)) (stp_tok t)
theorem Cx.keeps (c : Cx C n A env nm ρ hid s as σ) (h : Keeps s s') : Cx C n A env nm ρ hid s' as σ := c.to (c.k.keeps h) (Stp.keeps h)
theorem Cx.same (c : Cx C n A env nm ρ hid s as σ) (h : Rep C (gv hid s as σ) as r v) : EPost C hid s as σ r σ v s := ⟨as, c.k, Stp.refl _ _ _ _, h⟩
theorem Cx.lit (c : Cx C n A env nm ρ hid s as σ) {t : Nat} (h : Rep C (gv hid s as σ) as r v) : EPost C hid s as σ r σ v { s with toks := t } := ⟨as, (c.tok t).k, stp_tok t, h⟩
theorem Cx.au (c : Cx C n A env nm ρ hid s as σ) : A.units + 16 < cLine :=
  Nat.lt_of_le_of_lt (Nat.le_trans (Nat.add_le_add_left (by decide : 16 ≤ 80) _) (Nat.add_le_add_right (Nat.le_add_right _ _) _)) c.a.2.2
end

noncomputable def LM.id : LM → String
  | .append => "list.append" | .extend => "list.extend" | .join => "str.join" | .encode => "str.encode" | .split => "str.split"
/-- still to be shown: the text methods -/
noncomputable def LmOk (C : SC) : Prop := ∀ (A : Around) (s : Shared) (hl as : List Addr) (m : LM) (x : List Nat) (r : AV) (xs : List AV) (t : Tok) (vs : List Value) (n : Nat), AOK n A → (∀ a ∈ hl, ∃ o, s.heap.get? a = some o) →
  RepDL C s.heap (vis s.heap hl) as xs vs → LmR m x xs r → WP C A (call (.builtin m.id) (.str ⟨x.toArray⟩ t :: vs)) (Res C hl as r s) s

structure Static (C : SC) : Prop where
  cls : ∀ c, ClsOk C c
  glob : ∀ g, ∃ v, nsIn C.K mainGlobals (nms.gl g) = some (some v) ∧ Rep C C.H [] (glG g) v
  fn : ∀ f x, nms.fn f = some x → nsIn C.K mainGlobals x = some (some (.ref (nms.fa f))) ∧ keepIn C.K (.ref (nms.fa f)) = true
  me : ∀ f c x, nms.me f = some (c, x) → findIn C.K (.ref (C.cls c)) x = some (some (.ref (nms.fa f))) ∧ typeIn C.K (.ref (nms.fa f)) = some (.type "function") ∧ keepIn C.K (.ref (nms.fa f)) = true ∧ ∀ a : Atr, a.nm ≠ x
  cl : ∀ c, nsIn C.K mainGlobals (nms.cl c) = some (some (.ref (C.cls c))) ∧ keepIn C.K (.ref (C.cls c)) = true ∧ findIn C.K (.ref (C.cls c)) "__init__" = some (some (.ref (nms.fa (initOf c)))) ∧ typeIn C.K (.ref (nms.fa (initOf c))) = some (.type "function")
  bi : ∀ b : BI, nsIn C.K mainGlobals b.nm = some none
  isi : nsIn C.K mainGlobals "isinstance" = some none
  srt : SortedOk C
  dct : DictOk C
  meq : MapEqOk C
  lm : LmOk C

theorem BOK.deeper {n : Nat} {A : Around} {env : Env} (h : BOK (n + 1) A) : AOK n (A.deeper env) := ⟨h.1, by have := h.2.1; show A.depth + 1 + 2 * n + 4 < recursionLimit; omega, by have := h.2.2; show A.units + 3 + 8 * n + 80 < cLine; omega⟩
theorem AOK.b {n : Nat} {A : Around} (h : AOK n A) : BOK n A := ⟨h.1, Nat.lt_trans (Nat.lt_succ_self _) h.2.1, Nat.lt_of_le_of_lt (Nat.add_le_add_left (by decide : 76 ≤ 80) _) h.2.2⟩

/-- the loop of tests in a comprehension -/
abbrev testsOf (env : Env) (exprs : List Expr) (b : Bool) : Sem Bool := forIn exprs b fun c r => if r = true then do let ok ← isTrue c env (eval c env); pure (ForInStep.yield ok) else pure (ForInStep.yield r)

/-- what a run means -/
noncomputable def SemE (C : SC) (n : Nat) (ρ : List AV) (e : ME) (σ : St) (v : AV) (σ' : St) : Prop := ∀ {env : Env} {nm : List Str} {expr : Expr} {hid : List Addr} {A : Around} {s : Shared} {as : List Addr}, Cx C n A env nm ρ hid s as σ → mE env.scope nm e expr = true → WP C A (eval expr env) (EPost C hid s as σ v σ') s
noncomputable def SemEs (C : SC) (n : Nat) (ρ : List AV) (e : List ME) (σ : St) (v : List AV) (σ' : St) : Prop := ∀ {env : Env} {nm : List Str} {exprs : List Expr} {hid : List Addr} {A : Around} {s : Shared} {as : List Addr} (pos : Pos), Cx C n A env nm ρ hid s as σ → mEs env.scope nm e exprs = true → WP C A (spliced (backTo pos (starEach exprs env))) (EsPost C hid s as σ v σ') s
noncomputable def SemO (C : SC) (n : Nat) (ρ : List AV) (e : Option ME) (σ : St) (v : Option Int) (σ' : St) : Prop := ∀ {env : Env} {nm : List Str} {expr : Option Expr} {hid : List Addr} {A : Around} {s : Shared} {as : List Addr}, Cx C n A env nm ρ hid s as σ → mO env.scope nm e expr = true → WP C A (evalPart expr env) (OPost C hid s as σ v σ') s
noncomputable def SemT (C : SC) (n : Nat) (ρ : List AV) (e : ME) (σ : St) (b : Bool) (σ' : St) : Prop := ∀ {env : Env} {nm : List Str} {expr : Expr} {hid : List Addr} {A : Around} {s : Shared} {as : List Addr}, Cx C n A env nm ρ hid s as σ → gx e expr = true → mE env.scope nm e expr = true → WP C A (isTrue expr env (eval expr env)) (fun c s' => TPost C hid s as σ b σ' s' c) s
noncomputable def SemTB (C : SC) (n : Nat) (k : Bool) (ρ : List AV) (e : List ME) (σ : St) (b : Bool) (σ' : St) : Prop := ∀ {env : Env} {nm : List Str} {exprs : List Expr} {hid : List Addr} {A : Around} {s : Shared} {as : List Addr}, Cx C n A env nm ρ hid s as σ → mEs env.scope nm e exprs = true → WP C A (allTrue (cond k .And .Or) exprs env) (fun c s' => TPost C hid s as σ b σ' s' c) s
noncomputable def SemBs (C : SC) (n : Nat) (k : Bool) (ρ : List AV) (e : List ME) (σ : St) (v : AV) (σ' : St) : Prop := ∀ {env : Env} {nm : List Str} {exprs : List Expr} {hid : List Addr} {A : Around} {s : Shared} {as : List Addr} (pos : Pos), Cx C n A env nm ρ hid s as σ → mEs env.scope nm e exprs = true → WP C A (boolOp pos (cond k .And .Or) (evalEach exprs env)) (EPost C hid s as σ v σ') s
noncomputable def SemC (C : SC) (n : Nat) (ρ : List AV) (x : AV) (ops : List CmpOp) (e : List ME) (σ : St) (b : Bool) (σ' : St) : Prop := ∀ {env : Env} {nm : List Str} {exprs : List Expr} {hid : List Addr} {A : Around} {s : Shared} {as : List Addr} {v : Value} (pos : Pos), Cx C n A env nm ρ hid s as σ → mEs env.scope nm e exprs = true → Rep C (gv hid s as σ) as x v →
    WP C A (compareChain pos v ops (evalEach exprs env)) (EPost C hid s as σ (.bool b) σ') s ∧ WP C A (testChain pos v ops (evalEach exprs env)) (fun c s' => TPost C hid s as σ b σ' s' c) s
noncomputable def SemTs (C : SC) (n : Nat) (ρ : List AV) (e : List ME) (σ : St) (b : Bool) (σ' : St) : Prop := ∀ {env : Env} {nm : List Str} {exprs : List Expr} {hid : List Addr} {A : Around} {s : Shared} {as : List Addr}, Cx C n A env nm ρ hid s as σ → mEs env.scope nm e exprs = true → WP C A (testsOf env exprs true) (fun c s' => TPost C hid s as σ b σ' s' c) s
noncomputable def SemF (C : SC) (n : Nat) (f : Nat) (xs : List AV) (σ : St) (v : AV) (σ' : St) : Prop := ∀ {A : Around} {s : Shared} {as hid : List Addr} {vs : List Value}, BOK n A → OK C hid s as σ → RepL C (gv hid s as σ) as xs vs → codeAny (model C.prog C.w) A (.call (.ref (nms.fa f)) ⟨vs, []⟩) (fun o s' => ∃ w, o = .ok (.ret w) ∧ EPost C hid s as σ v σ' w s') s
noncomputable def SemS (C : SC) (n : Nat) (e : MS) (ρ : List AV) (σ : St) (o : Out) (ρ' : List AV) (σ' : St) : Prop := ∀ {env : Env} {nm : List Str} {st : Stmt} {hid : List Addr} {A : Around} {s : Shared} {as : List Addr}, nm.Nodup → Cx C n A env nm ρ hid s as σ → mS env.scope nm e st = true → WP C A (exec st env) (SPost C env nm hid s as σ o ρ' σ') s
noncomputable def SemSs (C : SC) (n : Nat) (e : List MS) (ρ : List AV) (σ : St) (o : Out) (ρ' : List AV) (σ' : St) : Prop := ∀ {env : Env} {nm : List Str} {sts : List Stmt} {hid : List Addr} {A : Around} {s : Shared} {as : List Addr}, nm.Nodup → Cx C n A env nm ρ hid s as σ → mSs env.scope nm e sts = true → WP C A (execs sts env) (SPost C env nm hid s as σ o ρ' σ') s
theorem ff {P : Prop} (h : false = true) : P := nomatch h
theorem nott {b : Bool} (h : (!b) = true) : b = false := by cases b <;> first | rfl | cases h
theorem star_of {e : Expr} (h : okX e = true) (rest : List Expr) (env : Env) : starEach (e :: rest) env = (false, eval e env) :: starEach rest env := by
  cases e <;> first | rfl | exact ff h
theorem folded_of {e : Expr} (h : okX e = true) (env : Env) (x : Value) : foldedSetIterable e env x = pure x := by
  cases e <;> first | rfl | exact ff h
theorem genX_of {e : Expr} (h : genX e = true) (env : Env) (w : Sem Value) : isTrue e env w = (do let v ← w; standAt e.pos; holding [v] (truthy v)) := by
  cases e with
  | UnaryOp op x p => cases op <;> first | rfl | exact ff h
  | _ => first | rfl | exact ff h
theorem base_of {o : Expr} (h : okBase o = true) (attr : Str) (env : Env) : attributeBase o attr env (eval o env) = eval o env := by
  cases o with
  | Call f args kws pos => cases f <;> first | rfl | cases args <;> first | rfl | exact ff h
  | _ => rfl

section
variable {C : SC} {n : Nat} {A : Around} {env : Env} {nm : List Str} {ρ : List AV} {hid : List Addr} {s s' s'' : Shared} {as as' as'' : List Addr} {σ σ' σ1 σ2 σ3 : St} {r x y : AV} {v w : Value} {e : Expr} {Q : Value → Shared → Prop}

theorem WP.ex {k : Nat} (h : is k e = true) (w : WP C A (eval ((xf e).mk' k) env) Q s) : WP C A (eval e env) Q s := by rw [is_eq h]; exact w
theorem goE {a : ME} (i : SemE C n ρ a σ x σ1) (c : Cx C n A env nm ρ hid s as σ) (hm : mE env.scope nm a e = true)
    (k : ∀ w s1 as1, Cx C n A env nm ρ hid s1 as1 σ1 → Stp [] s as σ s1 as1 σ1 → Rep C (gv hid s1 as1 σ1) as1 x w → Q w s1) : WP C A (eval e env) Q s :=
  (i c hm).mono fun w s1 ⟨as1, k1, t1, r1⟩ => k w s1 as1 (c.to k1 t1) t1 r1
theorem goEs {a : List ME} {xs : List AV} {es : List Expr} {Q : List Value → Shared → Prop} (i : SemEs C n ρ a σ xs σ1) (c : Cx C n A env nm ρ hid s as σ) (hm : mEs env.scope nm a es = true) (pos : Pos)
    (k : ∀ w s1 as1, Cx C n A env nm ρ hid s1 as1 σ1 → Stp [] s as σ s1 as1 σ1 → RepL C (gv hid s1 as1 σ1) as1 xs w → Q w s1) : WP C A (spliced (backTo pos (starEach es env))) Q s :=
  (i pos c hm).mono fun w s1 ⟨as1, k1, t1, r1⟩ => k w s1 as1 (c.to k1 t1) t1 r1
theorem goO {a : Option ME} {l : Option Int} {e : Option Expr} (i : SemO C n ρ a σ l σ1) (c : Cx C n A env nm ρ hid s as σ) (hm : mO env.scope nm a e = true)
    (k : ∀ w s1 as1, Cx C n A env nm ρ hid s1 as1 σ1 → Stp [] s as σ s1 as1 σ1 → IsPart w l → Q w s1) : WP C A (evalPart e env) Q s :=
  (i c hm).mono fun w s1 ⟨as1, k1, t1, r1⟩ => k w s1 as1 (c.to k1 t1) t1 r1
theorem goT {a : ME} {b : Bool} {Q : Bool → Shared → Prop} (i : SemT C n ρ a σ b σ1) (c : Cx C n A env nm ρ hid s as σ) (hg : gx a e = true) (hm : mE env.scope nm a e = true)
    (k : ∀ s1 as1, Cx C n A env nm ρ hid s1 as1 σ1 → Stp [] s as σ s1 as1 σ1 → Q b s1) : WP C A (isTrue e env (eval e env)) Q s :=
  (i c hg hm).mono fun w s1 ⟨as1, k1, t1⟩ => k s1 as1 (c.to k1 t1) t1

end
section
variable {C : SC} {n : Nat} {A : Around} {env : Env} {nm : List Str} {ρ : List AV} {hid : List Addr} {s s' s'' : Shared} {as as' as'' : List Addr} {σ σ' σ1 σ2 σ3 : St} {r x y u : AV} {v w : Value} {e : Expr} {Q : Value → Shared → Prop} {b : Bool}

theorem name_gl {x : Str} {pos : Pos} (c : Cx C n A env nm ρ hid s as σ) (hg : isGl env.scope x = true) (e : nsIn C.K mainGlobals x = some (some v)) (h : Q v s) : WP C A (eval (.Name x pos) env) Q s :=
  Name_function_global c.f.st.kf (eq_of_beq (and_l hg)) (loadGlobal_global (by rw [c.f.st.gl]; exact C.T.g.keeps c.k.base) (mg_of C.X C.T.g e) h) (nott (and_r hg))
theorem name_bi {x : Str} {pos : Pos} (c : Cx C n A env nm ρ hid s as σ) (hg : isGl env.scope x = true) (e : nsIn C.K mainGlobals x = some none) (hb : bootBuiltins x = some v) (hn : x ≠ "__name__") (h : Q v s) : WP C A (eval (.Name x pos) env) Q s :=
  Name_function_global c.f.st.kf (eq_of_beq (and_l hg)) (loadGlobal_builtin (by rw [c.f.st.gl]; exact C.T.g.keeps c.k.base) (mg_none_of C.X C.T.g e) (by rw [c.f.st.bu]; exact C.T.b.keeps c.k.base) ((C.T.builtins x hn).trans hb) h) (nott (and_r hg))
theorem rd_some {i : Nat} (h : rd ρ i = some x) : ρ[i]? = some x ∧ isDef x = true := by
  obtain ⟨z, e, h⟩ := Option.bind_eq_some_iff.mp h
  cases hd : isDef z with
  | false => rw [hd] at h; cases h
  | true => rw [hd] at h; cases h; exact ⟨e, hd⟩
theorem lc_or {sc : Scope} {x : Str} (h : lc sc x = true) : sc.names.lookup x = some .local ∨ sc.names.lookup x = some .cell := (Bool.or_eq_true_iff.mp h).imp eq_of_beq eq_of_beq

theorem E_loc {i : Nat} (h : rd ρ i = some x) : SemE C n ρ (.loc i) σ x σ := fun {env nm expr hid A s as} c hm => by
  obtain ⟨m, cm, hn, hc, hv, fh, st⟩ := c.f
  obtain ⟨h1, h2⟩ := rd_some h
  obtain ⟨v, q1, q2, q3⟩ := hv i _ x (eq_of_beq (and_l (and_r hm))) h1 h2
  refine WP.ex (and_l hm) (wpAny_Name ?_ (nott (and_r (and_r (and_r hm)))))
  rcases lc_or (and_l (and_r (and_r hm))) with q | q
  · exact wpAny_loadName_local st.kf q hn (q2 q) (c.same q1)
  · obtain ⟨c', hcl⟩ := Option.isSome_iff_exists.mp (st.cs _ q)
    exact wpAny_loadName_cell st.kf q hcl (q3 q ▸ hc _ c' hcl) (c.same q1)

theorem E_cst {a : ME} {k : Const} (hc : ∀ {sc : Scope} {nm : List Str} {e : Expr}, mE sc nm a e = true → is 13 e = true ∧ (xf e).cst = k) (h : ∀ {env : Env} {nm : List Str} {hid A s as} {p : Nat} {pos : Pos}, Cx C n A env nm ρ hid s as σ → WP C A (eval (.Constant k p pos) env) (EPost C hid s as σ x σ) s) : SemE C n ρ a σ x σ := fun {env nm expr hid A s as} c hm => by
  obtain ⟨q1, q2⟩ := hc hm
  refine WP.ex q1 ?_
  show WP C A (eval (.Constant _ _ _) env) _ s
  rw [q2]; exact h c
theorem E_num {i : Int} : SemE C n ρ (.num i) σ (.int i) σ := E_cst (a := .num i) (x := .int i) (k := .int i) (fun {_ _ _} hm => ⟨and_l hm, of_decide_eq_true (and_r hm)⟩) fun c => wpAny_Constant_int (c.lit (RInt.mk _))
theorem E_str {i : List Nat} : SemE C n ρ (.str i) σ (.str i) σ := E_cst (a := .str i) (x := .str i) (k := .str ⟨i.toArray⟩) (fun {_ _ _} hm => ⟨and_l hm, of_decide_eq_true (and_r hm)⟩) fun c => wpAny_Constant_str (c.lit (RStr.mk _))
theorem E_byt {i : List Nat} : SemE C n ρ (.byt i) σ (.bytes i) σ := fun {env nm expr hid A s as} c hm => by
  refine WP.ex (and_l hm) ?_
  show WP C A (eval (.Constant _ _ _) env) _ s
  rw [of_decide_eq_true (and_l (and_r hm))]
  exact PySem.W.Constant_bytes (c.lit (RByt.mk _ _ (eq_of_beq (and_r (and_r hm)))))
theorem E_boo : SemE C n ρ (.boo b) σ (.bool b) σ := E_cst (a := .boo b) (x := .bool b) (k := .bool b) (fun {_ _ _} hm => ⟨and_l hm, of_decide_eq_true (and_r hm)⟩) fun c => wpAny_Constant_bool (c.same rfl)
theorem E_non : SemE C n ρ .non σ .none σ := E_cst (a := .non) (x := .none) (k := .none) (fun {_ _ _} hm => ⟨and_l hm, of_decide_eq_true (and_r hm)⟩) fun c => wpAny_Constant_none (c.same rfl)
theorem base_see (k : OK C hid s as σ) : Sub C.H (gv hid s as σ) := fun b o e => gv_get (k.base b o e) (fun q => ne_of_get (k.free b (List.mem_append_left _ q)) e) fun q => ne_of_get (k.free b (List.mem_append_right _ q)) e
theorem E_glb (S : Static C) {g : Nat} (h : glG g = x) : SemE C n ρ (.glb g) σ x σ := fun {env nm expr hid A s as} c hm => by
  obtain ⟨v, q1, q2⟩ := S.glob g
  rw [eq_of_beq (and_l (and_r hm))] at q1
  exact WP.ex (and_l hm) (name_gl c (and_r (and_r hm)) q1 (c.same (h ▸ Rep.mono (base_see c.k) Pre.nil _ _ q2)))
theorem E_neg {i : Int} : SemE C n ρ (.neg i) σ (.int (-i)) σ := fun {env nm expr hid A s as} c hm => by
  refine WP.ex (and_l hm) ?_
  show WP C A (eval (.UnaryOp _ _ _) env) _ s
  rw [of_decide_eq_true (and_l (and_r hm))]
  refine wpAny_UnaryOp (WP.ex (and_l (and_r (and_r hm))) ?_)
  show WP C A (eval (.Constant _ _ _) env) _ s
  rw [of_decide_eq_true (and_r (and_r (and_r hm)))]
  exact wpAny_Constant_int (neg_int (EPost.tr (stp_tok _) ((c.tok _).lit (RInt.mk _))))

theorem E_bin {op : Operator} {a b : ME} (i1 : SemE C n ρ a σ x σ1) (i2 : SemE C n ρ b σ1 y σ2) (h : BinR op (dr σ2 x) (dr σ2 y) u) : SemE C n ρ (.bin op a b) σ u σ2 := fun {env nm expr hid A s as} c hm => by
  have h2 := and_r hm
  refine WP.ex (and_l hm) (wpAny_BinOp (goE i1 c (and_l (and_r h2)) fun v1 s1 as1 c1 t1 r1 => goE i2 c1 (and_r (and_r h2)) fun v2 s2 as2 c2 t2 r2 => ?_))
  rw [of_decide_eq_true (and_l h2)]
  exact (binOp_ok c2.k.inh (dr_rep c2.k (stp_rep t2 r1)) (dr_rep c2.k r2) h).mono fun v3 s3 z3 => EPost.tr (stp_tr t1 t2) (Res.epost c2.k z3)
theorem E_bop {k : Bool} {xs : List ME} (i : SemBs C n k ρ xs σ x σ1) : SemE C n ρ (.bop k xs) σ x σ1 := fun {env nm expr hid A s as} c hm => by
  refine WP.ex (and_l hm) ?_
  show WP C A (boolOp (xf expr).pos (xf expr).bop _) _ s
  rw [of_decide_eq_true (and_l (and_r hm))]
  exact i _ c (and_r (and_r hm))
theorem E_cmp {a : ME} {ops : List CmpOp} {bs : List ME} (i1 : SemE C n ρ a σ x σ1) (i2 : SemC C n ρ x ops bs σ1 b σ2) : SemE C n ρ (.cmp a ops bs) σ (.bool b) σ2 := fun {env nm expr hid A s as} c hm => by
  have h2 := and_r (and_r hm)
  refine WP.ex (and_l hm) ?_
  show WP C A (eval (.Compare _ _ _ _) env) _ s
  rw [arm_eval_Compare, markedEach_of_false _ _ _ (nott (and_r (and_r h2))), of_decide_eq_true (and_l (and_r hm))]
  exact wpAny_bind (goE i1 c (and_l h2) fun v1 s1 as1 c1 t1 r1 => (i2 _ c1 (and_l (and_r h2)) r1).1.mono fun v2 s2 z2 => EPost.tr t1 z2)
theorem T_cmp {a : ME} {ops : List CmpOp} {bs : List ME} (i1 : SemE C n ρ a σ x σ1) (i2 : SemC C n ρ x ops bs σ1 b σ2) : SemT C n ρ (.cmp a ops bs) σ b σ2 := fun {env nm expr hid A s as} c _ hm => by
  have h2 := and_r (and_r hm)
  rw [is_eq (and_l hm)]
  show WP C A (isTrue (.Compare _ _ _ _) env _) _ s
  rw [arm_isTrue_Compare, markedEach_of_false _ _ _ (nott (and_r (and_r h2))), of_decide_eq_true (and_l (and_r hm))]
  exact wpAny_bind (goE i1 c (and_l h2) fun v1 s1 as1 c1 t1 r1 => (i2 _ c1 (and_l (and_r h2)) r1).2.mono fun v2 s2 z2 => TPost.tr t1 z2)
theorem E_ite {t a e : ME} {z : Bool} (i1 : SemT C n ρ t σ z σ1) (i2 : SemE C n ρ (cond z a e) σ1 x σ2) : SemE C n ρ (.ite t a e) σ x σ2 := fun {env nm expr hid A s as} c hm => by
  have h1 := and_l (and_r hm)
  have h2 := and_r (and_r hm)
  refine WP.ex (and_l hm) (wpAny_IfExp (goT i1 c (and_l h1) (and_r h1) fun s1 as1 c1 t1 => ?_))
  cases z
  · exact (i2 c1 (and_r h2)).mono fun v s z => EPost.tr t1 z
  · exact (i2 c1 (and_l h2)).mono fun v s z => EPost.tr t1 z

theorem frzs_ok : ∀ {xs ys : List AV} {vs : List Value} {σ σ' : St}, FrzsR σ xs ys σ' → OK C hid s as σ → RepL C (gv hid s as σ) as xs vs → Aft C hid s as σ as σ' s ∧ RepL C (gv hid s as σ') as ys vs := by
  intro xs ys vs σ σ' h
  induction h generalizing vs with
  | same _ => exact fun k r => ⟨⟨k, Stp.refl _ _ _ _⟩, r⟩
  | cons h1 _ ih =>
    intro k r
    obtain ⟨v, q, r1, r2⟩ := (r : RCons _ _ vs)
    obtain ⟨⟨k1, t1⟩, r1⟩ := frz_ok k r1 h1
    obtain ⟨⟨k2, t2⟩, r2⟩ := ih k1 (stp_repL t1 r2)
    exact ⟨⟨k2, stp_tr t1 t2⟩, RCons.mk v q (stp_rep t2 r1) r2⟩
theorem E_tup {xs : List ME} {vs ws : List AV} (i : SemEs C n ρ xs σ vs σ1) (h2 : FrzsR σ1 vs ws σ2) (h3 : ws.length ≤ szl) : SemE C n ρ (.tup xs) σ (.tup ws) σ2 := fun {env nm expr hid A s as} c hm => by
  refine WP.ex (and_l hm) (wpAny_Tuple (goEs i c (and_r hm) _ fun vs s1 as1 c1 t1 r1 => ?_))
  obtain ⟨⟨k2, t2⟩, r2⟩ := frzs_ok h2 c1.k r1
  have K := keeps_push s1 { cls := .type "tuple", data := .seq vs.toArray } s1.toks
  exact ⟨by rw [r2.len]; exact le_line h3, EPost.tr (stp_tr t1 t2) ⟨as1, k2.keeps K, Stp.keeps K, RSeq.mk _ vs ⟨_, vis_new k2.inh (Heap.get?_push_size _ rfl), rfl, 0, rfl⟩ (stp_repL (Stp.keeps K) r2)⟩⟩
theorem E_lst {xs : List ME} {vs : List AV} (i : SemEs C n ρ xs σ vs σ1) (h3 : vs.length ≤ szl) : SemE C n ρ (.lst xs) σ (.list vs) σ1 := fun {env nm expr hid A s as} c hm => by
  refine WP.ex (and_l hm) (wpAny_List (goEs i c (and_r hm) _ fun vs s1 as1 c1 t1 r1 => ?_))
  have K := keeps_push s1 { cls := .type "list", data := .seq vs.toArray } s1.toks
  exact ⟨by rw [r1.len]; exact le_line h3, EPost.tr t1 ⟨as1, c1.k.keeps K, Stp.keeps K, RSeq.mk _ vs ⟨_, vis_new c1.k.inh (Heap.get?_push_size _ rfl), rfl, 0, rfl⟩ (stp_repL (Stp.keeps K) r1)⟩⟩
theorem base_none (k : OK C hid s as σ) {a : Addr} (h : s.heap.get? a = none) : C.H.get? a = none := by
  cases e : C.H.get? a with
  | none => rfl
  | some o => exact ne_of_get h (k.base _ _ e)
theorem size_big (k : OK C hid s as σ) : (s.heap.objs.size == sysModules) = false :=
  beq_eq_false_iff_ne.mpr fun e => absurd (e ▸ (C.T.g.keeps k.base).lt : 3 < sysModules) (by decide)
theorem own_new {o : OObj} {a : Addr} (k : OK C hid s as σ) (h : Aft C hid s as σ (as ++ [a]) (σ ++ [o]) s') : EPost C hid s as σ (.own σ.length) (σ ++ [o]) (.ref a) s' :=
  ⟨_, h.1, h.2, RRef.mk a (by rw [← k.len]; exact List.getElem?_concat_length)⟩
theorem E_newl {xs : List ME} {vs : List AV} (i : SemEs C n ρ xs σ vs σ1) (h2 : frozens vs = true) (h3 : vs.length ≤ szl) : SemE C n ρ (.newl xs) σ (.own σ1.length) (σ1 ++ [.list vs]) := fun {env nm expr hid A s as} c hm => by
  refine WP.ex (and_l hm) (wpAny_List (goEs i c (and_r hm) _ fun vs s1 as1 c1 t1 r1 => ⟨by rw [r1.len]; exact le_line h3, ?_⟩))
  have q := Heap.get?_push_size (o := { cls := .type "list", data := .seq vs.toArray }) s1.heap rfl
  exact EPost.tr t1 (own_new c1.k (c1.k.newOwn (t := s1.toks) rfl (size_none _) (fun b ob e => Heap.get?_push_of_some _ e) q ⟨vs, ⟨0, q⟩, RepL.noown h2 r1⟩))
theorem E_newd : SemE C n ρ .newd σ (.own σ.length) (σ ++ [.map []]) := fun {env nm expr hid A s as} c hm => by
  refine WP.ex (and_l hm) ?_
  show WP C A (eval (.Dict _ _ _) env) _ s
  rw [List.isEmpty_iff.mp (and_l (and_r hm)), List.isEmpty_iff.mp (and_r (and_r hm))]
  have q := Heap.get?_push_size (o := { cls := .type "dict", data := .dict #[] }) s.heap rfl
  exact wpAny_Dict_empty (own_new c.k (c.k.newOwn (t := s.toks) rfl (size_none _) (fun b ob e => Heap.get?_push_of_some _ e) q ⟨size_big c.k, [], _, _, _, q, ⟨rfl, rfl, rfl⟩, rfl, rfl, (fun _ h => nomatch h), List.nodup_nil, rfl⟩))
theorem E_att (S : Static C) {o : ME} {a : Atr} (i : SemE C n ρ o σ x σ1) (h : AttR σ1 a x u) : SemE C n ρ (.att o a) σ u σ1 := fun {env nm expr hid A s as} c hm => by
  have h2 := and_r (and_r hm)
  refine WP.ex (and_l hm) (Attribute_any_ (goE i c (and_r h2) fun v s1 as1 c1 t1 r1 => ?_) (by rw [arm_eval_Attribute, base_of (and_l h2)]))
  rw [← eq_of_beq (and_l (and_r hm))]
  refine (att_ok S.cls c1.k r1 h).mono fun u s2 z2 => ?_
  obtain ⟨rfl, z2⟩ := z2
  exact EPost.tr t1 (c1.lit z2)
theorem item_end {i : Value} {va sl : Expr} {o : Value} (c1 : Cx C n A env nm ρ hid s' as' σ1) (t : Stp [] s as σ s' as' σ1) (h : Item C A s' o i (Res C (hid ++ alive as' σ1) as' u s')) : WP C A (subscriptTail va sl o i) (EPost C hid s as σ u σ1) s' :=
  let ⟨T, id, q1, q2, q3⟩ := h
  Item.tail ⟨T, id, q1, q2, WP.mono q3 fun v3 s3 z3 => EPost.tr t (Res.epost c1.k z3)⟩
theorem E_sub {a b : ME} (i1 : SemE C n ρ a σ x σ1) (i2 : SemE C n ρ b σ1 y σ2) (h : SubR (dr σ2 x) y u) : SemE C n ρ (.sub a b) σ u σ2 := fun {env nm expr hid A s as} c hm =>
  WP.ex (and_l hm) (Subscript_ (goE i1 c (and_l (and_r hm)) fun v1 s1 as1 c1 t1 r1 => goE i2 c1 (and_r (and_r hm)) fun v2 s2 as2 c2 t2 r2 => item_end c2 (stp_tr t1 t2) (subOp_ok c2.au (dr_rep c2.k (stp_rep t2 r1)) r2 h)))
theorem E_slc {a : ME} {l u' : Option ME} {l' u2 : Option Int} (i1 : SemE C n ρ a σ x σ1) (i2 : SemO C n ρ l σ1 l' σ2) (i3 : SemO C n ρ u' σ2 u2 σ3) (h : SlcR (dr σ3 x) l' u2 u) : SemE C n ρ (.slc a l u') σ u σ3 := fun {env nm expr hid A s as} c hm => by
  have h2 := and_r (and_r hm)
  have h3 := and_r (and_r h2)
  refine WP.ex (and_l hm) (Subscript_ (goE i1 c (and_l (and_r h2)) fun v1 s1 as1 c1 t1 r1 => WP.ex (and_l (and_r hm)) ?_))
  show WP C A (eval (.Slice _ _ _ _) env) _ s1
  rw [Option.isNone_iff_eq_none.mp (and_l h2)]
  refine wpAny_Slice (goO i2 c1 (and_l h3) fun v2 s2 as2 c2 t2 p2 => goO i3 c2 (and_r h3) fun v3 s3 as3 c3 t3 p3 => wpAny_pure ?_)
  have K := keeps_push s3 { cls := .type "slice", data := .fields #[v2, v3, .none] } s3.toks
  have c4 := c3.keeps K
  have t23 := stp_tr t2 (stp_tr t3 (Stp.keeps K))
  exact item_end c4 (stp_tr t1 t23) (slcOp_ok c4.k.inh (dr_rep c4.k (stp_rep t23 r1)) ⟨_, Heap.get?_push_size _ rfl, rfl, rfl⟩ p2 p3 h)

theorem Es_nil : SemEs C n ρ [] σ [] σ := fun {env nm exprs hid A s as} pos c hm => by
  rw [List.isEmpty_iff.mp hm]; exact wpAny_items_nil ⟨as, c.k, Stp.refl _ _ _ _, rfl⟩
theorem Es_cons {e : ME} {es : List ME} {xs : List AV} (i1 : SemE C n ρ e σ x σ1) (i2 : SemEs C n ρ es σ1 xs σ2) : SemEs C n ρ (e :: es) σ (x :: xs) σ2 := fun {env nm exprs hid A s as} pos c hm => by
  cases exprs with
  | nil => exact ff hm
  | cons ex exprs =>
    exact wpAny_items_cons (goE i1 c (and_l (and_r hm)) fun v s1 as1 c1 t1 r1 => goEs i2 c1 (and_r (and_r hm)) pos fun vs s2 as2 c2 t2 r2 => ⟨as2, c2.k, stp_tr t1 t2, RCons.mk v vs (stp_rep t2 r1) r2⟩) (star_of (and_l (and_l hm)) _ _)
theorem O_nil : SemO C n ρ none σ none σ := fun {env nm expr hid A s as} c hm => by
  rw [Option.isNone_iff_eq_none.mp hm]; exact wpAny_pure ⟨as, c.k, Stp.refl _ _ _ _, .none⟩
theorem O_some {e : ME} {i : Int} (h : SemE C n ρ e σ (.int i) σ1) : SemO C n ρ (some e) σ (some i) σ1 := fun {env nm expr hid A s as} c hm => by
  cases expr with
  | none => exact ff hm
  | some ex => exact goE h c hm fun v s1 as1 c1 t1 r1 => by obtain ⟨t⟩ := (r1 : RInt _ v); exact ⟨as1, c1.k, t1, .int i t⟩

/-! tests -/
theorem T_gen {e : ME} (hg : isGen e = true) (i : SemE C n ρ e σ x σ1) (h : TruR (dr σ1 x) b) : SemT C n ρ e σ b σ1 := fun {env nm expr hid A s as} c g hm => by
  have g := and_r g
  rw [hg] at g
  refine wpAny_isTrue_value (goE i c hm fun v s1 as1 c1 t1 r1 => (truthy_ok (dr_rep c1.k r1) h).mono fun z s2 z2 => ?_) (genX_of g _ _)
  obtain ⟨z2, rfl⟩ := z2
  exact ⟨as1, c1.k.keeps z2, stp_tr t1 (Stp.keeps z2)⟩
theorem T_nt {a : ME} (i : SemT C n ρ a σ b σ1) : SemT C n ρ (.nt a) σ (!b) σ1 := fun {env nm expr hid A s as} c _ hm => by
  rw [is_eq (and_l hm)]
  show WP C A (isTrue (.UnaryOp _ _ _) env _) _ s
  rw [of_decide_eq_true (and_l (and_r hm))]
  exact wpAny_isTrue_Not (goT i c (and_l (and_r (and_r hm))) (and_r (and_r (and_r hm))) fun s1 as1 c1 t1 => ⟨as1, c1.k, t1⟩)
theorem T_bop {k : Bool} {xs : List ME} (i : SemTB C n k ρ xs σ b σ1) : SemT C n ρ (.bop k xs) σ b σ1 := fun {env nm expr hid A s as} c _ hm => by
  rw [is_eq (and_l hm)]
  refine wpAny_isTrue_BoolOp ?_
  rw [of_decide_eq_true (and_l (and_r hm))]
  exact i c (and_r (and_r hm))
theorem TB_nil {k : Bool} : SemTB C n k ρ [] σ k σ := fun {env nm exprs hid A s as} c hm => by
  rw [List.isEmpty_iff.mp hm]
  cases k
  · exact wpAny_allTrue_Or_nil ⟨as, c.k, Stp.refl _ _ _ _⟩
  · exact wpAny_allTrue_And_nil ⟨as, c.k, Stp.refl _ _ _ _⟩
theorem TB_go {k : Bool} {e : ME} {es : List ME} (i1 : SemT C n ρ e σ k σ1) (i2 : SemTB C n k ρ es σ1 b σ2) : SemTB C n k ρ (e :: es) σ b σ2 := fun {env nm exprs hid A s as} c hm => by
  cases exprs with
  | nil => exact ff hm
  | cons ex exprs =>
    have key : ∀ s1 as1, Cx C n A env nm ρ hid s1 as1 σ1 → Stp [] s as σ s1 as1 σ1 → WP C A (allTrue (cond k .And .Or) exprs env) (fun c s' => TPost C hid s as σ b σ2 s' c) s1 := fun s1 as1 c1 t1 => (i2 c1 (and_r (and_r hm))).mono fun _ _ z => TPost.tr t1 z
    cases k
    · exact wpAny_allTrue_Or_cons (goT i1 c (and_l hm) (and_l (and_r hm)) key)
    · exact wpAny_allTrue_And_cons (goT i1 c (and_l hm) (and_l (and_r hm)) key)
theorem TB_stop {k : Bool} {e : ME} {es : List ME} (i1 : SemT C n ρ e σ (!k) σ1) : SemTB C n k ρ (e :: es) σ (!k) σ1 := fun {env nm exprs hid A s as} c hm => by
  cases exprs with
  | nil => exact ff hm
  | cons ex exprs =>
    cases k
    · exact wpAny_allTrue_Or_cons (goT i1 c (and_l hm) (and_l (and_r hm)) fun s1 as1 c1 t1 => ⟨as1, c1.k, t1⟩)
    · exact wpAny_allTrue_And_cons (goT i1 c (and_l hm) (and_l (and_r hm)) fun s1 as1 c1 t1 => ⟨as1, c1.k, t1⟩)
theorem Ts_false (env : Env) : ∀ (exprs : List Expr) {Q : Bool → Shared → Prop}, Q false s → WP C A (testsOf env exprs false) Q s
  | [], Q, h => wpAny_pure h
  | e :: es, Q, h => by
    unfold testsOf
    rw [List.forIn_cons, if_neg (by decide)]
    exact wpAny_bind (wpAny_pure (Ts_false env es h))
theorem Ts_nil : SemTs C n ρ [] σ true σ := fun {env nm exprs hid A s as} c hm => by
  rw [List.isEmpty_iff.mp hm]; exact wpAny_pure ⟨as, c.k, Stp.refl _ _ _ _⟩
theorem Ts_cons {Q : Bool → Shared → Prop} {ex : Expr} {exprs : List Expr} (h : WP C A (isTrue ex env (eval ex env)) (fun b s1 => WP C A (testsOf env exprs b) Q s1) s) : WP C A (testsOf env (ex :: exprs) true) Q s := by
  unfold testsOf
  rw [List.forIn_cons, if_pos rfl]
  exact wpAny_bind (wpAny_bind (WP.mono h fun b s1 z => wpAny_pure z))
theorem Ts_go {e : ME} {es : List ME} (i1 : SemT C n ρ e σ true σ1) (i2 : SemTs C n ρ es σ1 b σ2) : SemTs C n ρ (e :: es) σ b σ2 := fun {env nm exprs hid A s as} c hm => by
  cases exprs with
  | nil => exact ff hm
  | cons ex exprs => exact Ts_cons (goT i1 c (and_l hm) (and_l (and_r hm)) fun s1 as1 c1 t1 => (i2 c1 (and_r (and_r hm))).mono fun _ _ z => TPost.tr t1 z)
theorem Ts_stop {e : ME} {es : List ME} (i1 : SemT C n ρ e σ false σ1) : SemTs C n ρ (e :: es) σ false σ1 := fun {env nm exprs hid A s as} c hm => by
  cases exprs with
  | nil => exact ff hm
  | cons ex exprs => exact Ts_cons (goT i1 c (and_l hm) (and_l (and_r hm)) fun s1 as1 c1 t1 => Ts_false env exprs ⟨as1, c1.k, t1⟩)

/-! and, or as values -/
theorem Bs_one {k : Bool} {e : ME} (i : SemE C n ρ e σ x σ1) : SemBs C n k ρ [e] σ x σ1 := fun {env nm exprs hid A s as} pos c hm => by
  cases exprs with
  | nil => exact ff hm
  | cons ex exprs =>
    rw [List.isEmpty_iff.mp (and_r (and_r hm))]
    exact i c (and_l (and_r hm))
theorem Bs_step {k b : Bool} {e e' : ME} {es : List ME} (i : SemE C n ρ e σ x σ1) (h : TruR (dr σ1 x) b) {exprs : List Expr} (pos : Pos) (c : Cx C n A env nm ρ hid s as σ) (hm : mEs env.scope nm (e :: e' :: es) exprs = true)
    (hk : ∀ exs v s1 as1, mEs env.scope nm (e' :: es) exs = true → Cx C n A env nm ρ hid s1 as1 σ1 → Stp [] s as σ s1 as1 σ1 → Rep C (gv hid s1 as1 σ1) as1 x v → cond (b == k) (WP C A (boolOp pos (cond k .And .Or) (evalEach exs env)) Q s1) (Q v s1)) : WP C A (boolOp pos (cond k .And .Or) (evalEach exprs env)) Q s := by
  cases exprs with
  | nil => exact ff hm
  | cons ex exprs =>
    have hm' := and_r (and_r hm)
    cases exprs with
    | nil => exact ff hm'
    | cons ex' exs =>
      show WP C A (eval ex env >>= _) Q s
      refine wpAny_bind (goE i c (and_l (and_r hm)) fun v s1 as1 c1 t1 r1 => wpAny_bind (wpAny_standAt (wpAny_bind (wpAny_holding ((truthy_ok (dr_rep c1.k r1) h).mono fun b' s2 z2 => ?_)))))
      obtain ⟨z2, rfl⟩ := z2
      have q := hk (ex' :: exs) v s2 as1 hm' (c1.keeps z2) (stp_tr t1 (Stp.keeps z2)) (stp_rep (Stp.keeps z2) r1)
      cases k <;> cases b'
      · exact q
      · exact wpAny_pure q
      · exact wpAny_pure q
      · exact q
theorem Bs_go {k : Bool} {e e' : ME} {es : List ME} (i : SemE C n ρ e σ x σ1) (h : TruR (dr σ1 x) k) (i2 : SemBs C n k ρ (e' :: es) σ1 y σ2) : SemBs C n k ρ (e :: e' :: es) σ y σ2 := fun {env nm exprs hid A s as} pos c hm =>
  Bs_step i h pos c hm fun exs v s1 as1 hm' c1 t1 r1 => by rw [beq_self_eq_true]; exact (i2 pos c1 hm').mono fun _ _ z => EPost.tr t1 z
theorem Bs_stop {k : Bool} {e e' : ME} {es : List ME} (i : SemE C n ρ e σ x σ1) (h : TruR (dr σ1 x) (!k)) : SemBs C n k ρ (e :: e' :: es) σ x σ1 := fun {env nm exprs hid A s as} pos c hm =>
  Bs_step i h pos c hm fun exs v s1 as1 hm' c1 t1 r1 => by rw [show ((!k) == k) = false by cases k <;> rfl]; exact ⟨as1, c1.k, t1, r1⟩

/-! chains of comparisons -/
theorem C_step (S : Static C) {e : ME} {op : CmpOp} {ex : Expr} {Q : Value → Value → Shared → Prop} (i : SemE C n ρ e σ y σ1) (h : CmpR op (dr σ1 x) (dr σ1 y) b) (c : Cx C n A env nm ρ hid s as σ) (hm : mE env.scope nm e ex = true) (hr : Rep C (gv hid s as σ) as x v)
    (k : ∀ u s2 as2, Cx C n A env nm ρ hid s2 as2 σ1 → Stp [] s as σ s2 as2 σ1 → Rep C (gv hid s2 as2 σ1) as2 y u → Q u (.bool b) s2) : WP C A (eval ex env) (fun u s1 => WP C A (compareOp op v u) (Q u) s1) s :=
  goE i c hm fun u s1 as1 c1 t1 r1 => (cmpOp_ok S.meq c1.au (dr_rep c1.k (stp_rep t1 hr)) (dr_rep c1.k r1) h).mono fun z s2 z2 => by
    obtain ⟨z2, rfl⟩ := z2
    exact k u s2 as1 (c1.keeps z2) (stp_tr t1 (Stp.keeps z2)) (stp_rep (Stp.keeps z2) r1)
theorem C_one (S : Static C) {e : ME} {op : CmpOp} (i : SemE C n ρ e σ y σ1) (h : CmpR op (dr σ1 x) (dr σ1 y) b) : SemC C n ρ x [op] [e] σ b σ1 := fun {env nm exprs hid A s as v} pos c hm hr => by
  cases exprs with
  | nil => exact ff hm
  | cons ex exprs =>
    rw [List.isEmpty_iff.mp (and_r (and_r hm))]
    exact ⟨chain_last (C_step S i h c (and_l (and_r hm)) hr fun u s2 as2 c2 t2 _ => ⟨as2, c2.k, t2, rfl⟩), test_last (C_step S i h c (and_l (and_r hm)) hr fun u s2 as2 c2 t2 _ => wpAny_truthy_bool ⟨as2, c2.k, t2⟩)⟩
theorem C_go (S : Static C) {e e' : ME} {es : List ME} {op op' : CmpOp} {ops : List CmpOp} (i : SemE C n ρ e σ y σ1) (h : CmpR op (dr σ1 x) (dr σ1 y) true) (i2 : SemC C n ρ y (op' :: ops) (e' :: es) σ1 b σ2) : SemC C n ρ x (op :: op' :: ops) (e :: e' :: es) σ b σ2 := fun {env nm exprs hid A s as v} pos c hm hr => by
  cases exprs with
  | nil => exact ff hm
  | cons ex exprs =>
    have hm' := and_r (and_r hm)
    cases exprs with
    | nil => exact ff hm'
    | cons ex' exprs =>
      exact ⟨chain_link (C_step S i h c (and_l (and_r hm)) hr fun u s2 as2 c2 t2 r2 => wpAny_truthy_bool ((i2 pos c2 hm' r2).1.mono fun _ _ z => EPost.tr t2 z)), test_link (C_step S i h c (and_l (and_r hm)) hr fun u s2 as2 c2 t2 r2 => wpAny_truthy_bool ((i2 pos c2 hm' r2).2.mono fun _ _ z => TPost.tr t2 z))⟩
theorem C_stop (S : Static C) {e e' : ME} {es : List ME} {op op' : CmpOp} {ops : List CmpOp} (i : SemE C n ρ e σ y σ1) (h : CmpR op (dr σ1 x) (dr σ1 y) false) : SemC C n ρ x (op :: op' :: ops) (e :: e' :: es) σ false σ1 := fun {env nm exprs hid A s as v} pos c hm hr => by
  cases exprs with
  | nil => exact ff hm
  | cons ex exprs =>
    have hm' := and_r (and_r hm)
    cases exprs with
    | nil => exact ff hm'
    | cons ex' exprs =>
      exact ⟨chain_link (C_step S i h c (and_l (and_r hm)) hr fun u s2 as2 c2 t2 r2 => wpAny_truthy_bool ⟨as2, c2.k, t2, rfl⟩), test_link (C_step S i h c (and_l (and_r hm)) hr fun u s2 as2 c2 t2 r2 => wpAny_truthy_bool ⟨as2, c2.k, t2⟩)⟩
end
section
variable {C : SC} {n : Nat} {A : Around} {env : Env} {nm : List Str} {ρ : List AV} {hid : List Addr} {s s' s'' : Shared} {as as' as'' : List Addr} {σ σ' σ1 σ2 σ3 : St} {r x y u : AV} {v w : Value} {e : Expr} {Q : Value → Shared → Prop} {b : Bool}

theorem stars_all {sc : Scope} : ∀ {args : List ME} {es : List Expr}, mEs sc nm args es = true → starEach es env = es.map (fun e => (false, eval e env))
  | [], es, hm => by rw [List.isEmpty_iff.mp hm]; rfl
  | a :: args, [], hm => ff hm
  | a :: args, e :: es, hm => by rw [star_of (and_l (and_l hm)), stars_all (and_r (and_r hm))]; rfl
theorem plain_all (pos : Pos) (es : List Expr) : (backTo pos (es.map fun e => (false, eval e env))).any (·.1) = false ∧ (backTo pos (es.map fun e => (false, eval e env))).all (fun x => !x.1) = true := by
  induction es with
  | nil => exact ⟨rfl, rfl⟩
  | cons e es ih => exact ⟨ih.1, ih.2⟩

theorem drs_rep (k : OK C hid s as σ) : ∀ {xs : List AV} {vs : List Value}, RepL C (gv hid s as σ) as xs vs → RepDL C s.heap (gv hid s as σ) as (xs.map (dr σ)) vs
  | [], _, h => h
  | x :: xs, vs, h => by obtain ⟨v, r, h2, h3⟩ := (h : RCons _ _ vs); exact RCons.mk v r (dr_rep k h2) (drs_rep k h3)

theorem evalArgs_nil' {f : Value} {Q : Args → Shared → Prop} (h : WP C A (spliced []) (fun vs s' => Q ⟨vs, []⟩ s') s) : WP C A (evalArgs f true [] []) Q s := by
  unfold evalArgs
  show wpAny _ A (spliced [] >>= _) Q _ s
  exact wpAny_bind (WP.mono h fun vs s' h' => wpAny_bind (wpAny_pure (wpAny_holding (wpAny_bind (wpAny_pure (wpAny_bind (wpAny_pure (wpAny_pure h'))))))))
theorem callWith_es {args : List ME} {es : List Expr} {pos : Pos} {xs : List AV} {f : Value} {first : List Value} (i : SemEs C n ρ args σ xs σ1) (c : Cx C n A env nm ρ hid s as σ) (hm : mEs env.scope nm args es = true)
    (hk : (∃ id, f = .builtin id) ∨ (∃ T, f = .type T) ∨ keepIn C.K f = true)
    (h : ∀ vs s1 as1, Cx C n A env nm ρ hid s1 as1 σ1 → Stp [] s as σ s1 as1 σ1 → RepL C (gv hid s1 as1 σ1) as1 xs vs → WP C A (call f (first ++ vs)) Q s1) :
    WP C A (callWith pos f first (backTo pos (starEach es env)) []) Q s := by
  have key : WP C A (spliced (backTo pos (starEach es env))) (fun vs s₁ => C.K.In s₁.heap ∧ WP C A (call f (first ++ vs)) Q s₁) s := goEs i c hm pos fun vs s1 as1 c1 t1 r1 => ⟨c1.k.X, h vs s1 as1 c1 t1 r1⟩
  have hst := stars_all (env := env) hm
  have ev : WP C A (evalArgs f true (backTo pos (starEach es env)) []) (fun a s₁ => C.K.In s₁.heap ∧ WP C A (call f (first ++ a.pos) a.kw) Q s₁) s := by
    rw [hst] at key ⊢
    cases es with
    | nil => exact evalArgs_nil' key
    | cons e es => exact evalArgs_plain (x := eval e env) key
  have hp : (backTo pos (starEach es env)).any (·.1) = false := by rw [hst]; exact (plain_all pos es).1
  rcases hk with ⟨id, rfl⟩ | ⟨T, rfl⟩ | hk
  · exact Calls.callWith_builtin hp (WP.mono ev fun _ _ z => z.2)
  · exact PyProof.Rows.callWith_type hp (WP.mono ev fun _ _ z => z.2)
  · exact callWith_of (by rw [hp]; rfl) (keeps_K hk) ev

theorem callN_eq (h : callN e = true) : e = .Call (.Name (cName e) (xf (xf e).a).pos) (xf e).xs [] (xf e).pos := by
  have h1 := is_eq (and_l h)
  have h2 := is_eq (and_l (and_r h))
  have h3 := List.isEmpty_iff.mp (and_r (and_r h))
  refine h1.trans ?_
  show Expr.Call (xf e).a (xf e).xs (xf e).kws (xf e).pos = _
  rw [h3]
  exact congrArg (fun a => Expr.Call a (xf e).xs [] (xf e).pos) h2
theorem WP.callN (h : callN e = true) (w : WP C A (eval (.Name (cName e) (xf (xf e).a).pos) env) (fun f s₁ => WP C A (callWith (xf e).pos f [] (backTo (xf e).pos (starEach (xf e).xs env)) []) Q s₁) s) : WP C A (eval e env) Q s := by
  rw [callN_eq h]; exact Call_Name rfl w

theorem E_bi (S : Static C) {b : BI} {args : List ME} {xs : List AV} (i : SemEs C n ρ args σ xs σ1) (h : BiR b (xs.map (dr σ1)) u) : SemE C n ρ (.bi b args) σ u σ1 := fun {env nm expr hid A s as} c hm => by
  have h2 := and_r hm
  have hn := eq_of_beq (and_l (and_r h2))
  refine WP.callN (and_l hm) (name_bi c (and_l h2) (hn ▸ S.bi b) (hn ▸ b.boot) (hn ▸ by cases b <;> decide +kernel) ?_)
  refine callWith_es i c (and_r (and_r h2)) (by cases b <;> first | exact .inl ⟨_, rfl⟩ | exact .inr (.inl ⟨_, rfl⟩)) fun vs s1 as1 c1 t1 r1 => ?_
  exact (biOp_ok S.srt S.dct (size_big c1.k) c1.a c1.k.inh (drs_rep c1.k r1) h).mono fun v2 s2 z2 => EPost.tr t1 (Res.epost c1.k z2)

theorem two_of {es : List Expr} (e : Expr) (h : es.length = 2) : es = [es.getD 0 e, es.getD 1 e] := by
  match es, h with
  | [a, b], _ => rfl
theorem E_isint (S : Static C) {a : ME} {k : Int} (i : SemE C n ρ a σ (.int k) σ1) : SemE C n ρ (.isint a) σ (.bool true) σ1 := fun {env nm expr hid A s as} c hm => by
  have h2 := and_r hm
  have h3 := and_r (and_r h2)
  have h4 := and_r (and_r (and_r h3))
  have hn := eq_of_beq (and_l (and_r h2))
  refine WP.callN (and_l hm) (name_bi c (and_l h2) (hn ▸ S.isi) (hn ▸ boot_isinstance) (hn ▸ by decide +kernel) ?_)
  rw [two_of expr (Nat.eq_of_beq_eq_true (and_l h3))]
  show WP C A (callWith _ _ _ (backTo _ (starEach [itemN expr 0, itemN expr 1] env)) []) _ s
  rw [star_of (and_l (and_r h3)), is_eq (and_l h4)]
  refine Calls.callWith_builtin (by rfl) (evalArgs_plain (x := eval (itemN expr 0) env) (spliced_cons (goE i c (and_l (and_r (and_r h3))) fun v s1 as1 c1 t1 r1 => spliced_cons ?_)))
  obtain ⟨t⟩ := (r1 : RInt _ v)
  have hy := eq_of_beq (and_l (and_r h4))
  exact name_bi c1 (and_r (and_r h4)) (hy ▸ S.bi .int) (hy ▸ BI.int.boot) (hy ▸ by decide +kernel) (spliced_nil (IsiPair.int_int ⟨as1, c1.k, t1, rfl⟩))

theorem E_call (S : Static C) {f : Nat} {args : List ME} {xs : List AV} (i : SemEs C n ρ args σ xs σ1) (i2 : SemF C n f xs σ1 u σ2) : SemE C n ρ (.call f args) σ u σ2 := fun {env nm expr hid A s as} c hm => by
  have h2 := and_r hm
  obtain ⟨q1, q2⟩ := S.fn _ _ (eq_of_beq (and_l (and_r h2)))
  refine WP.callN (and_l hm) (name_gl c (and_l h2) q1 (callWith_es i c (and_r (and_r h2)) (.inr (.inr q2)) fun vs s1 as1 c1 t1 r1 => wpAny_call (codeAny_mono (i2 c1.a.b c1.k r1) fun o s2 z2 => ?_)))
  obtain ⟨v, rfl, z2⟩ := z2
  exact EPost.tr t1 z2

theorem callM_eq (h : callM e = true) : e = .Call (.Attribute (xf (xf e).a).a (cName e) (xf (xf e).a).pos) (xf e).xs [] (xf e).pos := by
  have h1 := is_eq (and_l h)
  have h2 := is_eq (and_l (and_r h))
  have h3 := List.isEmpty_iff.mp (and_l (and_r (and_r h)))
  refine h1.trans ?_
  show Expr.Call (xf e).a (xf e).xs (xf e).kws (xf e).pos = _
  rw [h3]
  exact congrArg (fun a => Expr.Call a (xf e).xs [] (xf e).pos) h2
theorem form_of {m : Nat} (h : Nat.ble (m + 1) 29 = true) : decide (m + 0 + 0 < 30) = true := decide_eq_true (Nat.lt_of_lt_of_le (Nat.le_of_ble_eq_true h) (by decide))
theorem WP.callM {sc : Scope} {args : List ME} (h : callM e = true) (hs : mEs sc nm args (xf e).xs = true)
    (w : WP C A (eval (xf (xf e).a).a env) (fun ov s₁ => ∀ pl, WP C A (getMethod ov (cName e) pl) (fun fp s₂ => WP C A (callWith (xf e).pos fp.1 fp.2 (backTo (xf e).pos (starEach (xf e).xs env)) []) Q s₂) s₁) s) : WP C A (eval e env) Q s := by
  have h4 := and_r (and_r (and_r h))
  have h5 := and_r h4
  rw [callM_eq h, arm_eval_Call, base_of (and_l h4)]
  refine wpAny_bind (WP.mono w fun ov s₁ h₁ => wpAny_bind (wpAny_standAt ?_))
  have hform : methodCallForm ((xf e).xs.length + ([] : List Keyword).length) (backTo (xf e).pos (starEach (xf e).xs env)) (backToKw (xf e).pos (keywordEach [] env)) = true := by
    unfold methodCallForm
    rw [stars_all hs, (plain_all _ _).2]
    exact form_of (and_r h5)
  unfold methodCall
  rw [hform]
  have hpos : methodCallPos true (xf (xf e).a).a env (xf (xf e).a).pos (xf e).pos = pure (xf e).pos := by
    unfold methodCallPos
    rw [Nat.eq_of_beq_eq_true (and_l h5), beq_self_eq_true]; rfl
  rw [hpos]
  refine wpAny_bind (wpAny_holding ?_)
  unfold calleeOf
  rw [if_pos rfl]
  exact WP.mono (h₁ _) fun fp s₂ h₂ => wpAny_bind (wpAny_pure h₂)

theorem E_meth (S : Static C) {c' : Cls} {f : Nat} {o : ME} {args : List ME} {xs : List AV} (i1 : SemE C n ρ o σ x σ1) (hx : (∃ i fl, x = .cur c' i ∧ σ1[i]? = some (.inst c' fl)) ∨ ∃ fl, x = .inst c' fl) (i2 : SemEs C n ρ args σ1 xs σ2) (i3 : SemF C n f (x :: xs) σ2 u σ3) : SemE C n ρ (.meth c' f o args) σ u σ3 := fun {env nm expr hid A s as} c hm => by
  have h2 := and_r hm
  obtain ⟨q1, q2, q3, q4⟩ := S.me _ _ _ (eq_of_beq (and_l h2))
  refine WP.callM (and_l hm) (and_r (and_r h2)) (goE i1 c (and_l (and_r h2)) fun ov s1 as1 c1 t1 r1 pl => meth_ok (S.cls c') c1.k r1 hx q1 q2 q4 ?_)
  refine callWith_es i2 c1 (and_r (and_r h2)) (.inr (.inr q3)) fun vs s2 as2 c2 t2 r2 => wpAny_call (codeAny_mono (i3 (vs := ov :: vs) c2.a.b c2.k (RCons.mk ov vs (stp_rep t2 r1) r2)) fun o s3 z3 => ?_)
  obtain ⟨v, rfl, z3⟩ := z3
  exact EPost.tr (stp_tr t1 t2) z3

theorem get_str {m : LM} {x : List Nat} {xs : List AV} {z : Str} {t : Tok} {pl : Sem Bool} {Q : Value × List Value → Shared → Prop} (h : LmR m x xs r) (hq : Q (.builtin m.id, [.str z t]) s) : WP C A (getMethod (.str z t) m.nm pl) Q s := by
  cases h
  · show WP C A (getMethod (.str z t) "join" pl) Q s
    have hq : Q (.builtin "str.join", [.str z t]) s := hq
    with_reducible exact getMethod_builtin (typeIs_str _ _ _) F.plainAttrs_str PySem.F.slot_str_join PySem.F.type_str_join (fun _ e => nomatch e) hq
  · show WP C A (getMethod (.str z t) "encode" pl) Q s
    have hq : Q (.builtin "str.encode", [.str z t]) s := hq
    with_reducible exact getMethod_builtin (typeIs_str _ _ _) F.plainAttrs_str PySem.F.slot_str_encode PySem.F.type_str_encode (fun _ e => nomatch e) hq
  · show WP C A (getMethod (.str z t) "split" pl) Q s
    have hq : Q (.builtin "str.split", [.str z t]) s := hq
    with_reducible exact getMethod_builtin (typeIs_str _ _ _) F.plainAttrs_str PySem.F.slot_str_split PySem.F.type_str_split (fun _ e => nomatch e) hq
theorem get_list {m : LM} {pl : Sem Bool} {Q : Value × List Value → Shared → Prop} (k : OK C hid s as σ) (r1 : Rep C (gv hid s as σ) as x v) (h : LmOnR σ m x) (hq : Q (.builtin m.id, [v]) s) : WP C A (getMethod v m.nm pl) Q s := by
  cases h with
  | append h =>
    obtain ⟨a, ha, vs, ⟨nn, ho⟩, _⟩ := own_list k r1 h
    show WP C A (getMethod (.ref a) "append" pl) Q s
    have hq : Q (.builtin "list.append", [.ref a]) s := hq
    have hT : s.TypeIs (.ref a) "list" := ⟨_, ho, rfl⟩
    with_reducible exact getMethod_builtin hT F.plainAttrs_list PySem.F.slot_list_append PySem.F.type_list_append (fun b e => ⟨_, Value.ref.inj e ▸ ho, rfl⟩) hq
  | extend h =>
    obtain ⟨a, ha, vs, ⟨nn, ho⟩, _⟩ := own_list k r1 h
    show WP C A (getMethod (.ref a) "extend" pl) Q s
    have hq : Q (.builtin "list.extend", [.ref a]) s := hq
    have hT : s.TypeIs (.ref a) "list" := ⟨_, ho, rfl⟩
    with_reducible exact getMethod_builtin hT F.plainAttrs_list PySem.F.slot_list_extend PySem.F.type_list_extend (fun b e => ⟨_, Value.ref.inj e ▸ ho, rfl⟩) hq
theorem grow_end (c2 : Cx C n A env nm ρ hid s' as' σ2) (t : Stp [] s as σ s' as' σ2) {F : Value} {vs : List Value} (h : WP C A (call F vs) (GP C hid s' as' σ2 σ3) s') : WP C A (call F vs) (EPost C hid s as σ .none σ3) s' :=
  h.mono fun v s3 z3 => ⟨as', z3.2.1, stp_tr t z3.2.2, z3.1⟩
theorem E_lmA {o : ME} {args : List ME} {xs : List AV} (i1 : SemE C n ρ o σ x σ1) (h : LmOnR σ1 .append x) (i2 : SemEs C n ρ args σ1 xs σ2) (h3 : GrowR σ2 .append x xs σ3) : SemE C n ρ (.lm .append o args) σ .none σ3 := fun {env nm expr hid A s as} c hm => by
  have h2 := and_r hm
  refine WP.callM (and_l hm) (and_r (and_r h2)) (goE i1 c (and_l (and_r h2)) fun ov s1 as1 c1 t1 r1 pl => ?_)
  rw [← eq_of_beq (and_l h2)]
  exact get_list c1.k r1 h (callWith_es i2 c1 (and_r (and_r h2)) (.inl ⟨_, rfl⟩) fun vs s2 as2 c2 t2 r2 => grow_end c2 (stp_tr t1 t2) (append_ok c2.k (stp_rep t2 r1) r2 h3))
theorem E_lmE {o : ME} {args : List ME} {xs : List AV} (i1 : SemE C n ρ o σ x σ1) (h : LmOnR σ1 .extend x) (i2 : SemEs C n ρ args σ1 xs σ2) (h3 : GrowR σ2 .extend x (xs.map (dr σ2)) σ3) : SemE C n ρ (.lm .extend o args) σ .none σ3 := fun {env nm expr hid A s as} c hm => by
  have h2 := and_r hm
  refine WP.callM (and_l hm) (and_r (and_r h2)) (goE i1 c (and_l (and_r h2)) fun ov s1 as1 c1 t1 r1 pl => ?_)
  rw [← eq_of_beq (and_l h2)]
  exact get_list c1.k r1 h (callWith_es i2 c1 (and_r (and_r h2)) (.inl ⟨_, rfl⟩) fun vs s2 as2 c2 t2 r2 => grow_end c2 (stp_tr t1 t2) (extend_ok c2.k (stp_rep t2 r1) (drs_rep c2.k r2) h3))
theorem E_lmS (S : Static C) {m : LM} {o : ME} {args : List ME} {xs : List AV} {x : List Nat} (i1 : SemE C n ρ o σ (.str x) σ1) (i2 : SemEs C n ρ args σ1 xs σ2) (h3 : LmR m x (xs.map (dr σ2)) u) : SemE C n ρ (.lm m o args) σ u σ2 := fun {env nm expr hid A s as} c hm => by
  have h2 := and_r hm
  refine WP.callM (and_l hm) (and_r (and_r h2)) (goE i1 c (and_l (and_r h2)) fun ov s1 as1 c1 t1 r1 pl => ?_)
  rw [← eq_of_beq (and_l h2)]
  obtain ⟨t⟩ := (r1 : RStr _ ov)
  exact get_str h3 (callWith_es i2 c1 (and_r (and_r h2)) (.inl ⟨_, rfl⟩) fun vs s2 as2 c2 t2 r2 => (S.lm A s2 _ _ m x _ _ t _ n c2.a c2.k.inh (drs_rep c2.k r2) h3).mono fun v3 s3 z3 => EPost.tr (stp_tr t1 t2) (Res.epost c2.k z3))

/-! new objects -/
theorem tc_weight (c : Addr) (rest : List Value) (kw : List (Str × Value)) : (Code.builtin "type.__call__" ⟨.ref c :: rest, kw⟩).weight = 1 := by kernel_rfl
theorem tc_units (a : Args) : (Code.builtin "type.__call__" a).cUnits = 1 := by kernel_rfl
theorem AOK.under {n : Nat} {A : Around} (h : AOK n A) (c : Addr) (rest : List Value) (kw : List (Str × Value)) : BOK n (A.under (.builtin "type.__call__" ⟨.ref c :: rest, kw⟩)) := by
  refine ⟨h.1, ?_, ?_⟩
  · have := h.2.1
    show A.depth + (Code.builtin "type.__call__" ⟨.ref c :: rest, kw⟩).weight + 2 * n + 3 < recursionLimit
    rw [tc_weight]; omega
  · have := h.2.2
    show A.units + (Code.builtin "type.__call__" ⟨.ref c :: rest, kw⟩).cUnits + 8 * n + 76 < cLine
    rw [tc_units]; omega
/-- a new object's start -/
theorem new_core (S : Static C) {c' : Cls} {z : Bool} {args : List ME} {xs ys : List AV} (i1 : SemEs C n ρ args σ xs σ1) (h : FrzsR σ1 xs ys σ2) (i2 : SemF C n (initOf c') (.cur c' σ2.length :: ys) (σ2 ++ [.inst c' []]) .none σ3) (c : Cx C n A env nm ρ hid s as σ) (hm : mE env.scope nm (.new c' z args) e = true)
    (k : ∀ s2 as2 d s4 as4 v, as2.length = σ2.length → Stp [] s as σ s2 as2 σ2 → Stp [] s as σ s4 as4 σ3 → OK C hid s4 as4 σ3 → Pre (as2 ++ [d]) as4 → Rep C (gv hid s4 as4 σ3) as4 (.cur c' σ2.length) v → Q v s4) : WP C A (eval e env) Q s := by
  have h2 := and_r hm
  obtain ⟨q1, q2, q3, q4⟩ := S.cl c'
  rw [eq_of_beq (and_l (and_r h2))] at q1
  refine WP.callN (and_l hm) (name_gl c (and_l h2) q1 (callWith_es i1 c (and_r (and_r h2)) (.inr (.inr q2)) fun vs s1 as1 c1 t1 r1 => wpAny_call ?_))
  obtain ⟨⟨k2, t2⟩, r2⟩ := frzs_ok h c1.k r1
  have hd0 : ((s1.heap.push emptyDict).push (instObj (C.cls c') s1.heap.objs.size)).get? s1.heap.objs.size = some (dictOf [] 0) := Heap.get?_push_of_some _ (Heap.get?_push_size _ rfl)
  have hx0 := Heap.get?_push_size (o := instObj (C.cls c') s1.heap.objs.size) (s1.heap.push emptyDict) rfl
  rw [Heap.size_push] at hx0
  obtain ⟨k3, t3⟩ := k2.newOwn (o := .inst c' []) (t := s1.toks) (h' := (s1.heap.push emptyDict).push (instObj (C.cls c') s1.heap.objs.size)) rfl (size_none _) (fun b ob e => Heap.get?_push_of_some _ (Heap.get?_push_of_some _ e)) hd0 ⟨[], ⟨0, hd0⟩, rfl⟩
  have far : ∀ {b}, (b ∈ hid ∨ b ∈ alive as1 σ2) → b ≠ s1.heap.objs.size + 1 := fun hb e => by
    obtain ⟨o, q⟩ := k2.inh _ (List.mem_append.mpr hb)
    exact absurd (e ▸ Heap.lt_size q) (Nat.not_lt.mpr (Nat.le_succ _))
  have rx : Rep C (gv hid { s1 with heap := (s1.heap.push emptyDict).push (instObj (C.cls c') s1.heap.objs.size) } (as1 ++ [s1.heap.objs.size]) (σ2 ++ [OObj.inst c' []])) (as1 ++ [s1.heap.objs.size]) (.cur c' σ2.length) (.ref (s1.heap.objs.size + 1)) :=
    RCur.mk _ s1.heap.objs.size ⟨_, gv_get hx0 (fun q => far (.inl q) rfl) fun q => (alive_snoc k2.len q).elim (fun e => absurd e (Nat.succ_ne_self _)) fun q => far (.inr q) rfl⟩ (by rw [← k2.len]; exact List.getElem?_concat_length)
  have hcall := i2 (vs := .ref (s1.heap.objs.size + 1) :: vs) (c1.a.under (C.cls c') vs []) k3 (RCons.mk _ vs rx (stp_repL t3 r2))
  obtain ⟨hh, g, d, tt, os⟩ := s1
  refine make_core (makes_of c1.k.X (S.cls c').mk_) (looks_findIn c1.k.X q3) (fun self => bind_fn c1.k.X self q4) (.inl rfl) (codeAny_mono hcall fun o s4 z4 => ?_)
  obtain ⟨v, rfl, as4, k4, t4, r4⟩ := z4
  cases (r4 : v = .none)
  exact ⟨rfl, k _ as1 _ s4 as4 _ k2.len (stp_tr t1 t2) (stp_tr t1 (stp_tr t2 (stp_tr t3 t4))) k4 t4.pre (stp_rep t4 rx)⟩
theorem E_newK (S : Static C) {c' : Cls} {args : List ME} {xs ys : List AV} (i1 : SemEs C n ρ args σ xs σ1) (h : FrzsR σ1 xs ys σ2) (i2 : SemF C n (initOf c') (.cur c' σ2.length :: ys) (σ2 ++ [.inst c' []]) .none σ3) : SemE C n ρ (.new c' false args) σ (.cur c' σ2.length) σ3 := fun {env nm expr hid A s as} c hm =>
  new_core S i1 h i2 c hm fun s2 as2 d s4 as4 v _ _ t4 k4 _ r4 => ⟨as4, k4, t4, r4⟩
theorem E_newZ (S : Static C) {c' : Cls} {args : List ME} {xs ys : List AV} {τ : St} {fl : List (Atr × AV)} (i1 : SemEs C n ρ args σ xs σ1) (h : FrzsR σ1 xs ys σ2) (i2 : SemF C n (initOf c') (.cur c' σ2.length :: ys) (σ2 ++ [.inst c' []]) .none σ3) (h4 : σ3 = τ ++ [.inst c' fl]) (h5 : τ.length = σ2.length) : SemE C n ρ (.new c' true args) σ (.inst c' fl) τ := fun {env nm expr hid A s as} c hm =>
  new_core S i1 h i2 c hm fun s2 as2 d s4 as4 v hl t2 t4 k4 hp r4 => by
    subst h4
    obtain ⟨z, d', ⟨sl, hz⟩, hd⟩ := (r4 : RCur _ _ _ v)
    have hτ : (τ ++ [OObj.inst c' fl])[σ2.length]? = some (.inst c' fl) := by rw [← h5]; exact List.getElem?_concat_length
    obtain ⟨es, ⟨nn, hdict⟩, hrf⟩ := k4.own σ2.length d' _ hd hτ
    obtain ⟨kc, sub⟩ := k4.cut σ2.length
    have ht : (τ ++ [OObj.inst c' fl]).take σ2.length = τ := by rw [← h5]; exact List.take_left' rfl
    rw [ht] at kc sub
    have nal : d' ∉ alive (as4.take σ2.length) τ := fun q => by
      obtain ⟨j, p, g1, g2, g3⟩ := of_alive q
      have hj := (take_get g1).1
      exact absurd (k4.ap j σ2.length d' p _ (take_get g1).2 hd (by rw [List.getElem?_append_left (h5 ▸ hj)]; exact g2) hτ g3 rfl) (Nat.ne_of_lt hj)
    refine ⟨as4.take σ2.length, kc, ⟨t4.same, t4.keep, fun a ha => t4.grow a ?_, fun i a q => ?_⟩, RInst.mk z d' es ⟨sl, sub _ _ hz⟩ ⟨nn, gv_get hdict (fun q => k4.dj _ q (alive_of (by rfl) hd hτ)) nal⟩ (RepF.mono sub Pre.nil _ _ hrf)⟩
    · have ha' : a ∈ alive (as4.take σ2.length) ((τ ++ [OObj.inst c' fl]).take σ2.length) := by rw [ht]; exact ha
      exact alive_take ha'
    · have q2 := t2.pre i a q
      have hi : i < σ2.length := hl ▸ get_lt q2
      rw [List.getElem?_take_of_lt hi]
      exact hp i a (by rw [List.getElem?_append_left (hl ▸ hi)]; exact q2)
end
section
variable {C : SC} {n : Nat} {A : Around} {env : Env} {nm : List Str} {ρ ρ' ρ'' : List AV} {hid hid' ex fs : List Addr} {s s' s'' : Shared} {as as' as'' : List Addr} {σ σ' σ'' : St} {r x : AV} {v : Value} {a : Addr} {h' : Heap} {t : Nat}

theorem own_same (hk : ∀ b ob, b ∈ alive as σ → s.heap.get? b = some ob → s'.heap.get? b = some ob) (i : Nat) (a : Addr) (o : OObj) (h1 : as[i]? = some a) (h2 : σ[i]? = some o) : (∃ j : Nat, as[j]? = some a ∧ σ[j]? = some o ∧ ∀ ob, s.heap.get? a = some ob → s'.heap.get? a = some ob) ∨ ObjRep C (gv hid s as σ) s'.heap a o := by
  cases hp : o.live with
  | false => cases o <;> first | exact .inr trivial | cases hp
  | true => exact .inl ⟨i, h1, h2, fun ob e => hk a ob (alive_of hp h1 h2) e⟩
/-- a hidden object is changed -/
theorem OK.setHid (k : OK C hid s as σ) (ha : a ∈ hid) (hk : ∀ b ob, b ≠ a → s.heap.get? b = some ob → h'.get? b = some ob) {ob : Obj} (hex : h'.get? a = some ob) :
    OK C hid { s with heap := h', toks := t } as σ ∧ Stp [a] s as σ { s with heap := h', toks := t } as σ ∧ Sub (gv hid s as σ) (gv hid { s with heap := h', toks := t } as σ) := by
  have al : ∀ b ob, b ∈ alive as σ → s.heap.get? b = some ob → h'.get? b = some ob := fun b ob hb e => hk b ob (fun q => k.dj a ha (q ▸ hb)) e
  have g := k.gen (s' := { s with heap := h', toks := t }) (hid' := hid) (as' := as) (σ' := σ) (fun b ob h1 _ e => hk b ob (fun q => h1 (q ▸ ha)) e) (fun b hb => ⟨.inl hb, by
      by_cases hba : b = a
      · rw [hba]; exact ⟨ob, hex⟩
      · obtain ⟨o, e⟩ := k.inh b (List.mem_append.mpr hb); exact ⟨o, hk b o hba e⟩⟩) k.dj k.len k.ap (own_same al)
  exact ⟨g.1, ⟨⟨_, _, rfl⟩, fun b ob h1 h2 e => hk b ob (fun q => h1 (q ▸ .head _)) e, fun b hb => .inl hb, Pre.refl _⟩, g.2⟩
/-- new hidden objects -/
theorem OK.newHid (k : OK C hid s as σ) (hn : ∀ a ∈ ex, s.heap.get? a = none) (hk : ∀ b ob, s.heap.get? b = some ob → h'.get? b = some ob) (hex : ∀ a ∈ ex, ∃ ob, h'.get? a = some ob) :
    OK C (ex ++ hid) { s with heap := h', toks := t } as σ ∧ Sub (gv hid s as σ) (gv (ex ++ hid) { s with heap := h', toks := t } as σ) := by
  have inh : ∀ {b}, b ∈ hid ∨ b ∈ alive as σ → ∃ o, s.heap.get? b = some o := fun hb => k.inh _ (List.mem_append.mpr hb)
  refine k.gen (s' := { s with heap := h', toks := t }) (fun b ob _ _ e => hk b ob e) (fun b hb => ?_) (fun b hb q => ?_) k.len k.ap (own_same fun b ob _ e => hk b ob e)
  · rcases (or_assoc.mp (hb.imp List.mem_append.mp id) : b ∈ ex ∨ b ∈ hid ∨ b ∈ alive as σ) with q | q
    · exact ⟨.inr (hn b q), hex b q⟩
    · exact ⟨.inl q, let ⟨o, e⟩ := inh q; ⟨o, hk _ _ e⟩⟩
  · rcases List.mem_append.mp hb with q' | q'
    · obtain ⟨o, e⟩ := inh (.inr q); exact ne_of_get (hn b q') e
    · exact k.dj b q' q
/-- hidden objects are let go -/
theorem OK.dropHid (k : OK C (ex ++ hid) s as σ) (hd : ∀ b ∈ ex, b ∉ hid) (hk : ∀ b ob, b ∉ ex → s.heap.get? b = some ob → h'.get? b = some ob) :
    OK C hid { s with heap := h', toks := t } as σ ∧ Sub (gv (ex ++ hid) s as σ) (gv hid { s with heap := h', toks := t } as σ) := by
  have up : ∀ {b}, b ∈ hid ∨ b ∈ alive as σ → b ∈ ex ++ hid ∨ b ∈ alive as σ := fun h => h.imp (List.mem_append_right _) id
  have nx : ∀ {b}, b ∈ hid ∨ b ∈ alive as σ → b ∉ ex := fun h q => h.elim (hd _ q) (k.dj _ (List.mem_append_left _ q))
  exact k.gen (s' := { s with heap := h', toks := t }) (fun b ob h1 _ e => hk b ob (fun q => h1 (List.mem_append_left _ q)) e) (fun b hb => ⟨.inl (up hb), let ⟨o, e⟩ := k.inh b (List.mem_append.mpr (up hb)); ⟨o, hk b o (nx hb) e⟩⟩) (fun b hb => k.dj b (List.mem_append_right _ hb)) k.len k.ap (own_same fun b ob hb e => hk b ob (nx (.inr hb)) e)

/-- where a name may be written -/
noncomputable def WrOK (env : Env) (fs : List Addr) (x : Str) : Prop := (env.kindOf x = some .local → env.locals ∈ fs) ∧ ∀ c, env.kindOf x = some .cell → env.cells.lookup x = some c → c ∈ fs
theorem wr_all (env : Env) (x : Str) : WrOK env (fsOf env) x := ⟨fun _ => .head _, fun c _ h => mem_fs h⟩

/-- a step that writes names -/
inductive FPost (C : SC) (fs : List Addr) (env : Env) (nm : List Str) (hid : List Addr) (s : Shared) (as : List Addr) (σ : St) (ρ' : List AV) (s' : Shared) : Prop
  | mk (k : OK C hid s' as σ) (t : Stp fs s as σ s' as σ) (F : FrOK C env nm ρ' hid s' as σ) (sub : Sub (gv hid s as σ) (gv hid s' as σ)) (keep : ∀ b o, b ∉ fs → s.heap.get? b = some o → s'.heap.get? b = some o)
theorem FPost.tr (hfh : ∀ a ∈ fs, a ∈ hid) (h1 : FPost C fs env nm hid s as σ ρ' s') (h2 : FPost C fs env nm hid s' as σ ρ'' s'') : FPost C fs env nm hid s as σ ρ'' s'' :=
  let ⟨_, b1, _, d1, e1⟩ := h1; let ⟨a2, b2, c2, d2, e2⟩ := h2
  ⟨a2, b1.trans b2 (a2.disj hfh), c2, d1.trans d2, fun b o hn e => e2 b o hn (e1 b o hn e)⟩
theorem FPost.keeps (k : OK C hid s as σ) (F : FrOK C env nm ρ hid s as σ) (h : Keeps s s') : FPost C fs env nm hid s as σ ρ s' :=
  ⟨k.keeps h, Stp.keeps h, F.stp k (Stp.keeps h), keeps_vis h, fun b o _ e => let ⟨_, _, q, hk⟩ := h; (show Sub s.heap s'.heap from q ▸ hk) b o e⟩

/-- what the frame says after one name is bound -/
theorem bind_val {m cm m' cm' : Str → Option Value} {g g' : Heap} {i : Nat} {y : Str} (hnd : nm.Nodup) (hi : nm[i]? = some y) (hs : Sub g g') (hr : Rep C g as r v)
    (hv : ∀ (i : Nat) (n : Str) (x : AV), nm[i]? = some n → ρ[i]? = some x → isDef x = true → ∃ v, Rep C g as x v ∧ (env.kindOf n = some .local → m n = some v) ∧ (env.kindOf n = some .cell → cm n = some v))
    (ho : ∀ n, n ≠ y → m' n = m n ∧ cm' n = cm n) (hn : (env.kindOf y = some .local → m' y = some v) ∧ (env.kindOf y = some .cell → cm' y = some v)) (j : Nat) (n : Str) (x : AV) (h1 : nm[j]? = some n) (h2 : (ρ.set i r)[j]? = some x) (h3 : isDef x = true) :
    ∃ v, Rep C g' as x v ∧ (env.kindOf n = some .local → m' n = some v) ∧ (env.kindOf n = some .cell → cm' n = some v) := by
  rcases set_get h2 with ⟨rfl, rfl⟩ | ⟨hj, h2⟩
  · cases hi.symm.trans h1
    exact ⟨v, Rep.mono hs (Pre.refl _) _ _ hr, hn⟩
  · have hne : n ≠ y := fun e => hj ((List.getElem?_inj (get_lt h1) hnd).mp (h1.trans (e ▸ hi.symm)))
    obtain ⟨w, w1, w2, w3⟩ := hv j n x h1 h2 h3
    obtain ⟨q1, q2⟩ := ho n hne
    exact ⟨w, Rep.mono hs (Pre.refl _) _ _ w1, fun e => q1.trans (w2 e), fun e => q2.trans (w3 e)⟩
theorem store_ok {i : Nat} {y : Str} (hw : WrOK env fs y) (hnd : nm.Nodup) (k : OK C hid s as σ) (F : FrOK C env nm ρ hid s as σ) (hi : nm[i]? = some y) (hk : lc env.scope y = true) (hr : Rep C (gv hid s as σ) as r v) :
    WP C A (storeName env y v) (fun _ s' => FPost C fs env nm hid s as σ (ρ.set i r) s') s := by
  obtain ⟨m, cm, hn, hc, hv, fh, st⟩ := F
  rcases lc_or hk with q | q
  · have hL := fh _ (.head _)
    refine wpAny_storeName_local q hn (fun h' hn' hs => ?_) (by rw [st.kf]; rfl)
    obtain ⟨ol, e1, e2, hol, hr1, hr2⟩ := id hn'
    obtain ⟨k1, t1, sv⟩ := k.setHid (t := s.toks + 1) hL (sameBut_at hs) hol
    refine ⟨k1, ⟨t1.same, fun b o h1 h2 e => sameBut_at hs b o (fun z => h1 (z ▸ hw.1 q)) e, t1.grow, t1.pre⟩, ⟨_, cm, hn', fun n c hcl => let ⟨o, ho, hd⟩ := hc n c hcl; ⟨o, sameBut_at hs _ _ (st.lc n c hcl) ho, hd⟩,
      bind_val hnd hi sv hr hv (fun n hne => ⟨if_neg hne, rfl⟩) ⟨fun _ => if_pos rfl, fun e => absurd (q.symm.trans e) (by decide)⟩, fh, st⟩, sv, fun b o h1 e => sameBut_at hs b o (fun z => h1 (z ▸ hw.1 q)) e⟩
  · obtain ⟨c, hcl⟩ := Option.isSome_iff_exists.mp (st.cs y q)
    refine wpAny_storeName_cell st.kf q hcl (hc y c hcl) fun h' hcv hs => ?_
    obtain ⟨oc, hoc, hod⟩ := hcv
    obtain ⟨k1, t1, sv⟩ := k.setHid (t := s.toks) (fh _ (mem_fs hcl)) (sameBut_at hs) hoc
    refine ⟨k1, ⟨t1.same, fun b o h1 h2 e => sameBut_at hs b o (fun z => h1 (z ▸ hw.2 _ q hcl)) e, t1.grow, t1.pre⟩, ⟨m, fun z => if z = y then some v else cm z, hn.at fun o e => sameBut_at hs _ _ (st.lc y c hcl).symm e, fun n c' hcl' => ?_,
      bind_val hnd hi sv hr hv (fun n hne => ⟨rfl, if_neg hne⟩) ⟨fun e => absurd (q.symm.trans e) (by decide), fun _ => if_pos rfl⟩, fh, st⟩, sv, fun b o h1 e => sameBut_at hs b o (fun z => h1 (z ▸ hw.2 _ q hcl)) e⟩
    by_cases hnx : n = y
    · subst hnx
      cases hcl.symm.trans hcl'
      exact ⟨oc, hoc, hod.trans (by rw [if_pos rfl])⟩
    · obtain ⟨o, ho, hd⟩ := hc n c' hcl'
      exact ⟨o, sameBut_at hs _ _ (fun e => hnx (st.ap n y c' hcl' (e ▸ hcl))) ho, hd.trans (by rw [if_neg hnx])⟩
end
noncomputable def tupNames : List String := ["enumerate", "zip", "dict_itemiterator", "dict_reverseitemiterator", "odict_iterator", "itertools.zip_longest", "itertools.pairwise"]
noncomputable def Lot (I : Addr) (h : Heap) : Prop := ∃ o T, h.get? I = some o ∧ o.cls = .type T ∧ tupNames.contains T = false
/-- a walker over values -/
structure Wk (C : SC) (I : Addr) (fp : List Addr) (n : Nat) (P : Nat → Value → Prop) (St : Nat → Heap → Prop) : Prop where
  W : ∀ A : Around, A.handled = none → Walks C.prog C.w A I fp [I] n P St
  lot : ∀ i h, St i h → Lot I h

theorem lot_ok {M : Model} {A : Around} {E : Value → Shared → Prop} {s : Shared} {target : Expr} {I : Addr} {v : Value} {Q : Unit → Shared → Prop} (h : Lot I s.heap) (hq : Q () s) : wpAny M A (letOwnedTupleGo target (.ref I) v) Q E s := by
  obtain ⟨o, T, ho, hc, hT⟩ := h
  have key : wpAny M A (do
      let (.ref r, .ref a) := (Value.ref I, v) | return
      let o ← load r
      match o.cls, o.data with
      | .type n, .fields vs =>
        if ["enumerate", "zip", "dict_itemiterator", "dict_reverseitemiterator", "odict_iterator", "itertools.zip_longest", "itertools.pairwise"].contains n && vs[0]? == some (rawInt a) then
          rule "for.unpacks-the-owned-tuple"
          updateField r 0 .none
      | _, _ => pure ()) Q E s := by
    cases v <;> try exact wpAny_pure hq
    refine wpAny_bind (wpAny_load ho ?_)
    rw [hc]
    cases hd : o.data <;> try exact wpAny_pure hq
    dsimp only
    rw [show (["enumerate", "zip", "dict_itemiterator", "dict_reverseitemiterator", "odict_iterator", "itertools.zip_longest", "itertools.pairwise"].contains T) = false from hT, Bool.false_and]
    exact wpAny_pure hq
  cases target <;> first | exact key | exact wpAny_pure hq

theorem rng_size {a b c : Int} (hc : 0 < c) : (Builtin.Range.rangeSize a b c) = (rngLen a b c : Int) := by
  unfold Builtin.Range.rangeSize rngLen
  rw [if_pos hc]
  by_cases hab : a < b
  · rw [if_pos hab, if_pos ⟨hc, hab⟩]
    have e : b - a + c - 1 = (b - a - 1) + 1 * c := by omega
    rw [e, Int.add_mul_ediv_right _ _ (Int.ne_of_gt hc)]
    exact (Int.toNat_of_nonneg (Int.add_nonneg (Int.ediv_nonneg (by omega) (Int.le_of_lt hc)) (by decide))).symm
  · rw [if_neg hab, if_neg fun q => hab q.2]; rfl

section
variable {C : SC} {hl : List Addr} {s : Shared} {as : List Addr} {x : AV} {xs : List AV} {v : Value} {A : Around}

/-- an iterator has been made -/
inductive IterP (C : SC) (hl as : List Addr) (xs : List AV) (s : Shared) : Value → Shared → Prop
  | mk (o : Obj) (fp : List Addr) (P : Nat → Value → Prop) (St : Nat → Heap → Prop) (hf : o.isFreed = false) (hW : Wk C s.heap.objs.size fp xs.length P St) (h0 : St 0 (s.heap.push o))
    (hfp : ∀ b ∈ fp, b = s.heap.objs.size ∨ ∃ ob, (vis s.heap hl).get? b = some ob) (hP : ∀ i v, P i v → ∃ y, i < xs.length → xs[i]? = some y ∧ Rep C (vis s.heap hl) as y v) : IterP C hl as xs s (.ref s.heap.objs.size) { s with heap := s.heap.push o }
theorem iter_one {o : Obj} {n : Nat} {P : Nat → Value → Prop} {St : Nat → Heap → Prop} (hf : o.isFreed = false) (hn : n = xs.length) (W : ∀ A : Around, A.handled = none → Walks C.prog C.w A s.heap.objs.size [s.heap.objs.size] [s.heap.objs.size] n P St) (hl' : ∀ i h, St i h → Lot s.heap.objs.size h) (h0 : St 0 (s.heap.push o))
    (hP : ∀ i v, P i v → ∃ y, i < xs.length → xs[i]? = some y ∧ Rep C (vis s.heap hl) as y v) : IterP C hl as xs s (.ref s.heap.objs.size) { s with heap := s.heap.push o } :=
  ⟨o, _, P, St, hf, hn ▸ ⟨W, hl'⟩, h0, fun b hb => .inl (List.mem_singleton.mp hb), hP⟩
theorem iter_two {o ob : Obj} {a : Addr} {vs : List Value} {St : Nat → Heap → Prop} (hf : o.isFreed = false) (r : RepL C (vis s.heap hl) as xs vs) (ho : (vis s.heap hl).get? a = some ob) (W : ∀ A : Around, A.handled = none → a ≠ s.heap.objs.size → Walks C.prog C.w A s.heap.objs.size [s.heap.objs.size, a] [s.heap.objs.size] vs.length (fun i v => vs.toArray[i]? = some v) St)
    (hl' : ∀ i h, St i h → Lot s.heap.objs.size h) (h0 : St 0 (s.heap.push o)) : IterP C hl as xs s (.ref s.heap.objs.size) { s with heap := s.heap.push o } :=
  ⟨o, _, _, St, hf, by rw [← r.len]; exact ⟨fun A hA => W A hA (Nat.ne_of_lt (Heap.lt_size (vis_sub _ _ _ _ ho))), hl'⟩, h0, fun b hb => (List.mem_cons.mp hb).imp id fun q => ⟨ob, by rw [List.mem_singleton.mp q]; exact ho⟩, fun i v hv =>
    let ⟨y, h1, h2⟩ := r.back (List.getElem?_toArray.symm.trans hv)
    ⟨y, fun _ => ⟨h1, h2⟩⟩⟩

theorem iter_ok (hr : Rep C (vis s.heap hl) as x v) (hi : ItR x xs) : WP C A (pyIter v) (IterP C hl as xs s) s := by
  cases hi with
  | list =>
    obtain ⟨a, vs, ⟨o, ho, q⟩, r1⟩ := (hr : RSeq _ _ v)
    have ho' := vis_sub _ _ _ _ ho
    exact wpAny_pyIter_list ⟨o, ho', q⟩ (iter_two rfl r1 ho (fun A hA hne => Walks.list (prog := C.prog) (w := C.w) hA s.heap.objs.size a hne vs.toArray) (fun i h ⟨⟨o', ho', hc', _⟩, _⟩ => ⟨o', _, ho', hc', by decide⟩) ⟨⟨_, Heap.get?_push_size _ rfl, rfl, rfl⟩, ⟨o, Heap.get?_push_of_some _ ho', q⟩⟩)
  | tup =>
    obtain ⟨a, vs, ⟨o, ho, q⟩, r1⟩ := (hr : RSeq _ _ v)
    have ho' := vis_sub _ _ _ _ ho
    exact wpAny_pyIter_tuple ⟨o, ho', q⟩ (iter_two rfl r1 ho (fun A hA hne => Walks.tuple (prog := C.prog) (w := C.w) hA s.heap.objs.size a hne vs.toArray) (fun i h ⟨⟨o', ho', hc', _⟩, _⟩ => ⟨o', _, ho', hc', by decide⟩) ⟨⟨_, Heap.get?_push_size _ rfl, rfl, rfl⟩, ⟨o, Heap.get?_push_of_some _ ho', q⟩⟩)
  | bytes =>
    obtain ⟨ba, t, rfl⟩ := (hr : RByt _ v)
    refine KBw.pyIter_bytes (iter_one rfl (by rw [List.length_map, List.length_map]; rfl) (fun A hA => KBw.walks (prog := C.prog) (w := C.w) hA s.heap.objs.size ba t) (fun i h ⟨o', ho', hc', _⟩ => ⟨o', _, ho', hc', by decide⟩) ⟨_, Heap.get?_push_size _ rfl, rfl, rfl⟩ ?_)
    rintro i v ⟨c, u, hc, rfl⟩
    exact ⟨.int c.toNat, fun _ => ⟨by rw [List.map_map, List.getElem?_map, Array.getElem?_toList, hc]; rfl, RInt.mk _⟩⟩
  | str =>
    rename_i x
    obtain ⟨t⟩ := (hr : RStr _ v)
    have fin : ∀ i v, SignAt ⟨x.toArray⟩ i v → ∃ y, i < (x.map fun c => AV.str [c]).length → (x.map fun c => AV.str [c])[i]? = some y ∧ Rep C (vis s.heap hl) as y v := by
      rintro i v ⟨c, u, hc, rfl⟩
      exact ⟨.str [c], fun _ => ⟨by rw [List.getElem?_map, List.getElem?_toArray.symm.trans hc]; rfl, RStr.mk _⟩⟩
    have hn : (⟨x.toArray⟩ : Str).cps.size = (x.map fun c => AV.str [c]).length := (List.length_map _).symm
    cases ha : (⟨x.toArray⟩ : Str).cps.all (· < 128)
    · exact wpAny_pyIter_wide ha (iter_one rfl hn (fun A hA => Walks.strWide (prog := C.prog) (w := C.w) hA s.heap.objs.size ⟨x.toArray⟩ t) (fun i h ⟨o', ho', hc', _⟩ => ⟨o', _, ho', hc', by decide⟩) ⟨_, Heap.get?_push_size _ rfl, rfl, rfl⟩ fin)
    · exact wpAny_pyIter_ascii ha (iter_one rfl hn (fun A hA => Walks.strAscii (prog := C.prog) (w := C.w) hA s.heap.objs.size ⟨x.toArray⟩ t) (fun i h ⟨o', ho', hc', _⟩ => ⟨o', _, ho', hc', by decide⟩) ⟨_, Heap.get?_push_size _ rfl, rfl, rfl⟩ fin)
  | rng g1 g2 g3 =>
    rename_i a b c
    have g1 : a.natAbs < 2 ^ 31 := of_decide_eq_true g1
    have g2 : b.natAbs < 2 ^ 31 := of_decide_eq_true g2
    obtain ⟨q, t, u, w, hq⟩ := (hr : RRng _ _ _ _ v)
    have h0 : 0 ≤ Builtin.Range.rangeSize a b c ∧ Builtin.Range.rangeSize a b c < 2 ^ 33 := by
      unfold Builtin.Range.rangeSize
      rw [if_pos g3.1]
      split
      · have h1 : 0 ≤ (b - a - 1) / c := Int.ediv_nonneg (by omega) (Int.le_of_lt g3.1)
        have h2 : (b - a - 1) / c ≤ b - a - 1 := Int.ediv_le_self _ (by omega)
        clear hq; omega
      · decide
    have f : ∀ i : Int, i.natAbs < 2 ^ 34 → Builtin.Range.rangeFitsLong i = true := fun i hi => Bool.and_eq_true_iff.mpr ⟨decide_eq_true (by omega), decide_eq_true (by omega)⟩
    have hs : Builtin.Range.small a b c = true := by
      unfold Builtin.Range.small
      rw [f a (by omega), f b (by omega), f c (by omega), f _ (by omega), if_pos g3.1, f _ (by omega), Bool.or_true]; rfl
    refine wpAny_pyIter_range (vis_sub _ _ _ _ hq) hs (iter_one rfl (by rw [List.length_map, List.length_range]) (fun A hA => Walks.range (prog := C.prog) (w := C.w) hA s.heap.objs.size a c (rngLen a b c)) (fun i h hh => ⟨_, _, hh, rfl, by decide⟩) ?_ ?_)
    · show IsRangeIter _ _ (a + ((0 : Nat) : Int) * c) ((rngLen a b c : Int) - ((0 : Nat) : Int)) c
      rw [rng_size g3.1, show a + ((0 : Nat) : Int) * c = a by rw [Int.natCast_zero, Int.zero_mul, Int.add_zero], show (rngLen a b c : Int) - ((0 : Nat) : Int) = rngLen a b c from Int.sub_zero _]
      exact Heap.get?_push_size _ rfl
    · rintro i v ⟨t, rfl⟩
      exact ⟨.int (a + i * c), fun hi => ⟨by rw [List.length_map, List.length_range] at hi; rw [List.getElem?_map, List.getElem?_range hi]; rfl, RInt.mk _⟩⟩
end
section
variable {C : SC} {n : Nat} {A : Around} {env : Env} {nm : List Str} {ρ ρ' ρ'' : List AV} {hid hid' fs : List Addr} {s s' s'' : Shared} {as as' as'' : List Addr} {σ σ' σ'' : St} {r x : AV} {v : Value}

theorem tgL_cons {e : Expr} {es : List Expr} {ys : List Str} (h : tgL (e :: es) = some ys) : is 1 e = true ∧ ∃ ys', tgL es = some ys' ∧ ys = (xf e).s :: ys' := by
  unfold tgL at h
  cases q : is 1 e with
  | false => rw [q] at h; cases h
  | true =>
    rw [q] at h
    obtain ⟨ys', h1, h2⟩ := Option.map_eq_some_iff.mp h
    exact ⟨rfl, ys', h1, h2.symm⟩
theorem name_of {e : Expr} (h : is 1 e = true) : e = .Name (xf e).s (xf e).pos := is_eq h
theorem assign_name {e : Expr} {i : Nat} (h : is 1 e = true) (hw : WrOK env fs (xf e).s) (hnd : nm.Nodup) (k : OK C hid s as σ) (F : FrOK C env nm ρ hid s as σ) (hi : nm[i]? = some (xf e).s) (hk : lc env.scope (xf e).s = true) (hr : Rep C (gv hid s as σ) as x v) :
    WP C A (assign e env v) (fun _ => FPost C fs env nm hid s as σ (ρ.set i x)) s := by
  rw [name_of h]; exact wpAny_assign_Name (store_ok hw hnd k F hi hk hr)
theorem assigns_ok (hfh : ∀ a ∈ fs, a ∈ hid) (hnd : nm.Nodup) : ∀ {es : List Expr} {is : List Nat} {ys : List Str} {vs : List AV} {ws : List Value} {ρ : List AV} {s : Shared}, OK C hid s as σ → FrOK C env nm ρ hid s as σ → tgL es = some ys → idxOK env.scope nm is ys = true → vs.length = is.length → (∀ y ∈ ys, WrOK env fs y) →
    RepL C (gv hid s as σ) as vs ws → WP C A (assignInOrder ((assignEach es env).map (·.2)) ws) (fun _ => FPost C fs env nm hid s as σ (setAll ρ is vs)) s := by
  intro es
  induction es with
  | nil =>
    intro is ys vs ws ρ s k F ht hi hl hw hr
    cases (ht : some [] = some ys)
    cases is with
    | cons _ _ => exact ff hi
    | nil =>
      cases vs with
      | cons _ _ => cases hl
      | nil =>
        cases (hr : ws = [])
        exact wpAny_pure (FPost.keeps k F (Keeps.refl s))
  | cons e es ih =>
    intro is ys vs ws ρ s k F ht hi hl hw hr
    obtain ⟨h1, ys', h2, rfl⟩ := tgL_cons ht
    cases is with
    | nil => exact ff hi
    | cons i is =>
      cases vs with
      | nil => cases hl
      | cons x vs =>
        obtain ⟨w, ws', r1, r2⟩ := (hr : RCons _ _ ws)
        have hs : assignEach (e :: es) env = (false, assign e env) :: assignEach es env := by rw [name_of h1]; rfl
        rw [hs]
        show WP C A (do holding ws' (assign e env w); assignInOrder ((assignEach es env).map (·.2)) ws') _ s
        refine wpAny_bind (wpAny_holding (WP.mono (assign_name h1 (hw _ (.head _)) hnd k F (eq_of_beq (and_l hi)) (and_l (and_r hi)) r1) fun _ s1 z1 => ?_))
        obtain ⟨k1, _, F1, sub1, _⟩ := id z1
        exact WP.mono (ih k1 F1 h2 (and_r (and_r hi)) (Nat.succ.inj hl) (fun y hy => hw y (.tail _ hy)) (RepL.mono sub1 (Pre.refl _) _ _ r2)) fun _ s2 z2 => z1.tr hfh z2
theorem tgL_each : ∀ {es : List Expr} {ys : List Str}, tgL es = some ys → (assignEach es env).length = ys.length ∧ (assignEach es env).findIdx? (·.1) = none ∧ ys.length = es.length
  | [], ys, h => by cases (h : some [] = some ys); exact ⟨rfl, rfl, rfl⟩
  | e :: es, ys, h => by
    obtain ⟨h1, ys', h2, rfl⟩ := tgL_cons h
    obtain ⟨q1, q2, q3⟩ := tgL_each (es := es) h2
    have hs : assignEach (e :: es) env = (false, assign e env) :: assignEach es env := by rw [name_of h1]; rfl
    rw [hs]
    exact ⟨congrArg Nat.succ q1, by rw [List.findIdx?_cons, q2]; rfl, congrArg Nat.succ q3⟩

/-- a target, its names and places -/
inductive TgP (sc : Scope) (nm : List Str) : List Nat → Expr → Prop
  | one {i : Nat} {e : Expr} (h : is 1 e = true) (hy : tgts e = some [(xf e).s]) (hi : nm[i]? = some (xf e).s) (hk : lc sc (xf e).s = true) : TgP sc nm [i] e
  | tup {is_ : List Nat} {es : List Expr} {k : Nat} {p : Pos} {ys : List Str} (h : tgL es = some ys) (hy : tgts (.Tuple es k p) = some ys) (h2 : 2 ≤ is_.length) (hi : idxOK sc nm is_ ys = true) (hl : ys.length = is_.length) : TgP sc nm is_ (.Tuple es k p)
theorem tgP_of {sc : Scope} {is_ : List Nat} {e : Expr} (h : tgOK sc nm is_ e = true) : TgP sc nm is_ e := by
  have h1 := and_l h
  have h2 := Nat.eq_of_beq_eq_true (and_l (and_r h))
  have h3 := and_r (and_r h)
  have key : ∀ {ys}, tgts e = some ys → ys.length = is_.length ∧ idxOK sc nm is_ ys = true := fun q => by rw [q] at h2 h3; exact ⟨h2, h3⟩
  have hd : tgts e = cond (is 1 e) (some [(xf e).s]) (cond (is 7 e && Nat.ble 2 (xf e).xs.length) (tgL (xf e).xs) none) := rfl
  cases q : is 1 e with
  | true =>
    rw [q] at hd
    obtain ⟨k1, k2⟩ := key hd
    match is_, k1 with
    | [i], _ => exact .one q hd (eq_of_beq (and_l k2)) (and_l (and_r k2))
  | false =>
    rw [q] at hd
    cases q7 : is 7 e && Nat.ble 2 (xf e).xs.length with
    | false => rw [q7] at hd; rw [hd] at h1; cases h1
    | true =>
      rw [q7] at hd
      cases ht : tgL (xf e).xs with
      | none => rw [ht] at hd; rw [hd] at h1; cases h1
      | some ys =>
        have hy : tgts e = some ys := hd.trans ht
        obtain ⟨k1, k2⟩ := key hy
        have hl := (tgL_each (env := default) ht).2.2
        have he : e = .Tuple (xf e).xs (xf e).k (xf e).pos := is_eq (and_l q7)
        rw [he] at hy ⊢
        exact .tup ht hy (by rw [← k1, hl]; exact Nat.le_of_ble_eq_true (and_r q7)) k2 k1

theorem assign_ok {tg : Expr} {is_ : List Nat} {vs : List AV} (hfh : ∀ a ∈ fs, a ∈ hid) (hh : A.handled = none) (hnd : nm.Nodup) (k : OK C hid s as σ) (F : FrOK C env nm ρ hid s as σ) (ht : TgP env.scope nm is_ tg) (hw : ∀ ys, tgts tg = some ys → ∀ y ∈ ys, WrOK env fs y)
    (hv : TgtR is_.length x vs) (hr : Rep C (gv hid s as σ) as x v) : WP C A (assign tg env v) (fun _ => FPost C fs env nm hid s as σ (setAll ρ is_ vs)) s := by
  cases ht with
  | one h hy hi hk =>
    generalize hl : List.length [_] = l at hv
    cases hv with
    | one => exact assign_name h (hw _ hy _ (.head _)) hnd k F hi hk hr
    | tup _ h2 => rw [← hl] at h2; exact absurd h2 (Nat.not_succ_le_self 1)
  | tup h hy h2 hi hl =>
    generalize hz : is_.length = l at hv h2
    cases hv with
    | one => exact absurd h2 (by decide)
    | tup hlv _ =>
      obtain ⟨h1, h3, _⟩ := tgL_each (env := env) h
      obtain ⟨a, ws, ht, r1⟩ := (hr : RSeq _ _ v)
      have ht' := tupIn gv_sub ht
      refine wpAny_assign_Tuple hh (items := ws.toArray) ht' (by rw [h1, hl, hz, ← hlv, ← r1.len]; rfl) h3 fun h' hx => ?_
      have K : Keeps s { s with heap := h' } := ⟨h', s.toks, rfl, fun b ob e => hx b ob (Nat.ne_of_lt (Heap.lt_size e)) e⟩
      have z1 : FPost C fs env nm hid s as σ ρ _ := FPost.keeps k F K
      obtain ⟨k1, _, F1, sub1, _⟩ := id z1
      exact WP.mono (assigns_ok hfh hnd k1 F1 h hi (hlv.trans hz.symm) (hw _ hy) (RepL.mono sub1 (Pre.refl _) _ _ r1)) fun _ s2 z2 => z1.tr hfh z2

/-- the cells that a comprehension keeps -/
theorem clos_go : ∀ (l : List (Str × NameKind)) (cs : List (Str × Addr)), (∀ x ∈ l, x.2 = .free → (env.cells.lookup x.1).isSome = true) → (∀ p ∈ cs, env.cells.lookup p.1 = some p.2) →
    ∃ cl, (forIn l cs (fun (x : Str × NameKind) (r : List (Str × Addr)) => (if (x.2 == NameKind.free) = true then do let c ← cellOf env x.1; pure (ForInStep.yield ((x.1, c) :: r)) else pure (ForInStep.yield r) : Sem (ForInStep (List (Str × Addr))))) : Sem _) = pure cl ∧ (∀ p ∈ cl, env.cells.lookup p.1 = some p.2) ∧ (∀ n, (cs.lookup n).isSome = true → (cl.lookup n).isSome = true) ∧ (∀ x ∈ l, x.2 = .free → (cl.lookup x.1).isSome = true)
  | [], cs, _, hcs => ⟨cs, rfl, hcs, fun _ h => h, fun _ h => nomatch h⟩
  | (n, kd) :: l, cs, hl, hcs => by
    have hl' : ∀ x ∈ l, x.2 = .free → (env.cells.lookup x.1).isSome = true := fun x hx => hl x (.tail _ hx)
    by_cases hk : kd = .free
    · obtain ⟨c, hc⟩ := Option.isSome_iff_exists.mp (hl (n, kd) (.head _) hk)
      subst hk
      obtain ⟨cl, e1, e2, e3, e4⟩ := clos_go l ((n, c) :: cs) hl' (fun p hp => by
        cases hp with
        | head => exact hc
        | tail _ hp => exact hcs p hp)
      refine ⟨cl, ?_, e2, fun m hm => e3 m ?_, fun x hx hxf => ?_⟩
      · rw [List.forIn_cons, ← e1]
        dsimp only
        rw [if_pos (beq_self_eq_true NameKind.free), show cellOf env n = pure c by unfold cellOf; rw [hc]]; rfl
      · rw [List.lookup_cons]; split
        · rfl
        · exact hm
      · cases hx with
        | head => exact e3 n (by rw [List.lookup_cons, beq_self_eq_true]; rfl)
        | tail _ hx => exact e4 x hx hxf
    · obtain ⟨cl, e1, e2, e3, e4⟩ := clos_go l cs hl' hcs
      refine ⟨cl, ?_, e2, e3, fun x hx hxf => ?_⟩
      · rw [List.forIn_cons, ← e1]
        dsimp only
        rw [if_neg fun q => hk (eq_of_beq q)]; rfl
      · cases hx with
        | head => exact absurd hxf hk
        | tail _ hx => exact e4 x hx hxf
theorem closure_ok {scope : Scope} (h : ∀ x ∈ scope.names, x.2 = .free → (env.cells.lookup x.1).isSome = true) :
    ∃ cl, closureFor scope env = pure cl ∧ (∀ p ∈ cl, env.cells.lookup p.1 = some p.2) ∧ ∀ x ∈ scope.names, x.2 = .free → (cl.lookup x.1).isSome = true := by
  obtain ⟨cl, e1, e2, e3, e4⟩ := clos_go scope.names [] h (fun _ h => nomatch h)
  exact ⟨cl, (congrArg (fun X : Sem (List (Str × Addr)) => X >>= fun s => (pure s : Sem (List (Str × Addr)))) e1).trans rfl, e2, e4⟩

theorem relab_lookup {outer : Scope} (ho : outer.kind = .function) {x : Str} : ∀ {names : List (Str × NameKind)}, (names.map fun (n, k) => if (k == NameKind.free && outer.kind == .function && outer.names.lookup n == some .cell) then (n, NameKind.cell) else (n, k)).lookup x =
    (names.lookup x).map fun k => if (k == NameKind.free && outer.names.lookup x == some .cell) = true then .cell else k
  | [] => rfl
  | (n, k) :: r => by
    rw [List.map_cons, List.lookup_cons (as := r)]
    show List.lookup x ((if (k == NameKind.free && outer.kind == .function && outer.names.lookup n == some .cell) = true then (n, NameKind.cell) else (n, k)) :: _) = _
    have ih := relab_lookup ho (x := x) (names := r)
    generalize List.map _ r = tl at ih ⊢
    rw [ho, beq_self_eq_true, Bool.and_true, ← apply_ite (Prod.mk n), List.lookup_cons, ih]
    cases hx : x == n with
    | false => rfl
    | true => rw [eq_of_beq hx]; rfl
theorem setAll_pre : ∀ {vs pre : List AV} (done cap : List AV), pre.length = vs.length → setAll (done ++ (pre ++ cap)) (List.range' done.length vs.length) vs = done ++ (vs ++ cap)
  | [], pre, done, cap, h => by rw [List.eq_nil_of_length_eq_zero h]; rfl
  | v :: vs, [], done, cap, h => by cases h
  | v :: vs, p :: pre, done, cap, h => by
    show setAll ((done ++ (p :: (pre ++ cap))).set done.length v) (List.range' (done.length + 1) vs.length) vs = _
    have q := setAll_pre (vs := vs) (pre := pre) (done ++ [v]) cap (Nat.succ.inj h)
    rw [List.length_append, List.append_assoc] at q
    rw [List.set_append_right _ _ (Nat.le_refl _), Nat.sub_self]
    exact q.trans (List.append_assoc ..)
theorem idx_range {sc : Scope} : ∀ {xs : List Str} (pre cap : List Str), (∀ x ∈ xs, lc sc x = true) → idxOK sc (pre ++ (xs ++ cap)) (List.range' pre.length xs.length) xs = true
  | [], _, _, _ => rfl
  | x :: xs, pre, cap, h => by
    show ((pre ++ (x :: (xs ++ cap)))[pre.length]? == some x && (lc sc x && idxOK sc _ (List.range' (pre.length + 1) xs.length) xs)) = true
    have ih := idx_range (xs := xs) (pre ++ [x]) cap fun y hy => h y (.tail _ hy)
    rw [List.length_append, List.append_assoc] at ih
    rw [List.getElem?_append_right (Nat.le_refl _), Nat.sub_self, h x (.head _)]
    exact Bool.and_eq_true_iff.mpr ⟨beq_self_eq_true _, ih⟩
end
section
variable {C : SC} {n : Nat} {A : Around} {env : Env} {nm : List Str} {ρ ρ' ρ'' : List AV} {hid hid' fs : List Addr} {s s' s'' : Shared} {as as' as'' : List Addr} {σ σ' σ'' σ1 σ2 σ3 : St} {r x : AV} {v : Value} {R : Result → Shared → Prop}

abbrev cLoop (eltx tg iterx : Expr) (ifsx : List Expr) (scope : Scope) (pos : Pos) (I D : Addr) (env : Env) : Code := .compLoop (.ListComp eltx [⟨tg, iterx, ifsx, 0⟩] scope pos) 0 (.ref I) (.ref D) env
theorem compLoop_1 {eltx tg iterx : Expr} {ifsx : List Expr} {scope : Scope} {pos : Pos} {I D : Addr}
    (turn : WP C A (pyNext (.ref I)) (fun r s₁ => match r with
      | none => R (.ok .next) s₁
      | some v => WP C A (letOwnedTupleGo tg (.ref I) v) (fun _ s₁ => WP C A (assign tg env v) (fun _ s₂ =>
          WP C A (testsOf env ifsx true) (fun ok s₃ =>
            if ok = true then WP C A (eval eltx env) (fun x s₄ => WP C A (call (.builtin "list.append") [.ref D, x]) (fun _ s₅ => codeAny (model C.prog C.w) A (cLoop eltx tg iterx ifsx scope pos I D env) R s₅) s₄) s₃
            else codeAny (model C.prog C.w) A (cLoop eltx tg iterx ifsx scope pos I D env) R s₃) s₂) s₁) s₁) s) : codeAny (model C.prog C.w) A (cLoop eltx tg iterx ifsx scope pos I D env) R s := by
  refine codeAny_of_tree ?_
  show wpAny _ A ((compTurn (.ListComp eltx [⟨tg, iterx, ifsx, 0⟩] scope pos) 0 (.ref I) (.ref D) env).onRaise (fun x => do noteFrame x env; theTreesLotGoes x)) _ _ s
  refine wpAny_noted ?_
  rw [compTurn_list]
  refine wpAny_bind (wpAny_standAt (wpAny_bind (wpAny_mono turn (fun r s₁ h₁ => ?_) fun _ _ h' => h'.elim)))
  cases r with
  | none => exact wpAny_pure h₁
  | some v =>
    refine wpAny_bind (wpAny_mono h₁ (fun _ s₁ h₁ => wpAny_bind (wpAny_mono h₁ (fun _ s₂ h₂ => wpAny_bind (wpAny_mono h₂ (fun ok s₃ h₃ => ?_) fun _ _ h' => h'.elim)) fun _ _ h' => h'.elim)) fun _ _ h' => h'.elim)
    cases ok with
    | false => exact wpAny_pure ⟨rfl, h₃⟩
    | true => exact wpAny_bind (wpAny_bind (wpAny_mono h₃ (fun x s₄ h₄ => wpAny_bind (wpAny_mono h₄ (fun _ s₅ h₅ => wpAny_pure (wpAny_pure ⟨rfl, h₅⟩)) fun _ _ h' => h'.elim)) fun _ _ h' => h'.elim))

/-- what stands through a comprehension -/
structure CS (C : SC) (n : Nat) (A : Around) (env : Env) (ys cap : List Str) (nn : Nat) (tg eltx : Expr) (ifsx : List Expr) (elt : ME) (ifs : List ME) (I D : Addr) (hid fp : List Addr) (P : Nat → Value → Prop) (St_ : Nat → Heap → Prop) (full : List AV) : Prop where
  a : AOK n A
  W : Wk C I fp full.length P St_
  hI : I ∈ hid
  hD : D ∈ hid
  ne : I ≠ D
  far : ∀ c ∈ fsOf env, c ≠ I ∧ c ≠ D
  tgp : TgP env.scope (ys ++ cap) (List.range' 0 nn) tg
  tgy : tgts tg = some ys
  hn : ys.length = nn
  nd : (ys ++ cap).Nodup
  loc : ∀ y ∈ ys, env.scope.names.lookup y = some .local
  m1 : mE env.scope (ys ++ cap) elt eltx = true
  m2 : mEs env.scope (ys ++ cap) ifs ifsx = true
/-- and what at one time -/
structure CI (C : SC) (env : Env) (ys cap : List Str) (capv : List AV) (nn : Nat) (I D : Addr) (hid fp : List Addr) (P : Nat → Value → Prop) (full : List AV) (s : Shared) (as : List Addr) (σ : St) (ws : List Value) : Prop where
  k : OK C hid s as σ
  F : ∃ pre, pre.length = nn ∧ FrOK C env (ys ++ cap) (pre ++ capv) hid s as σ
  fp_ : ∀ b ∈ fp, b = I ∨ ∃ ob, (gv hid s as σ).get? b = some ob
  P_ : ∀ i v, P i v → ∃ y, i < full.length → full[i]? = some y ∧ Rep C (gv hid s as σ) as y v
  pl : s.heap.PlainList D ws.toArray

noncomputable def SemCl (C : SC) (n : Nat) (elt : ME) (ifs : List ME) (nn : Nat) (capv : List AV) (xs : List AV) (σ : St) (vs : List AV) (σ' : St) : Prop := vs.length ≤ xs.length ∧ ∀ {A env ys cap tg eltx ifsx I D hid fp P St_ full} {iterx : Expr} {scope : Scope} {pos : Pos} {i : Nat} {ws : List Value} {R : Result → Shared → Prop} {s : Shared} {as : List Addr},
  CS C n A env ys cap nn tg eltx ifsx elt ifs I D hid fp P St_ full → CI C env ys cap capv nn I D hid fp P full s as σ ws → full.drop i = xs → i + xs.length = full.length → St_ i s.heap → ws.length + xs.length ≤ szl →
  (∀ t as' ws' h2 tk2, CI C env ys cap capv nn I D hid fp P full t as' σ' (ws ++ ws') → Stp [I, D, env.locals] s as σ t as' σ' → RepL C (gv hid t as' σ') as' vs ws' → (∀ b o, b ≠ I → t.heap.get? b = some o → h2.get? b = some o) → R (.ok .next) { t with heap := h2, toks := tk2 }) →
  codeAny (model C.prog C.w) A (cLoop eltx tg iterx ifsx scope pos I D env) R s

section
variable {ys cap : List Str} {capv : List AV} {nn : Nat} {tg eltx : Expr} {ifsx : List Expr} {elt : ME} {ifs : List ME} {I D : Addr} {fp : List Addr} {P : Nat → Value → Prop} {St_ : Nat → Heap → Prop} {full : List AV} {ws : List Value} {i : Nat} {iterx : Expr} {scope : Scope} {pos : Pos} {xs vs tv : List AV} {b : Bool}

/-- the invariant after a step that does not touch it -/
theorem CI.move (c : CI C env ys cap capv nn I D hid fp P full s as σ ws) {ws' : List Value} (k' : OK C hid s' as' σ') (F' : ∃ pre, pre.length = nn ∧ FrOK C env (ys ++ cap) (pre ++ capv) hid s' as' σ') (sub : Sub (gv hid s as σ) (gv hid s' as' σ')) (hp : Pre as as') (pl' : s'.heap.PlainList D ws'.toArray) : CI C env ys cap capv nn I D hid fp P full s' as' σ' ws' :=
  ⟨k', F', fun b hb => (c.fp_ b hb).imp id fun ⟨ob, e⟩ => ⟨ob, sub _ _ e⟩, fun i v h => let ⟨y, q⟩ := c.P_ i v h; ⟨y, fun hi => ⟨(q hi).1, Rep.mono sub hp _ _ (q hi).2⟩⟩, pl'⟩
theorem CS.fsub (S : CS C n A env ys cap nn tg eltx ifsx elt ifs I D hid fp P St_ full) (F : FrOK C env nm ρ hid s as σ) : ∀ a ∈ [I, D, env.locals], a ∈ hid := fun a ha => by
  rcases List.mem_cons.mp ha with rfl | ha
  · exact S.hI
  · rcases List.mem_cons.mp ha with rfl | ha
    · exact S.hD
    · rw [List.mem_singleton.mp ha]; exact F.fh _ (.head _)
theorem stp_up {W : List Addr} (x : Stp fs s as σ s' as' σ') (k' : OK C hid s' as' σ') (hf : ∀ a ∈ fs, a ∈ W) (hW : ∀ a ∈ W, a ∈ hid) : Stp W s as σ s' as' σ' :=
  stp_more (Stp.refl W s as σ) x (fun a h => .inl (hf a h)) (k'.disj hW)
/-- steps that leave what is walked -/
theorem CS.frame (S : CS C n A env ys cap nn tg eltx ifsx elt ifs I D hid fp P St_ full) (c : CI C env ys cap capv nn I D hid fp P full s as σ ws) (hst : St_ i s.heap) (hk : ∀ b o, b = I ∨ (b ∉ hid ∧ b ∉ alive as σ) → s.heap.get? b = some o → s'.heap.get? b = some o) : St_ i s'.heap :=
  (S.W.W A S.a.1).frame _ _ _ hst fun b hb o e => hk b o ((c.fp_ b hb).imp id fun ⟨ob, q⟩ => ⟨gv_hid q, gv_al q⟩) e
/-- a quiet step -/
theorem CS.quiet (S : CS C n A env ys cap nn tg eltx ifsx elt ifs I D hid fp P St_ full) (c : CI C env ys cap capv nn I D hid fp P full s as σ ws) (hst : St_ i s.heap) (k' : OK C hid s' as' σ') (t : Stp [] s as σ s' as' σ') : CI C env ys cap capv nn I D hid fp P full s' as' σ' ws ∧ St_ i s'.heap := by
  obtain ⟨pre, hp, F⟩ := c.F
  exact ⟨c.move k' ⟨pre, hp, F.stp c.k t⟩ (stp_vis t) t.pre (c.pl.at fun o e => stp_hid t c.k S.hD e), S.frame c hst fun b o hb e => hb.elim (fun q => stp_hid t c.k (q ▸ S.hI) e) fun q => t.keep b o (fun h => nomatch h) q.2 e⟩

theorem drop_cons {l r : List AV} {x : AV} {i : Nat} (h : l.drop i = x :: r) : i < l.length ∧ l[i]? = some x ∧ l.drop (i + 1) = r := by
  have hi : i < l.length := Nat.lt_of_not_le fun q => by rw [List.drop_eq_nil_of_le q] at h; cases h
  rw [List.drop_eq_getElem_cons hi] at h
  injection h with h1 h2
  exact ⟨hi, by rw [List.getElem?_eq_getElem hi, h1], h2⟩
theorem cl_nil : SemCl C n elt ifs nn capv [] σ [] σ := ⟨Nat.le_refl _, fun {A env ys cap tg eltx ifsx I D hid fp P St_ full iterx scope pos i ws R s as} S c hd hl hst hz hR => by
  refine compLoop_1 ((S.W.W A S.a.1).done _ _ _ (hl ▸ hst) fun h2 tk2 keep2 => ?_)
  exact hR s as [] h2 tk2 (by rw [List.append_nil]; exact c) (Stp.refl _ _ _ _) rfl fun b o hb e => keep2 b o (fun q => hb (List.mem_singleton.mp q)) e⟩
/-- a turn, up to its tests -/
theorem cl_turn (h0 : TgtR nn x tv) (i1 : SemTs C n (tv ++ capv) ifs σ b σ1) (S : CS C n A env ys cap nn tg eltx ifsx elt ifs I D hid fp P St_ full) (c : CI C env ys cap capv nn I D hid fp P full s as σ ws) (hd : full.drop i = x :: xs) (hst : St_ i s.heap)
    (k : ∀ s4 as4, CI C env ys cap capv nn I D hid fp P full s4 as4 σ1 ws → Cx C n A env (ys ++ cap) (tv ++ capv) hid s4 as4 σ1 → St_ (i + 1) s4.heap → Stp [I, D, env.locals] s as σ s4 as4 σ1 → cond b (WP C A (eval eltx env) (fun x s₄ => WP C A (call (.builtin "list.append") [.ref D, x]) (fun _ s₅ => codeAny (model C.prog C.w) A (cLoop eltx tg iterx ifsx scope pos I D env) R s₅) s₄) s4) (codeAny (model C.prog C.w) A (cLoop eltx tg iterx ifsx scope pos I D env) R s4)) :
    codeAny (model C.prog C.w) A (cLoop eltx tg iterx ifsx scope pos I D env) R s := by
  obtain ⟨hi, hx, _⟩ := drop_cons hd
  obtain ⟨pre, hp, F⟩ := c.F
  have W := S.fsub F
  refine compLoop_1 ((S.W.W A S.a.1).item i _ _ _ hi hst fun v h2 tk2 hPv st2 keep2 => ?_)
  have keep2 : ∀ b ob, b ≠ I → s.heap.get? b = some ob → h2.get? b = some ob := fun b ob hb e => keep2 b ob (fun q => hb (List.mem_singleton.mp q)) e
  have lot := S.W.lot _ _ st2
  obtain ⟨oI, TI, hoI, hT⟩ := id lot
  obtain ⟨k2, t2, sub2⟩ := c.k.setHid (t := tk2) S.hI keep2 hoI
  have F2 : FrOK C env (ys ++ cap) (pre ++ capv) hid { s with heap := h2, toks := tk2 } as σ := F.move (fun b o hb e => keep2 b o (S.far b hb).1 e) sub2 (Pre.refl _) F.fh
  have c2 : CI C env ys cap capv nn I D hid fp P full _ as σ ws := c.move k2 ⟨pre, hp, F2⟩ sub2 (Pre.refl _) (c.pl.at fun o e => keep2 D o S.ne.symm e)
  obtain ⟨y, hy⟩ := c2.P_ i v hPv
  obtain ⟨hy, ry⟩ := hy hi
  cases hx.symm.trans hy
  refine lot_ok lot ?_
  have hL : ∀ a ∈ [env.locals], a ∈ hid := fun a ha => by rw [List.mem_singleton.mp ha]; exact F.fh _ (.head _)
  have hlr : (List.range' 0 nn).length = nn := List.length_range'
  refine WP.mono (assign_ok (fs := [env.locals]) hL S.a.1 S.nd k2 F2 S.tgp (fun ys' q y hy => ⟨fun _ => .head _, fun c' hk _ => ?_⟩) (by rw [hlr]; exact h0) ry) fun _ s3 z3 => ?_
  · cases S.tgy.symm.trans q
    cases (S.loc y hy).symm.trans hk
  obtain ⟨k3, t3, F3, sub3, keep3⟩ := z3
  have tvl : tv.length = nn := by cases h0 <;> first | rfl | assumption
  have hset : setAll (pre ++ capv) (List.range' 0 nn) tv = tv ++ capv := by
    have := setAll_pre (vs := tv) (pre := pre) [] capv (hp.trans tvl.symm)
    rw [tvl] at this; exact this
  rw [hset] at F3
  have c3 : CI C env ys cap capv nn I D hid fp P full s3 as σ ws := c2.move k3 ⟨tv, tvl, F3⟩ sub3 (Pre.refl _) (c2.pl.at fun o e => keep3 D o (fun q => (S.far _ (.head _)).2 (List.mem_singleton.mp q).symm) e)
  have st3 : St_ (i + 1) s3.heap := S.frame c2 st2 fun b o hb e => keep3 b o (fun q => hb.elim (fun z => (S.far _ (.head _)).1 ((List.mem_singleton.mp q).symm.trans z)) fun z => z.1 (hL b q)) e
  have t13 : Stp [I, D, env.locals] s as σ s3 as σ := (stp_up t2 k2 (fun a ha => by rw [List.mem_singleton.mp ha]; exact .head _) W).trans (stp_up t3 k3 (fun a ha => by rw [List.mem_singleton.mp ha]; exact .tail _ (.tail _ (.head _))) W) (k3.disj W)
  refine WP.mono (i1 ⟨S.a, k3, F3⟩ S.m2) fun ok s4 z4 => ?_
  obtain ⟨as4, k4, t4⟩ := z4
  obtain ⟨c4, st4⟩ := S.quiet c3 st3 k4 t4
  have q := k s4 as4 c4 ⟨S.a, k4, F3.stp k3 t4⟩ st4 (t13.trans (stp_up t4 k4 nofun W) (k4.disj W))
  cases b
  · exact q
  · exact q
theorem len_step {a b m : Nat} (h : a + (b + 1) = m) : a + 1 + b = m := by rw [Nat.add_right_comm, ← Nat.add_assoc] at *; exact h
theorem cl_no (h0 : TgtR nn x tv) (i1 : SemTs C n (tv ++ capv) ifs σ false σ1) (i3 : SemCl C n elt ifs nn capv xs σ1 vs σ3) : SemCl C n elt ifs nn capv (x :: xs) σ vs σ3 := ⟨Nat.le_succ_of_le i3.1, fun {A env ys cap tg eltx ifsx I D hid fp P St_ full iterx scope pos i ws R s as} S c hd hl hst hz hR =>
  cl_turn h0 i1 S c hd hst fun s4 as4 c4 x4 st4 t4 => i3.2 S c4 (drop_cons hd).2.2 (len_step hl) st4 (Nat.le_trans (Nat.add_le_add_left (Nat.le_succ _) _) hz) fun t as' ws' h2 tk2 c5 t5 r5 keep5 => hR t as' ws' h2 tk2 c5 (t4.trans t5 (c5.k.disj (S.fsub x4.f))) r5 keep5⟩
theorem cl_yes {u : AV} (h0 : TgtR nn x tv) (i1 : SemTs C n (tv ++ capv) ifs σ true σ1) (i2 : SemE C n (tv ++ capv) elt σ1 u σ2) (i3 : SemCl C n elt ifs nn capv xs σ2 vs σ3) : SemCl C n elt ifs nn capv (x :: xs) σ (u :: vs) σ3 := ⟨Nat.succ_le_succ i3.1, fun {A env ys cap tg eltx ifsx I D hid fp P St_ full iterx scope pos i ws R s as} S c hd hl hst hz hR =>
  cl_turn h0 i1 S c hd hst fun s4 as4 c4 x4 st4 t4 => goE i2 x4 S.m1 fun w s5 as5 x5 t5 r5 => by
    obtain ⟨c5, st5⟩ := S.quiet c4 st4 x5.k t5
    have W := S.fsub x5.f
    have hz' : ws.length + 1 + xs.length ≤ szl := by rw [Nat.add_right_comm]; exact hz
    refine wpAny_list_append_plain c5.pl (fun h6 pl6 hs6 => ?_) (le_line (Nat.le_trans (Nat.le_succ _) (Nat.le_trans (Nat.le_add_right _ _) hz')))
    rw [List.push_toArray] at pl6
    obtain ⟨n6, ho6⟩ := id pl6
    obtain ⟨k6, t6, sub6⟩ := x5.k.setHid (t := s5.toks) S.hD (sameBut_at hs6) ho6
    obtain ⟨pre, hp, F5⟩ := c5.F
    have c6 : CI C env ys cap capv nn I D hid fp P full { s5 with heap := h6 } as5 σ2 (ws ++ [w]) := c5.move k6 ⟨pre, hp, F5.move (fun b o hb e => sameBut_at hs6 b o (S.far b hb).2 e) sub6 (Pre.refl _) F5.fh⟩ sub6 (Pre.refl _) pl6
    have st6 : St_ (i + 1) h6 := S.frame (s' := { s5 with heap := h6 }) c5 st5 fun b o hb e => sameBut_at hs6 b o (fun q => hb.elim (fun z => S.ne (z.symm.trans q)) fun z => z.1 (q ▸ S.hD)) e
    have t56 : Stp [I, D, env.locals] s as σ { s5 with heap := h6 } as5 σ2 := (t4.trans (stp_up t5 x5.k nofun W) (x5.k.disj W)).trans (stp_up t6 k6 (fun a ha => by rw [List.mem_singleton.mp ha]; exact .tail _ (.head _)) W) (k6.disj W)
    refine i3.2 S c6 (drop_cons hd).2.2 (len_step hl) st6 (by rw [List.length_append]; exact hz') fun t as' ws' h2 tk2 c7 t7 r7 keep7 => ?_
    rw [List.append_assoc] at c7
    refine hR t as' (w :: ws') h2 tk2 c7 (t56.trans t7 (c7.k.disj W)) (RCons.mk w ws' (Rep.mono (sub6.trans (t7.vis W)) t7.pre _ _ r5) r7) keep7⟩
end
end
section
variable {C : SC} {n : Nat} {A : Around} {env : Env} {nm : List Str} {ρ ρ' ρ'' : List AV} {hid hid' fs : List Addr} {s s' s'' : Shared} {as as' as'' : List Addr} {σ σ' σ'' σ1 σ2 σ3 : St} {r x : AV} {v : Value} {e : Expr} {Q : Value → Shared → Prop}

theorem getD_some {l : List AV} {i : Nat} {y : AV} (h : l.getD i .undef = y) (hd : isDef y = true) : l[i]? = some y := by
  unfold List.getD at h
  cases e : l[i]? with
  | none => rw [e] at h; subst h; cases hd
  | some z => rw [e] at h; exact congrArg some h
/-- a comprehension's names -/
structure CN (sc : Scope) (nm : List Str) (nn : Nat) (cap : List Nat) (scope : Scope) (ys : List Str) : Prop where
  hn : ys.length = nn
  kd : scope.kind = .function
  nocell : ∀ z ∈ scope.names, z.2 ≠ .cell
  locs : ∀ z ∈ scope.names, z.2 = .local → scope.names.lookup z.1 = some .local
  loc : ∀ y ∈ ys, scope.names.lookup y = some .local
  nd : (ys ++ cap.map fun i => nm.getD i Str.empty).Nodup
  capOK : ∀ i ∈ cap, i < nm.length ∧ sc.names.lookup (nm.getD i Str.empty) = some .cell ∧ scope.names.lookup (nm.getD i Str.empty) = some .free
  free : ∀ z ∈ scope.names, z.2 = .free → ∃ i ∈ cap, nm.getD i Str.empty = z.1
theorem bne_or {a b : NameKind} {c : Bool} (h : (a != b || c) = true) (e : a = b) : c = true := by subst e; rw [bne_self_eq_false] at h; exact h
theorem cn_of {sc : Scope} {nn : Nat} {cap : List Nat} {scope : Scope} {ys : List Str} (h : compOK sc nm nn cap scope ys = true) : CN sc nm nn cap scope ys :=
  have h1 := and_r h; have h2 := and_r h1; have h3 := and_r h2; have h4 := and_r h3; have h5 := and_r h4
  have z := List.all_eq_true.mp (and_l h2)
  ⟨Nat.eq_of_beq_eq_true (and_l h), eq_of_beq (and_l h1), fun x hx => bne_iff_ne.mp (and_l (z x hx)), fun x hx e => eq_of_beq (bne_or (and_r (z x hx)) e), fun y hy => eq_of_beq (List.all_eq_true.mp (and_l h3) y hy), of_decide_eq_true (and_l h4),
    fun i hi => have q := List.all_eq_true.mp (and_l h5) i hi; ⟨of_decide_eq_true (and_l (and_l q)), eq_of_beq (and_r (and_l q)), eq_of_beq (and_r q)⟩,
    fun x hx e => let ⟨i, hi, q⟩ := List.any_eq_true.mp (bne_or (List.all_eq_true.mp (and_r h5) x hx) e); ⟨i, hi, eq_of_beq q⟩⟩

theorem kind_of {scope outer : Scope} (ho : outer.kind = .function) (y : Str) : (relab scope outer).names.lookup y = (scope.names.lookup y).map fun k => if (k == NameKind.free && outer.names.lookup y == some .cell) = true then .cell else k := relab_lookup ho
noncomputable def cenvOf (scope : Scope) (cl : List (Str × Addr)) (L : Addr) (env : Env) : Env := { scope := relab scope env.scope, locals := L, globals := env.globals, cells := cl, qual := env.qual, func := none, code := env.code, frame := env.frame, builtins := env.builtins }
/-- the frame of a comprehension -/
theorem comp_frame {nn : Nat} {cap : List Nat} {scope : Scope} {ys : List Str} {cl : List (Str × Addr)} {cenv : Env} {L : Addr} {m : Str → Option Value} (N : CN env.scope nm nn cap scope ys) (F : FrOK C env nm ρ hid s as σ)
    (hc2 : ∀ p ∈ cl, env.cells.lookup p.1 = some p.2) (hc3 : ∀ x ∈ scope.names, x.2 = .free → (cl.lookup x.1).isSome = true)
    (eS : cenv.scope = relab scope env.scope) (eL : cenv.locals = L) (eC : cenv.cells = cl) (eG : cenv.globals = env.globals) (eB : cenv.builtins = env.builtins)
    (hn : s'.heap.Ns L m) (hk : Sub s.heap s'.heap) (sub : Sub (gv hid s as σ) (gv hid' s' as σ)) (hL : L ∈ hid') (hh : ∀ a ∈ hid, a ∈ hid' ∧ a ≠ L) :
    FrOK C cenv (ys ++ cap.map fun i => nm.getD i Str.empty) (List.replicate nn .undef ++ cap.map fun i => ρ.getD i .undef) hid' s' as σ := by
  obtain ⟨m0, cm, h1, h2, h3, fh, st⟩ := F
  have lk : ∀ {n c}, cenv.cells.lookup n = some c → env.cells.lookup n = some c := fun h => hc2 _ (mem_lookup (eC ▸ h))
  have kd : ∀ y, cenv.kindOf y = (scope.names.lookup y).map fun k => if (k == NameKind.free && env.scope.names.lookup y == some .cell) = true then .cell else k := fun y => by
    show cenv.scope.names.lookup y = _
    rw [eS]; exact kind_of st.kf y
  refine ⟨m, cm, eL ▸ hn, fun n c hc => let ⟨o, ho, hd⟩ := h2 n c (lk hc); ⟨o, hk _ _ ho, hd⟩, fun j nj y e1 e2 e3 => ?_, fun a ha => ?_, ⟨eS ▸ N.kd, eG.trans st.gl, eB.trans st.bu, fun y hy => ?_, fun n n' c q1 q2 => st.ap n n' c (lk q1) (lk q2), fun n c hc => eL ▸ (hh c (fh c (mem_fs (lk hc)))).2⟩⟩
  · by_cases hj : j < nn
    · rw [List.getElem?_append_left (by rw [List.length_replicate]; exact hj), List.getElem?_replicate, if_pos hj] at e2
      cases e2; cases e3
    · have hj := Nat.le_of_not_lt hj
      rw [List.getElem?_append_right (N.hn ▸ hj), List.getElem?_map, N.hn] at e1
      rw [List.getElem?_append_right (by rw [List.length_replicate]; exact hj), List.getElem?_map, List.length_replicate] at e2
      obtain ⟨i, hi, rfl⟩ := Option.map_eq_some_iff.mp e1
      rw [hi] at e2
      obtain ⟨q1, q2, q3⟩ := N.capOK i (List.mem_of_getElem? hi)
      have hnm : nm[i]? = some (nm.getD i Str.empty) := by unfold List.getD; rw [List.getElem?_eq_getElem q1]; rfl
      obtain ⟨v, w1, w2, w3⟩ := h3 i _ y hnm (getD_some (Option.some.inj e2) e3) e3
      refine ⟨v, Rep.mono sub (Pre.refl _) _ _ w1, fun h => ?_, fun _ => w3 q2⟩
      rw [kd, q3, q2] at h; cases h
  · cases ha with
    | head => exact eL ▸ hL
    | tail _ ha =>
      obtain ⟨p, hp, rfl⟩ := List.mem_map.mp ha
      exact (hh _ (fh _ (mem_fs (hc2 p (eC ▸ hp))))).1
  · rw [eC]
    rw [kd] at hy
    obtain ⟨k, hk, q⟩ := Option.map_eq_some_iff.mp hy
    cases hkf : k == NameKind.free with
    | true => exact hc3 (y, k) (mem_lookup hk) (eq_of_beq hkf)
    | false => rw [hkf] at q; exact absurd q (N.nocell _ (mem_lookup hk))

theorem comp_eq (h : is 14 e = true) (h2 : gen1 e = true) : e = .ListComp (xf e).a [⟨(genOf e).target, (genOf e).iter, (genOf e).ifs, 0⟩] (xf e).sc (xf e).pos := by
  refine (is_eq h).trans ?_
  show Expr.ListComp (xf e).a (xf e).gens (xf e).sc (xf e).pos = _
  unfold gen1 at h2
  unfold genOf
  generalize (xf e).gens = g at h2 ⊢
  match g, h2 with
  | [⟨t, i, f, a⟩], h2 => rw [show a = 0 from of_decide_eq_true h2]
theorem tgOK_range {sc : Scope} {ys cap : List Str} {nn : Nat} {tg : Expr} (ht : tgts tg = some ys) (hn : ys.length = nn) (hl : ∀ y ∈ ys, lc sc y = true) : TgP sc (ys ++ cap) (List.range' 0 nn) tg := by
  refine tgP_of ?_
  unfold tgOK
  rw [ht, ← hn, List.length_range']
  exact Bool.and_eq_true_iff.mpr ⟨rfl, Bool.and_eq_true_iff.mpr ⟨Nat.beq_refl _, idx_range (xs := ys) [] cap hl⟩⟩

theorem comp_core {elt it : ME} {nn : Nat} {cap : List Nat} {ifs : List ME} {xs vs : List AV} {pp : Pos} {use : Option (Value → Sem Unit)} (S : Static C) (i1 : SemE C n ρ it σ x σ1) (h2 : ItR x xs) (h3 : xs.length ≤ szl) (i4 : SemCl C n elt ifs nn (cap.map fun i => ρ.getD i .undef) xs σ1 vs σ2)
    (c : Cx C n A env nm ρ hid s as σ) (hm : mE env.scope nm (.comp elt nn cap it ifs) e = true)
    (hfin : ∀ u as' D Cc, OK C ([Cc] ++ hid) u as' σ2 → Cc ∉ hid → Stp [] s as σ u as' σ2 → (∀ b o, s.heap.get? b = some o → b ∉ alive as σ → b ≠ Cc) → Rep C (gv ([Cc] ++ hid) u as' σ2) as' (.list vs) (.ref D) → (∃ m, u.heap.Ns Cc m) →
      compPost (model C.prog C.w) A (fun _ _ => False) use Q (.ref D) Cc (.ok .next) u) :
    WP C A (comprehension (.ListComp (xf e).a [⟨(genOf e).target, (genOf e).iter, (genOf e).ifs, 0⟩] (xf e).sc (xf e).pos) (xf e).sc env pp (newList []) false (eval (genOf e).iter env) use) Q s := by
  have m2 := and_r (and_r hm); have m3 := and_r m2; have m4 := and_r m3; have m5 := and_r m4
  obtain ⟨ys, hys⟩ := Option.isSome_iff_exists.mp (and_l m4)
  rw [hys] at m5
  have N := cn_of (and_l m5)
  have m6 := and_r m5
  have st := c.f.st
  obtain ⟨cl, hcl1, hcl2, hcl3⟩ := closure_ok (env := env) (scope := (xf e).sc) (fun z hz hzf => by obtain ⟨i, hi, q⟩ := N.free z hz hzf; exact st.cs _ (q ▸ (N.capOK i hi).2.1))
  refine wpAny_comprehension_free (use := use) rfl (folded_of (and_l m2) env) hcl1 N.kd N.locs (goE i1 c (and_l m3) fun xv s1 as1 c1 t1 r1 => (iter_ok r1 h2).mono fun it s2 z2 => ?_)
  obtain ⟨oI, fp, P, St_, hfr, hWk, hst0, hfp, hP⟩ := z2
  refine wpAny_newObj_type (wpAny_newFunctionEnv N.nocell (fun y hy => nomatch hy) (fun h₁ hns₁ hsb₁ => ?_) N.kd)
  dsimp only at hns₁ hsb₁ ⊢
  -- the three new objects
  have zD : (s1.heap.push oI).objs.size = s1.heap.objs.size + 1 := Heap.size_push ..
  have zC : ((s1.heap.push oI).push { cls := .type "list", dict := none, data := .seq ([] : List Value).toArray }).objs.size = s1.heap.objs.size + 2 := (Heap.size_push ..).trans (congrArg (· + 1) zD)
  have gI0 := Heap.get?_push_size (o := oI) s1.heap hfr
  have gD0 := Heap.get?_push_size (o := { cls := .type "list", dict := none, data := .seq ([] : List Value).toArray }) (s1.heap.push oI) rfl
  rw [zD] at gD0
  rw [zC] at hns₁ hsb₁ ⊢
  rw [zD]
  have old : ∀ {b o}, s1.heap.get? b = some o → b < s1.heap.objs.size := fun e => Heap.lt_size e
  have keep0 : ∀ b o, b ≠ s1.heap.objs.size + 2 → (s1.heap.push oI).get? b = some o → h₁.get? b = some o := fun b o hb e => hsb₁.extBut b o hb (Heap.get?_push_of_some _ (Heap.get?_push_of_some _ e))
  have keep1 : ∀ b o, s1.heap.get? b = some o → h₁.get? b = some o := fun b o e => keep0 b o (Nat.ne_of_lt (Nat.lt_of_lt_of_le (old e) (Nat.le_add_right _ _))) (Heap.get?_push_of_some _ e)
  have n01 : s1.heap.objs.size ≠ s1.heap.objs.size + 1 := Nat.ne_of_lt (Nat.lt_succ_self _)
  have n12 : s1.heap.objs.size + 1 ≠ s1.heap.objs.size + 2 := Nat.ne_of_lt (Nat.lt_succ_self _)
  have n02 : s1.heap.objs.size ≠ s1.heap.objs.size + 2 := Nat.ne_of_lt (Nat.lt_add_of_pos_right (by decide))
  have gI : h₁.get? s1.heap.objs.size = some oI := keep0 _ _ n02 gI0
  have gD : h₁.get? (s1.heap.objs.size + 1) = some { cls := .type "list", data := .seq #[] } := hsb₁.extBut _ _ n12 (Heap.get?_push_of_some _ gD0)
  obtain ⟨oL, _, _, gL, _⟩ := id hns₁
  have st1 : St_ 0 h₁ := (hWk.W A c.a.1).frame _ _ _ hst0 fun b hb o e => keep0 b o (fun q => by
    rcases hfp b hb with h | ⟨ob, e'⟩
    · exact n02 (h.symm.trans q)
    · exact absurd (q ▸ old (vis_of e').1) (Nat.not_lt.mpr (Nat.le_add_right _ _))) e
  generalize s1.heap.objs.size = I at *
  have none1 : ∀ a, I ≤ a → s1.heap.get? a = none := fun a ha => by
    cases e : s1.heap.get? a with
    | none => rfl
    | some o => exact absurd ha (Nat.not_le.mpr (old e))
  have hex : ∀ a ∈ [I, I + 1, I + 2], s1.heap.get? a = none ∧ ∃ ob, h₁.get? a = some ob := fun a ha => by
    rcases List.mem_cons.mp ha with rfl | ha
    · exact ⟨none1 _ (Nat.le_refl _), _, gI⟩
    · rcases List.mem_cons.mp ha with rfl | ha
      · exact ⟨none1 _ (Nat.le_add_right _ _), _, gD⟩
      · rw [List.mem_singleton.mp ha]; exact ⟨none1 _ (Nat.le_add_right _ _), _, gL⟩
  have newh : ∀ {b}, b ∈ hid ∨ b ∈ alive as1 σ1 → b ∉ [I, I + 1, I + 2] := fun hb q => let ⟨o, e⟩ := c1.k.inh _ (List.mem_append.mpr hb); ne_of_get (hex _ q).1 e
  obtain ⟨k4, sub4⟩ := c1.k.newHid (ex := [I, I + 1, I + 2]) (h' := h₁) (t := s1.toks + ([] : List (Str × Value)).length) (fun a ha => (hex a ha).1) keep1 (fun a ha => (hex a ha).2)
  have hLn : ∀ a ∈ hid, a ∈ [I, I + 1, I + 2] ++ hid ∧ a ≠ I + 2 := fun a ha => ⟨List.mem_append_right _ ha, fun q => newh (.inl ha) (q ▸ .tail _ (.tail _ (.head _)))⟩
  have F4 := comp_frame (cenv := cenvOf (xf e).sc cl (I + 2) env) (hid' := [I, I + 1, I + 2] ++ hid) (s' := { s1 with heap := h₁, toks := s1.toks + ([] : List (Str × Value)).length }) N c1.f hcl2 hcl3 rfl rfl rfl rfl rfl hns₁ keep1 sub4 (.tail _ (.tail _ (.head _))) hLn
  have hloc : ∀ y ∈ ys, (relab (xf e).sc env.scope).names.lookup y = some .local := fun y hy => by rw [kind_of st.kf, N.loc y hy]; rfl
  have K4 : Keeps s1 { s1 with heap := h₁, toks := s1.toks + ([] : List (Str × Value)).length } := ⟨_, _, rfl, keep1⟩
  show codeAny _ A (.compStart (.ListComp (xf e).a [⟨(genOf e).target, (genOf e).iter, (genOf e).ifs, 0⟩] (xf e).sc (xf e).pos) 0 (.ref I) (.ref (I + 1)) (cenvOf (xf e).sc cl (I + 2) env)) (compPost (model C.prog C.w) A (fun x x_1 => False) use Q (Value.ref (I + 1)) (I + 2)) _
  generalize hcenv : cenvOf (xf e).sc cl (I + 2) env = cenv at F4 ⊢
  have eL : cenv.locals = I + 2 := by rw [← hcenv]; rfl
  have eS : cenv.scope = relab (xf e).sc env.scope := by rw [← hcenv]; rfl
  have eC : cenv.cells = cl := by rw [← hcenv]; rfl
  rw [← eS] at m6 hloc
  have CSi : CS C n A cenv ys (cap.map fun i => nm.getD i Str.empty) nn (genOf e).target (xf e).a (genOf e).ifs elt ifs I (I + 1) ([I, I + 1, I + 2] ++ hid) fp P St_ xs :=
    ⟨c.a, hWk, .head _, .tail _ (.head _), n01, fun a ha => by
      cases ha with
      | head => rw [eL]; exact ⟨n02.symm, n12.symm⟩
      | tail _ ha =>
        obtain ⟨p, hp, rfl⟩ := List.mem_map.mp ha
        have := newh (.inl (c1.f.fh _ (mem_fs (hcl2 p (eC ▸ hp)))))
        exact ⟨fun q => this (q ▸ .head _), fun q => this (q ▸ .tail _ (.head _))⟩, tgOK_range hys N.hn fun y hy => Bool.or_eq_true_iff.mpr (.inl (by rw [hloc y hy]; rfl)), hys, N.hn, N.nd, hloc, and_l m6, and_r m6⟩
  have loop : codeAny (model C.prog C.w) A (cLoop (xf e).a (genOf e).target (genOf e).iter (genOf e).ifs (xf e).sc (xf e).pos I (I + 1) cenv) (compPost (model C.prog C.w) A (fun x x_1 => False) use Q (Value.ref (I + 1)) (I + 2)) { s1 with heap := h₁, toks := s1.toks + ([] : List (Str × Value)).length } := by
    refine i4.2 CSi (ws := []) ⟨k4, ⟨_, List.length_replicate, F4⟩, fun b hb => (hfp b hb).imp id fun ⟨ob, q⟩ => ⟨ob, sub4 _ _ q⟩, fun i v h => let ⟨y, q⟩ := hP i v h; ⟨y, fun hi => ⟨(q hi).1, Rep.mono sub4 (Pre.refl _) _ _ (q hi).2⟩⟩, ⟨0, gD⟩⟩ rfl (Nat.zero_add _) st1 (by rw [List.length_nil, Nat.zero_add]; exact h3) fun t as5 ws h5 tk5 c5 t5 r5 keep5 => ?_
    rw [eL] at t5
    obtain ⟨k6, sub6⟩ := OK.dropHid (ex := [I, I + 1]) (hid := [I + 2] ++ hid) c5.k (h' := h5) (t := tk5) (fun b hb q => (List.mem_append.mp q).elim (fun q => by
        rw [List.mem_singleton.mp q] at hb
        rcases List.mem_cons.mp hb with hb | hb
        · exact n02 hb.symm
        · exact n12 (List.mem_singleton.mp hb).symm) fun q => newh (.inl q) (List.mem_append_left [I + 2] hb)) (fun b ob hb e => keep5 b ob (fun q => hb (q ▸ .head _)) e)
    obtain ⟨nD, hoD⟩ := c5.pl
    obtain ⟨_, _, ⟨m5, _, hn5, _⟩⟩ := c5.F
    rw [eL] at hn5
    have a1 : Stp [] s1 as1 σ1 t as5 σ2 := stp_more (Stp.keeps K4) t5 (fun a ha => .inr (hex a ha).1) (fun _ _ h => nomatch h)
    have tfin : Stp [] s1 as1 σ1 { t with heap := h5, toks := tk5 } as5 σ2 := ⟨same_tr a1.same ⟨_, _, rfl⟩, fun b o h1 h2 e => keep5 b o (fun q => ne_of_get (none1 b (Nat.le_of_eq q.symm)) e) (a1.keep b o h1 h2 e), a1.grow, a1.pre⟩
    refine hfin _ as5 (I + 1) (I + 2) k6 (fun q => (hLn _ q).2 rfl) (stp_tr t1 tfin) (fun b o e hna q => ne_of_get (none1 b (q ▸ Nat.le_add_right _ _)) (t1.keep b o (fun h => nomatch h) hna e)) ?_ ⟨m5, hn5.at fun o e => keep5 _ o n02.symm e⟩
    refine RSeq.mk (I + 1) ws ⟨_, gv_get (s := { t with heap := h5, toks := tk5 }) (keep5 _ _ n01.symm hoD) (fun q => (List.mem_append.mp q).elim (fun q => n12 (List.mem_singleton.mp q)) fun q => newh (.inl q) (.tail _ (.head _))) (c5.k.dj _ (.tail _ (.head _))), rfl, nD, rfl⟩ (RepL.mono sub6 (Pre.refl _) _ _ r5)
  exact codeAny_compStart_list loop ((hWk.W A c.a.1).self 0 _ _ _ st1 loop)

theorem E_comp {elt it : ME} {nn : Nat} {cap : List Nat} {ifs : List ME} {xs vs : List AV} (S : Static C) (i1 : SemE C n ρ it σ x σ1) (h2 : ItR x xs) (h3 : xs.length ≤ szl) (i4 : SemCl C n elt ifs nn (cap.map fun i => ρ.getD i .undef) xs σ1 vs σ2) : SemE C n ρ (.comp elt nn cap it ifs) σ (.list vs) σ2 := fun {env nm expr hid A s as} c hm => by
  rw [comp_eq (and_l hm) (and_l (and_r hm)), eval_ListComp]
  refine comp_core S i1 h2 h3 i4 c hm fun u as' D Cc k1 hC t1 hc r1 hn => ?_
  obtain ⟨m, hn⟩ := hn
  refine ⟨m, hn, fun h' hs => ?_⟩
  have hs := sameBut_at hs
  obtain ⟨k2, sub2⟩ := k1.dropHid (h' := h') (t := u.toks) (fun b hb => by rw [List.mem_singleton.mp hb]; exact hC) (fun b ob hb e => hs b ob (fun q => hb (q ▸ .head _)) e)
  exact ⟨as', k2, ⟨same_tr t1.same ⟨_, _, rfl⟩, fun b o h1 h2 e => hs b o (hc b o e h2) (t1.keep b o h1 h2 e), t1.grow, t1.pre⟩, Rep.mono sub2 (Pre.refl _) _ _ r1⟩
end
section
variable {C : SC} {n : Nat} {A : Around} {env : Env} {nm : List Str} {ρ ρ' ρ'' ρ1 : List AV} {hid hid' fs : List Addr} {s s' s'' : Shared} {as as' as'' : List Addr} {σ σ' σ'' σ1 σ2 σ3 σ4 : St} {r x y u : AV} {v : Value} {e : Expr} {o : Out} {st : Stmt} {R : Result → Shared → Prop}

theorem swaps_of {e : Expr} (h : plainV e = true) (t : Option Expr) (l : Nat) (env : Env) : swapsWith e t l env = pure false := by
  cases e <;> first | rfl | exact ff h
theorem swapped_of {e : Expr} (h : is 7 e = false) (es : List Expr) (k : Nat) (p : Pos) (env : Env) : swappedStores [.Tuple es k p] e env = pure none := by
  cases e <;> first | rfl | cases h
theorem WP.yst {k : Nat} {Q : Flow → Shared → Prop} (h : yis k st = true) (w : WP C A (exec ((yf st).mk' k) env) Q s) : WP C A (exec st env) Q s := by rw [yis_eq h]; exact w
theorem one_of {es : List Expr} (e : Expr) (h : Nat.beq es.length 1 = true) : es = [es.headD e] := by
  match es, h with
  | [a], _ => rfl
theorem WP.asg {j : Nat} {Q : Flow → Shared → Prop} (h : yis 1 st = true) (h1 : Nat.beq (yf st).xs.length 1 = true) (h2 : is j (t1 (yf st)) = true) (w : WP C A (exec (.Assign [(xf (t1 (yf st))).mk' j] (yf st).a (yf st).pos) env) Q s) : WP C A (exec st env) Q s := by
  refine WP.yst h ?_
  show WP C A (exec (.Assign (yf st).xs (yf st).a (yf st).pos) env) Q s
  rw [one_of (yf st).a h1]
  show WP C A (exec (.Assign [t1 (yf st)] (yf st).a (yf st).pos) env) Q s
  rw [is_eq h2]; exact w
theorem stp_fs (x : Stp [] s as σ s' as' σ') (F : FrOK C env nm ρ hid s as σ) (k' : OK C hid s' as' σ') : Stp (fsOf env) s as σ s' as' σ' := stp_more (Stp.refl _ _ _ _) x (fun _ h => nomatch h) (k'.disj F.fh)
theorem SPost.tr (F : FrOK C env nm ρ hid s as σ) (x : Stp (fsOf env) s as σ s' as' σ') {f : Flow} (h : SPost C env nm hid s' as' σ' o ρ' σ'' f s'') : SPost C env nm hid s as σ o ρ' σ'' f s'' :=
  let ⟨as2, k2, t2, F2, ho⟩ := h; ⟨as2, k2, x.trans t2 (k2.disj F.fh), F2, ho⟩
/-- the end of a step that writes names -/
theorem FPost.spost (c : Cx C n A env nm ρ hid s as σ) (t : Stp [] s as σ s' as' σ') (k' : OK C hid s' as' σ') (h : FPost C (fsOf env) env nm hid s' as' σ' ρ' s'') : SPost C env nm hid s as σ .next ρ' σ' .next s'' :=
  let ⟨k2, t2, F2, _, _⟩ := h; ⟨as', k2, (stp_fs t c.f k').trans t2 (k2.disj c.f.fh), F2, rfl⟩
theorem Cx.spost (c : Cx C n A env nm ρ hid s as σ) (c1 : Cx C n A env nm ρ hid s' as' σ') (t : Stp [] s as σ s' as' σ') {f : Flow} (h : outIs C (gv hid s' as' σ') as' o f) : SPost C env nm hid s as σ o ρ σ' f s' := ⟨as', c1.k, stp_fs t c.f c1.k, c1.f, h⟩

theorem S_asg {i : Nat} {e : ME} (hc : isComp e = false) (i1 : SemE C n ρ e σ x σ1) : SemS C n (.asg i e) ρ σ .next (ρ.set i x) σ1 := fun {env nm st hid A s as} hnd c hm => by
  have h1 := and_r hm; have h2 := and_r h1; have h3 := and_r h2; have h4 := and_r h3; have h5 := and_r h4; have h6 := and_r h5
  rw [hc] at h6
  exact WP.asg (and_l hm) (and_l h1) (and_l h2) (wpAny_Assign_Name (goE i1 c (and_l h5) fun w s1 as1 c1 t1 r1 => WP.mono (store_ok (wr_all env _) hnd c1.k c1.f (eq_of_beq (and_l h3)) (and_l h4) r1) fun _ s2 z2 => z2.spost c t1 c1.k) (swaps_of (e := (yf st).a) h6 _ _ _))
theorem S_asgc (S : Static C) {i : Nat} {elt it : ME} {nn : Nat} {cap : List Nat} {ifs : List ME} {xs vs : List AV} (i1 : SemE C n ρ it σ x σ1) (h2 : ItR x xs) (h3 : xs.length ≤ szl) (i4 : SemCl C n elt ifs nn (cap.map fun i => ρ.getD i .undef) xs σ1 vs σ2) : SemS C n (.asg i (.comp elt nn cap it ifs)) ρ σ .next (ρ.set i (.list vs)) σ2 := fun {env nm st hid A s as} hnd c hm => by
  have h1 := and_r hm; have g2 := and_r h1; have g3 := and_r g2; have g4 := and_r g3; have g5 := and_r g4; have g6 := and_r (and_r g5)
  have hce := and_l g5
  refine WP.asg (and_l hm) (and_l h1) (and_l g2) ?_
  show WP C A (exec (.Assign [.Name _ _] (yf st).a (yf st).pos) env) _ s
  rw [comp_eq (e := (yf st).a) (and_l hce) (and_l (and_r hce)), exec_Assign_Name_used _ _ _ _ (?_ : swapsWith _ _ _ _ = pure true)]
  rotate_left
  · show (pure (env.blockKind == .function && env.kindOf _ == some .local && (xf (t1 (yf st))).pos.line == (xf (yf st).a).pos.line && noNames _ _) : Sem Bool) = pure true
    have hb : env.blockKind = .function := by unfold Env.blockKind; rw [c.f.st.kf]; rfl
    rw [hb, Nat.eq_of_beq_eq_true (and_l (and_r g6)), and_r (and_r g6), (and_l g6 : (env.kindOf _ == some .local) = true), beq_self_eq_true, beq_self_eq_true]; rfl
  refine wpAny_bind (wpAny_standAt (wpAny_bind ?_))
  show WP C A (do let _ ← comprehension (.ListComp _ _ _ _) _ env _ (newList []) false (eval (genOf (yf st).a).iter env) (some (assign (.Name _ _) env))) _ s
  refine wpAny_bind (WP.mono (comp_core (use := some (assign (.Name (xf (t1 (yf st))).s (xf (t1 (yf st))).pos) env)) (Q := fun _ s' => SPost C env nm hid s as σ .next (ρ.set i (.list vs)) σ2 .next s') S i1 h2 h3 i4 c hce fun u as' D Cc k1 hC t1 hcc r1 hn => ?_) fun _ s2 z2 => wpAny_pure (wpAny_pure z2))
  have far : ∀ b o, s.heap.get? b = some o → b ∉ alive as σ → b ∉ [Cc] := fun b o e h q => hcc b o e h (List.mem_singleton.mp q)
  have sub1 : Sub (gv hid s as σ) (gv ([Cc] ++ hid) u as' σ2) := gv_mono fun b ob h1 h2 e => ⟨t1.keep b ob (fun h => nomatch h) h2 e, fun q => (List.mem_append.mp q).elim (far b ob e h2) h1, fun q => (t1.grow b q).elim h2 fun q => ne_of_get q e⟩
  have F1 : FrOK C env nm ρ ([Cc] ++ hid) u as' σ2 := c.f.move (fun b o hb e => stp_hid t1 c.k (c.f.fh b hb) e) sub1 t1.pre fun a ha => List.mem_append_right _ (c.f.fh a ha)
  show WP C A (assign (.Name _ _) env (.ref D)) _ u
  refine wpAny_assign_Name (WP.mono (store_ok (wr_all env _) hnd k1 F1 (eq_of_beq (and_l g3)) (and_l g4) r1) fun _ s2 z2 => ?_)
  obtain ⟨k2, t2, F2, _, keep2⟩ := z2
  obtain ⟨m, hn⟩ := hn
  have nf : ∀ b ∈ fsOf env, b ≠ Cc := fun b hb q => hC (q ▸ c.f.fh b hb)
  refine ⟨m, hn.at fun o e => keep2 _ o (fun q => nf _ q rfl) e, fun h' hs => ?_⟩
  have hs := sameBut_at hs
  obtain ⟨k3, sub3⟩ := k2.dropHid (h' := h') (t := s2.toks) (fun b hb => by rw [List.mem_singleton.mp hb]; exact hC) (fun b ob hb e => hs b ob (fun q => hb (q ▸ .head _)) e)
  have t12 : Stp (fsOf env) s as σ s2 as' σ2 := (stp_more (Stp.refl (fsOf env) s as σ) t1 (fun _ h => nomatch h) (k1.disj F1.fh)).trans t2 (k2.disj F1.fh)
  exact ⟨as', k3, ⟨same_tr t12.same ⟨_, _, rfl⟩, fun b o h1 h2 e => hs b o (hcc b o e h2) (t12.keep b o h1 h2 e), t12.grow, t12.pre⟩, F2.move (fun b o hb e => hs b o (nf b hb) e) sub3 (Pre.refl _) c.f.fh, rfl⟩
theorem S_unp {is_ : List Nat} {e : ME} {vs : List AV} (i1 : SemE C n ρ e σ (.tup vs) σ1) (hl : vs.length = is_.length) : SemS C n (.unp is_ e) ρ σ .next (setAll ρ is_ vs) σ1 := fun {env nm st hid A s as} hnd c hm => by
  have h1 := and_r hm; have h2 := and_r h1; have h3 := and_r h2; have h4 := and_r h3; have h5 := and_r h4
  have T := tgP_of (and_l h3)
  have e7 := is_eq (and_l h2)
  rw [e7] at T
  refine WP.asg (and_l hm) (and_l h1) (and_l h2) (Assign_Tuple (goE i1 c (and_l h4) fun w s1 as1 c1 t1 r1 => WP.mono (assign_ok (x := .tup vs) (vs := vs) c1.f.fh c1.a.1 hnd c1.k c1.f T (fun _ _ y _ => wr_all env y) (.tup hl ?_) r1) fun _ s2 z2 => z2.spost c t1 c1.k) (swaps_of (and_l h5) (some (.Tuple (xf (t1 (yf st))).xs (xf (t1 (yf st))).k (xf (t1 (yf st))).pos)) (yf st).pos.line env : swapsWith _ _ _ _ = _) (swapped_of (nott (and_r h5)) _ _ _ _))
  cases T with
  | one h => exact ff h
  | tup _ _ h2 _ _ => exact h2
theorem S_seta (S : Static C) {oo e : ME} {a : Atr} (i1 : SemE C n ρ e σ x σ1) (i2 : SemE C n ρ oo σ1 y σ2) (h : SetaR σ2 a x y σ3) : SemS C n (.seta oo a e) ρ σ .next ρ σ3 := fun {env nm st hid A s as} hnd c hm => by
  have h1 := and_r hm; have h2 := and_r h1; have h3 := and_r h2; have h4 := and_r h3; have h5 := and_r h4
  refine WP.asg (and_l hm) (and_l h1) (and_l h2) (plainObj_wpAny_Assign_Attribute (goE i1 c (and_l h5) fun w s1 as1 c1 t1 r1 => goE i2 c1 (and_l h4) fun w2 s2 as2 c2 t2 r2 => ?_) (swaps_of (and_r h5) _ _ _))
  rw [← eq_of_beq (and_l h3)]
  exact WP.mono (seta_ok S.cls c2.k (stp_rep t2 r1) r2 h) fun _ s3 z3 => c.spost (c2.to z3.1 z3.2) (stp_tr (stp_tr t1 t2) z3.2) rfl
theorem S_seti {oo i e : ME} (i1 : SemE C n ρ e σ x σ1) (i2 : SemE C n ρ oo σ1 y σ2) (i3 : SemE C n ρ i σ2 u σ3) (h : SetiR σ3 x y u σ4) : SemS C n (.seti oo i e) ρ σ .next ρ σ4 := fun {env nm st hid A s as} hnd c hm => by
  have h1 := and_r hm; have h2 := and_r h1; have h3 := and_r h2; have h4 := and_r h3; have h5 := and_r h4
  refine WP.asg (and_l hm) (and_l h1) (and_l h2) (wpAny_Assign_Subscript (goE i1 c (and_l h5) fun w s1 as1 c1 t1 r1 => goE i2 c1 (and_l h3) fun w2 s2 as2 c2 t2 r2 => goE i3 c2 (and_l h4) fun w3 s3 as3 c3 t3 r3 => ?_) (swaps_of (and_r h5) _ _ _))
  have t23 := stp_tr t2 t3
  exact WP.mono (seti_ok c3.au c3.k (stp_rep t23 r1) (stp_rep t3 r2) r3 h) fun _ s4 z4 => c.spost (c3.to z4.1 z4.2) (stp_tr (stp_tr t1 t23) z4.2) rfl
theorem S_exp {e : ME} (i1 : SemE C n ρ e σ x σ1) : SemS C n (.exp e) ρ σ .next ρ σ1 := fun {env nm st hid A s as} hnd c hm =>
  WP.yst (and_l hm) (wpAny_Expr_any (goE i1 c (and_l (and_r hm)) fun w s1 as1 c1 t1 r1 => c.spost c1 t1 rfl) (by unfold interactive; rw [c.f.st.kf]; rfl) (swaps_of (and_r (and_r hm)) _ _ _))
theorem S_ret {e : ME} (hn : isNon e = false) (i1 : SemE C n ρ e σ x σ1) : SemS C n (.ret e) ρ σ (.ret x) ρ σ1 := fun {env nm st hid A s as} hnd c hm => by
  refine WP.yst (and_l hm) ?_
  show WP C A (exec (.Return (yf st).o (yf st).pos) env) _ s
  have h2 := and_r hm
  generalize (yf st).o = q at h2 ⊢
  cases q with
  | some v => exact wpAny_Return_some (goE i1 c h2 fun w s1 as1 c1 t1 r1 => c.spost c1 t1 ⟨w, rfl, r1⟩)
  | none => exact absurd (hn.symm.trans h2) nofun
theorem S_retN : SemS C n (.ret .non) ρ σ (.ret .none) ρ σ := fun {env nm st hid A s as} hnd c hm => by
  refine WP.yst (and_l hm) ?_
  show WP C A (exec (.Return (yf st).o (yf st).pos) env) _ s
  have h2 := and_r hm
  generalize (yf st).o = q at h2 ⊢
  cases q with
  | some v => exact wpAny_Return_some (goE (x := .none) (a := .non) E_non c h2 fun w s1 as1 c1 t1 r1 => c.spost c1 t1 ⟨w, rfl, r1⟩)
  | none => exact wpAny_Return_none (c.spost c (Stp.refl _ _ _ _) ⟨.none, rfl, rfl⟩)
theorem S_cont : SemS C n .cont ρ σ .cont ρ σ := fun {env nm st hid A s as} hnd c hm => WP.yst hm (wpAny_Continue (c.spost c (Stp.refl _ _ _ _) rfl))
theorem S_ifs {t : ME} {a b : List MS} {z : Bool} (i1 : SemT C n ρ t σ z σ1) (i2 : SemSs C n (cond z a b) ρ σ1 o ρ' σ') : SemS C n (.ifs t a b) ρ σ o ρ' σ' := fun {env nm st hid A s as} hnd c hm => by
  have h1 := and_r hm; have h2 := and_r h1; have h3 := and_r h2
  refine WP.yst (and_l hm) (wpAny_If (goT i1 c (and_l h1) (and_l h2) fun s1 as1 c1 t1 => ?_))
  cases z
  · exact WP.mono (i2 hnd c1 (and_r h3)) fun f s2 z2 => SPost.tr c.f (stp_fs t1 c.f c1.k) z2
  · exact WP.mono (i2 hnd c1 (and_l h3)) fun f s2 z2 => SPost.tr c.f (stp_fs t1 c.f c1.k) z2
theorem out_flow {g : Heap} {f : Flow} (h : outIs C g as o f) : f = .next ∨ f = .cont ∨ ∃ w, f = .ret w := by
  cases o with
  | next => exact .inl h
  | cont => exact .inr (.inl h)
  | ret v => obtain ⟨w, e, _⟩ := h; exact .inr (.inr ⟨w, e⟩)
theorem S_trc {b : List MS} (i1 : SemSs C n b ρ σ o ρ' σ') : SemS C n (.trc b) ρ σ o ρ' σ' := fun {env nm st hid A s as} hnd c hm => by
  have h1 := and_r hm; have h2 := and_r h1; have h3 := and_r h2
  refine WP.yst (and_l hm) ?_
  show WP C A (exec (.Try (yf st).ss (yf st).hs (yf st).s2 (yf st).s3 (yf st).pos) env) _ s
  rw [List.isEmpty_iff.mp (and_l h2), List.isEmpty_iff.mp (and_l h3)]
  have g := nott (and_l h1)
  generalize (yf st).hs = hs at g ⊢
  cases hs with
  | nil => cases g
  | cons h0 hs =>
    refine wpAny_Try_except (wpAny_mono (i1 hnd c (and_r h3)) (fun f s2 z2 => ?_) fun _ _ z => z.elim)
    obtain ⟨_, _, _, _, ho⟩ := id z2
    rcases out_flow ho with rfl | rfl | ⟨w, rfl⟩
    · exact wpAny_pure z2
    · exact z2
    · exact z2
theorem Ss_nil : SemSs C n [] ρ σ .next ρ σ := fun {env nm sts hid A s as} hnd c hm => by
  rw [List.isEmpty_iff.mp hm]; exact wpAny_pure (c.spost c (Stp.refl _ _ _ _) rfl)
theorem Ss_next {e : MS} {es : List MS} (i1 : SemS C n e ρ σ .next ρ1 σ1) (i2 : SemSs C n es ρ1 σ1 o ρ' σ') : SemSs C n (e :: es) ρ σ o ρ' σ' := fun {env nm sts hid A s as} hnd c hm => by
  cases sts with
  | nil => exact ff hm
  | cons st sts =>
    refine wpAny_execs_cons (WP.mono (i1 hnd c (and_l hm)) fun f s1 z1 => ?_)
    obtain ⟨as1, k1, t1, F1, ho⟩ := z1
    cases (ho : f = .next)
    exact WP.mono (i2 hnd ⟨c.a, k1, F1⟩ (and_r hm)) fun f s2 z2 => SPost.tr c.f t1 z2
theorem Ss_stop {e : MS} {es : List MS} (i1 : SemS C n e ρ σ o ρ' σ') (h : o.isNext = false) : SemSs C n (e :: es) ρ σ o ρ' σ' := fun {env nm sts hid A s as} hnd c hm => by
  cases sts with
  | nil => exact ff hm
  | cons st sts =>
    refine wpAny_execs_cons (WP.mono (i1 hnd c (and_l hm)) fun f s1 z1 => ?_)
    obtain ⟨_, _, _, _, ho⟩ := id z1
    cases o with
    | next => cases h
    | cont => cases (ho : f = .cont); exact z1
    | ret v => obtain ⟨w, rfl, _⟩ := ho; exact z1

/-! loops -/
theorem while_1 {test : Expr} {body : List Stmt} (turn : WP C A (isTrue test env (eval test env)) (fun b s₂ => cond b (WP C A (execs body env) (fun f s₃ => match f with
      | .next | .cont => codeAny (model C.prog C.w) A (.whileLoop test body [] env) R s₃
      | .brk => R (.ok .next) s₃
      | .ret v => R (.ok (.ret v)) s₃) s₂) (R (.ok .next) s₂)) s) : codeAny (model C.prog C.w) A (.whileLoop test body [] env) R s := by
  refine codeAny_of_tree ?_
  show wpAny _ A ((whileTurn test body [] env).onRaise (fun x => do noteFrame x env; theTreesLotGoes x)) _ _ s
  refine wpAny_noted ?_
  unfold whileTurn
  refine wpAny_bind (wpAny_mono turn (fun b s₂ h₂ => ?_) fun _ _ h' => h'.elim)
  cases b with
  | false => exact wpAny_bind (wpAny_pure (wpAny_pure h₂))
  | true =>
    refine wpAny_bind (wpAny_mono h₂ (fun f s₃ h₃ => ?_) fun _ _ h' => h'.elim)
    cases f with
    | next => exact wpAny_pure ⟨rfl, h₃⟩
    | cont => exact wpAny_pure ⟨rfl, h₃⟩
    | brk => exact wpAny_pure h₃
    | ret v => exact wpAny_pure h₃
noncomputable def SemWh (C : SC) (n : Nat) (t : ME) (b : List MS) (ρ : List AV) (σ : St) (o : Out) (ρ' : List AV) (σ' : St) : Prop := ∀ {env : Env} {nm : List Str} {tx : Expr} {bx : List Stmt} {hid : List Addr} {A : Around} {s : Shared} {as : List Addr} {R : Result → Shared → Prop}, nm.Nodup → Cx C n A env nm ρ hid s as σ → gx t tx = true → mE env.scope nm t tx = true → mSs env.scope nm b bx = true →
  (∀ f s', SPost C env nm hid s as σ o ρ' σ' f s' → R (.ok f) s') → codeAny (model C.prog C.w) A (.whileLoop tx bx [] env) R s
theorem Wh_done {t : ME} {b : List MS} (i1 : SemT C n ρ t σ false σ1) : SemWh C n t b ρ σ .next ρ σ1 := fun {env nm tx bx hid A s as R} hnd c g m1 m2 hR =>
  while_1 (goT i1 c g m1 fun s1 as1 c1 t1 => hR _ _ (c.spost c1 t1 rfl))
theorem Wh_go {t : ME} {b : List MS} {oo : Out} (i1 : SemT C n ρ t σ true σ1) (i2 : SemSs C n b ρ σ1 oo ρ1 σ2) (h : oo.isRet = false) (i3 : SemWh C n t b ρ1 σ2 o ρ' σ') : SemWh C n t b ρ σ o ρ' σ' := fun {env nm tx bx hid A s as R} hnd c g m1 m2 hR =>
  while_1 (goT i1 c g m1 fun s1 as1 c1 t1 => WP.mono (i2 hnd c1 m2) fun f s2 z2 => by
    obtain ⟨as2, k2, t2, F2, ho⟩ := z2
    have q := i3 (R := R) hnd ⟨c.a, k2, F2⟩ g m1 m2 fun f s' z => hR f s' (SPost.tr c.f ((stp_fs t1 c.f c1.k).trans t2 (k2.disj c.f.fh)) z)
    cases oo with
    | next => cases (ho : f = .next); exact q
    | cont => cases (ho : f = .cont); exact q
    | ret v => cases h)
theorem Wh_ret {t : ME} {b : List MS} (i1 : SemT C n ρ t σ true σ1) (i2 : SemSs C n b ρ σ1 (.ret x) ρ' σ') : SemWh C n t b ρ σ (.ret x) ρ' σ' := fun {env nm tx bx hid A s as R} hnd c g m1 m2 hR =>
  while_1 (goT i1 c g m1 fun s1 as1 c1 t1 => WP.mono (i2 hnd c1 m2) fun f s2 z2 => by
    have q := hR f s2 (SPost.tr c.f (stp_fs t1 c.f c1.k) z2)
    obtain ⟨_, _, _, _, w, rfl, _⟩ := z2
    exact q)
theorem S_whl {t : ME} {b : List MS} (i1 : SemWh C n t b ρ σ o ρ' σ') : SemS C n (.whl t b) ρ σ o ρ' σ' := fun {env nm st hid A s as} hnd c hm => by
  have h1 := and_r hm; have h2 := and_r h1; have h3 := and_r h2
  refine WP.yst (and_l hm) ?_
  show WP C A (exec (.While (yf st).a (yf st).ss (yf st).s2 (yf st).pos) env) _ s
  rw [List.isEmpty_iff.mp (and_r h3)]
  exact wpAny_While (i1 hnd c (and_l h1) (and_l h2) (and_l h3) fun f s' z => z)
end
section
variable {C : SC} {n : Nat} {A : Around} {env : Env} {nm : List Str} {ρ ρ' ρ'' ρ1 : List AV} {hid hid' fs : List Addr} {s s' s'' : Shared} {as as' as'' : List Addr} {σ σ' σ'' σ1 σ2 σ3 σ4 : St} {r x y u : AV} {v : Value} {e : Expr} {o oo : Out} {st : Stmt} {R : Result → Shared → Prop} {xs tv : List AV} {b : List MS} {is_ : List Nat}

theorem for_1 {tg : Expr} {I : Addr} {body : List Stmt} (turn : WP C A (pyNext (.ref I)) (fun r s₁ => match r with
      | none => R (.ok .next) s₁
      | some v => WP C A (letOwnedTupleGo tg (.ref I) v) (fun _ s₁' => WP C A (assign tg env v) (fun _ s₂ => WP C A (execs body env) (fun f s₃ => match f with
            | .next | .cont => codeAny (model C.prog C.w) A (.forLoop tg (.ref I) body [] env) R s₃
            | .brk => R (.ok .next) s₃
            | .ret v => R (.ok (.ret v)) s₃) s₂) s₁') s₁) s) : codeAny (model C.prog C.w) A (.forLoop tg (.ref I) body [] env) R s := by
  refine codeAny_of_tree ?_
  show wpAny _ A ((forTurn tg (.ref I) body [] env).onRaise (fun x => do noteFrame x env; theTreesLotGoes x)) _ _ s
  refine wpAny_noted ?_
  unfold forTurn
  refine wpAny_bind (wpAny_standAt (wpAny_bind (wpAny_onRaise (wpAny_mono turn (fun r s₁ h₁ => ?_) fun _ _ h' => h'.elim))))
  cases r with
  | none => exact wpAny_pure ⟨rfl, codeAny_block (wpAny_pure h₁)⟩
  | some v =>
    refine wpAny_bind (wpAny_mono h₁ (fun _ s₁' h₁' => wpAny_bind (wpAny_mono h₁' (fun _ s₂ h₂ => wpAny_bind (wpAny_mono h₂ (fun f s₃ h₃ => ?_) fun _ _ h' => h'.elim)) fun _ _ h' => h'.elim)) fun _ _ h' => h'.elim)
    cases f with
    | next => exact wpAny_pure ⟨rfl, h₃⟩
    | cont => exact wpAny_pure ⟨rfl, h₃⟩
    | brk => exact wpAny_pure h₃
    | ret v => exact wpAny_pure h₃

/-- what stands through a loop -/
structure FS (C : SC) (n : Nat) (A : Around) (env : Env) (nm : List Str) (is_ : List Nat) (tg : Expr) (bx : List Stmt) (b : List MS) (I : Addr) (hid fp : List Addr) (P : Nat → Value → Prop) (St_ : Nat → Heap → Prop) (full : List AV) : Prop where
  a : AOK n A
  nd : nm.Nodup
  W : Wk C I fp full.length P St_
  hI : I ∈ hid
  far : I ∉ fsOf env
  tgp : TgP env.scope nm is_ tg
  m : mSs env.scope nm b bx = true
/-- what is walked is seen -/
structure WI (C : SC) (I : Addr) (hid fp : List Addr) (P : Nat → Value → Prop) (full : List AV) (s : Shared) (as : List Addr) (σ : St) : Prop where
  fp_ : ∀ b ∈ fp, b = I ∨ ∃ ob, (gv hid s as σ).get? b = some ob
  P_ : ∀ i v, P i v → ∃ y, i < full.length → full[i]? = some y ∧ Rep C (gv hid s as σ) as y v
section
variable {tg : Expr} {bx : List Stmt} {I : Addr} {fp : List Addr} {P : Nat → Value → Prop} {St_ : Nat → Heap → Prop} {full : List AV} {i : Nat}
theorem WI.move (c : WI C I hid fp P full s as σ) (sub : Sub (gv hid s as σ) (gv hid' s' as' σ')) (hp : Pre as as') : WI C I hid' fp P full s' as' σ' :=
  ⟨fun b hb => (c.fp_ b hb).imp id fun ⟨ob, e⟩ => ⟨ob, sub _ _ e⟩, fun i v h => let ⟨y, q⟩ := c.P_ i v h; ⟨y, fun hi => ⟨(q hi).1, Rep.mono sub hp _ _ (q hi).2⟩⟩⟩
theorem FS.frame (S : FS C n A env nm is_ tg bx b I hid fp P St_ full) (c : WI C I hid fp P full s as σ) (hst : St_ i s.heap) (hk : ∀ b o, b = I ∨ (b ∉ hid ∧ b ∉ alive as σ) → s.heap.get? b = some o → s'.heap.get? b = some o) : St_ i s'.heap :=
  (S.W.W A S.a.1).frame _ _ _ hst fun b hb o e => hk b o ((c.fp_ b hb).imp id fun ⟨ob, q⟩ => ⟨gv_hid q, gv_al q⟩) e

noncomputable def SemFo (C : SC) (n : Nat) (is_ : List Nat) (b : List MS) (xs ρ : List AV) (σ : St) (o : Out) (ρ' : List AV) (σ' : St) : Prop := ∀ {A env nm tg bx I hid fp P St_ full} {i : Nat} {R : Result → Shared → Prop} {s : Shared} {as : List Addr}, FS C n A env nm is_ tg bx b I hid fp P St_ full → WI C I hid fp P full s as σ → OK C hid s as σ → FrOK C env nm ρ hid s as σ →
  full.drop i = xs → i + xs.length = full.length → St_ i s.heap →
  (∀ f t as' h2 tk2, OK C hid t as' σ' → Stp (I :: fsOf env) s as σ t as' σ' → FrOK C env nm ρ' hid t as' σ' → outIs C (gv hid t as' σ') as' o f → (∀ b o, b ≠ I → t.heap.get? b = some o → h2.get? b = some o) → R (.ok f) { t with heap := h2, toks := tk2 }) →
  codeAny (model C.prog C.w) A (.forLoop tg (.ref I) bx [] env) R s
theorem Fo_nil : SemFo C n is_ b [] ρ σ .next ρ σ := fun {A env nm tg bx I hid fp P St_ full i R s as} S c k F hd hl hst hR => by
  refine for_1 ((S.W.W A S.a.1).done _ _ _ (hl ▸ hst) fun h2 tk2 keep2 => ?_)
  exact hR .next s as h2 tk2 k (Stp.refl _ _ _ _) F rfl fun b o hb e => keep2 b o (fun q => hb (List.mem_singleton.mp q)) e
/-- a turn -/
theorem fo_turn (h0 : TgtR is_.length x tv) (i1 : SemSs C n b (setAll ρ is_ tv) σ oo ρ1 σ1) (S : FS C n A env nm is_ tg bx b I hid fp P St_ full) (c : WI C I hid fp P full s as σ) (k : OK C hid s as σ) (F : FrOK C env nm ρ hid s as σ) (hd : full.drop i = x :: xs) (hst : St_ i s.heap)
    (kk : ∀ f s6 as6, WI C I hid fp P full s6 as6 σ1 → OK C hid s6 as6 σ1 → FrOK C env nm ρ1 hid s6 as6 σ1 → St_ (i + 1) s6.heap → Stp (I :: fsOf env) s as σ s6 as6 σ1 → outIs C (gv hid s6 as6 σ1) as6 oo f → match f with
            | .next | .cont => codeAny (model C.prog C.w) A (.forLoop tg (.ref I) bx [] env) R s6
            | .brk => R (.ok .next) s6
            | .ret v => R (.ok (.ret v)) s6) : codeAny (model C.prog C.w) A (.forLoop tg (.ref I) bx [] env) R s := by
  obtain ⟨hi, hx, _⟩ := drop_cons hd
  have fh := F.fh
  have W : ∀ a ∈ I :: fsOf env, a ∈ hid := fun a ha => by
    cases ha with
    | head => exact S.hI
    | tail _ ha => exact fh a ha
  refine for_1 ((S.W.W A S.a.1).item i _ _ _ hi hst fun v h2 tk2 hPv st2 keep2 => ?_)
  have keep2 : ∀ b ob, b ≠ I → s.heap.get? b = some ob → h2.get? b = some ob := fun b ob hb e => keep2 b ob (fun q => hb (List.mem_singleton.mp q)) e
  have lot := S.W.lot _ _ st2
  obtain ⟨oI, TI, hoI, hT⟩ := id lot
  obtain ⟨k2, t2, sub2⟩ := k.setHid (t := tk2) S.hI keep2 hoI
  have F2 : FrOK C env nm ρ hid { s with heap := h2, toks := tk2 } as σ := F.move (fun b o hb e => keep2 b o (fun q => S.far (q ▸ hb)) e) sub2 (Pre.refl _) fh
  have c2 := c.move sub2 (Pre.refl as)
  obtain ⟨y, hy⟩ := c2.P_ i v hPv
  obtain ⟨hy, ry⟩ := hy hi
  cases hx.symm.trans hy
  refine lot_ok lot (WP.mono (assign_ok (fs := fsOf env) fh S.a.1 S.nd k2 F2 S.tgp (fun _ _ y _ => wr_all env y) h0 ry) fun _ s3 z3 => ?_)
  obtain ⟨k3, t3, F3, sub3, keep3⟩ := z3
  have c3 := c2.move sub3 (Pre.refl as)
  have st3 : St_ (i + 1) s3.heap := S.frame c2 st2 fun b o hb e => keep3 b o (fun q => hb.elim (fun z => S.far (z ▸ q)) fun z => z.1 (fh b q)) e
  have t13 : Stp (I :: fsOf env) s as σ s3 as σ := (stp_up t2 k2 (fun a ha => by rw [List.mem_singleton.mp ha]; exact .head _) W).trans (stp_up t3 k3 (fun a ha => .tail _ ha) W) (k3.disj W)
  refine WP.mono (i1 S.nd ⟨S.a, k3, F3⟩ S.m) fun f s6 z6 => ?_
  obtain ⟨as6, k6, t6, F6, ho⟩ := z6
  exact kk f s6 as6 (c3.move (t6.vis fh) t6.pre) k6 F6 (S.frame c3 st3 fun b o hb e => hb.elim (fun z => t6.keep b o (fun q => S.far (z ▸ q)) (k3.dj b (z ▸ S.hI)) e) fun z => t6.keep b o (fun q => z.1 (fh b q)) z.2 e) (t13.trans (stp_up t6 k6 (fun a ha => .tail _ ha) W) (k6.disj W)) ho
theorem Fo_go (h0 : TgtR is_.length x tv) (i1 : SemSs C n b (setAll ρ is_ tv) σ oo ρ1 σ1) (h : oo.isRet = false) (i2 : SemFo C n is_ b xs ρ1 σ1 o ρ' σ') : SemFo C n is_ b (x :: xs) ρ σ o ρ' σ' := fun {A env nm tg bx I hid fp P St_ full i R s as} S c k F hd hl hst hR =>
  fo_turn h0 i1 S c k F hd hst fun f s6 as6 c6 k6 F6 st6 t6 ho => by
    have q := i2 (R := R) S c6 k6 F6 (drop_cons hd).2.2 (len_step hl) st6 fun f t as' h2 tk2 k7 t7 F7 ho keep => hR f t as' h2 tk2 k7 (t6.trans t7 (k7.disj fun a ha => by
      cases ha with
      | head => exact S.hI
      | tail _ ha => exact F.fh a ha)) F7 ho keep
    cases oo with
    | next => cases (ho : f = .next); exact q
    | cont => cases (ho : f = .cont); exact q
    | ret v => cases h
theorem Fo_ret {w : AV} (h0 : TgtR is_.length x tv) (i1 : SemSs C n b (setAll ρ is_ tv) σ (.ret w) ρ1 σ1) : SemFo C n is_ b (x :: xs) ρ σ (.ret w) ρ1 σ1 := fun {A env nm tg bx I hid fp P St_ full i R s as} S c k F hd hl hst hR =>
  fo_turn h0 i1 S c k F hd hst fun f s6 as6 c6 k6 F6 st6 t6 ho => by
    have q := hR f s6 as6 s6.heap s6.toks k6 t6 F6 ho fun _ _ _ e => e
    obtain ⟨u, rfl, _⟩ := ho
    exact q
end

theorem S_for {tup : Bool} {it : ME} (i1 : SemE C n ρ it σ x σ1) (h2 : ItR x xs) (i2 : SemFo C n is_ b xs ρ σ1 o ρ' σ') : SemS C n (.for_ is_ tup it b) ρ σ o ρ' σ' := fun {env nm st hid A s as} hnd c hm => by
  have h1 := and_r hm; have g2 := and_r h1; have g3 := and_r g2; have g4 := and_r g3
  refine WP.yst (and_l hm) ?_
  show WP C A (exec (.For (yf st).a (yf st).b (yf st).ss (yf st).s2 (yf st).pos) env) _ s
  rw [List.isEmpty_iff.mp (and_r g4)]
  refine wpAny_For (goE i1 c (and_l g3) fun xv s1 as1 c1 t1 r1 => (iter_ok r1 h2).mono fun it s2 z2 => ?_) (folded_of (and_l g2) env)
  obtain ⟨oI, fp, P, St_, hfr, hWk, hst0, hfp, hP⟩ := z2
  have gI := Heap.get?_push_size (o := oI) s1.heap hfr
  have hIn := size_none s1.heap
  generalize s1.heap.objs.size = I at *
  have K := keeps_push s1 oI s1.toks
  obtain ⟨k2, sub2⟩ := c1.k.newHid (ex := [I]) (h' := s1.heap.push oI) (t := s1.toks) (fun a ha => by rw [List.mem_singleton.mp ha]; exact hIn) (fun b ob e => Heap.get?_push_of_some _ e) (fun a ha => by rw [List.mem_singleton.mp ha]; exact ⟨_, gI⟩)
  have nh : I ∉ hid := fun q => let ⟨o, e⟩ := c1.k.inh _ (List.mem_append_left _ q); ne_of_get hIn e
  have fh := c.f.fh
  have F2 : FrOK C env nm ρ ([I] ++ hid) { s1 with heap := s1.heap.push oI } as1 σ1 := c1.f.move (fun b o _ e => Heap.get?_push_of_some _ e) sub2 (Pre.refl _) fun a ha => List.mem_append_right _ (fh a ha)
  have S : FS C n A env nm is_ (yf st).a (yf st).ss b I ([I] ++ hid) fp P St_ xs := ⟨c.a, hnd, hWk, .head _, fun q => nh (fh _ q), tgP_of (and_l h1), and_l g4⟩
  have w0 : WI C I hid fp P xs s1 as1 σ1 := ⟨hfp, hP⟩
  refine i2 S (w0.move sub2 (Pre.refl _)) k2 F2 rfl (Nat.zero_add _) hst0 fun f t as' h2 tk2 k3 t3 F3 ho keep => ?_
  have keep : ∀ b ob, b ∉ [I] → t.heap.get? b = some ob → h2.get? b = some ob := fun b ob hb e => keep b ob (fun q => hb (q ▸ .head _)) e
  obtain ⟨k4, sub4⟩ := k3.dropHid (h' := h2) (t := tk2) (fun b hb => by rw [List.mem_singleton.mp hb]; exact nh) keep
  have a1 : Stp (fsOf env) s1 as1 σ1 t as' σ' := stp_more (Stp.keeps K) t3 (fun a ha => by
    cases ha with
    | head => exact .inr hIn
    | tail _ ha => exact .inl ha) (k4.disj fh)
  have t4 : Stp (fsOf env) s1 as1 σ1 { t with heap := h2, toks := tk2 } as' σ' := ⟨same_tr a1.same ⟨_, _, rfl⟩, fun b o h1 h2 e => keep b o (fun q => ne_of_get hIn (List.mem_singleton.mp q ▸ e)) (a1.keep b o h1 h2 e), a1.grow, a1.pre⟩
  refine ⟨as', k4, (stp_fs t1 c.f c1.k).trans t4 (k4.disj fh), F3.move (fun b o hb e => keep b o (fun q => nh (List.mem_singleton.mp q ▸ fh b hb)) e) sub4 (Pre.refl _) fh, ?_⟩
  cases o with
  | next => exact ho
  | cont => exact ho
  | ret v => obtain ⟨u, e, hr⟩ := ho; exact ⟨u, e, Rep.mono sub4 (Pre.refl _) _ _ hr⟩

/-- the meaning of a run -/
noncomputable def Sem' (C : SC) (n : Nat) : J → Prop
  | .e ρ e σ v σ' => SemE C n ρ e σ v σ'
  | .es ρ e σ v σ' => SemEs C n ρ e σ v σ'
  | .o ρ e σ v σ' => SemO C n ρ e σ v σ'
  | .t ρ e σ b σ' => SemT C n ρ e σ b σ'
  | .tb k ρ e σ b σ' => SemTB C n k ρ e σ b σ'
  | .bs k ρ e σ v σ' => SemBs C n k ρ e σ v σ'
  | .c ρ x ops e σ b σ' => SemC C n ρ x ops e σ b σ'
  | .ts ρ e σ b σ' => SemTs C n ρ e σ b σ'
  | .cl elt ifs nn cap xs σ vs σ' => SemCl C n elt ifs nn cap xs σ vs σ'
  | .s e ρ σ o ρ' σ' => SemS C n e ρ σ o ρ' σ'
  | .ss e ρ σ o ρ' σ' => SemSs C n e ρ σ o ρ' σ'
  | .wh t b ρ σ o ρ' σ' => SemWh C n t b ρ σ o ρ' σ'
  | .fo is_ b xs ρ σ o ρ' σ' => SemFo C n is_ b xs ρ σ o ρ' σ'
  | .f f vs σ v σ' => SemF C n f vs σ v σ'
end
theorem mem_find {β : Type} {n : Str} {c : β} {cs : List (Str × β)} (hnd : (cs.map (·.1)).Nodup) (hm : (n, c) ∈ cs) : cs.lookup n = some c := by
  induction cs with
  | nil => cases hm
  | cons x cs ih =>
    obtain ⟨y, d⟩ := x
    have h := List.nodup_cons.mp hnd
    cases hm with
    | head => rw [List.lookup_cons_self]
    | tail _ hm =>
      rw [List.lookup_cons, beq_eq_false_iff_ne.mpr fun e => h.1 (List.mem_map.mpr ⟨_, hm, e⟩)]
      exact ih h.2 hm
abbrev dbody (x : Str × Value) (r : List (Str × Value)) : Sem (ForInStep (List (Str × Value))) := if (r.lookup x.1).isNone = true then pure (ForInStep.yield (r ++ [(x.1, x.2)])) else pure (ForInStep.yield r)
theorem loop_add {l S : List (Str × Value)} (h : ((S ++ l).map (·.1)).Nodup) : forIn l S dbody = pure (S ++ l) := by
  induction l generalizing S with
  | nil => rw [List.append_nil]; rfl
  | cons x l ih =>
    rw [List.forIn_cons]
    have q : S.lookup x.1 = none := List.lookup_eq_none_iff.mpr fun p hp => by
      rw [List.map_append, List.nodup_append] at h
      exact bne_iff_ne.mpr fun e => h.2.2 _ (List.mem_map_of_mem hp) _ (List.mem_map_of_mem (.head _)) e.symm
    rw [dbody, q]
    show forIn l (S ++ [x]) dbody = _
    have e : S ++ x :: l = (S ++ [(x.1, x.2)]) ++ l := (List.append_assoc S [x] l).symm
    rw [e] at h ⊢
    exact ih h
theorem loop_skip {l l2 S : List (Str × Value)} (h : ∀ x ∈ l, (S.lookup x.1).isNone = false) : (forIn (l ++ l2) S dbody : Sem _) = forIn l2 S dbody := by
  induction l with
  | nil => rfl
  | cons x l ih =>
    rw [List.cons_append, List.forIn_cons, dbody, h x (.head _), if_neg Bool.false_ne_true]
    exact ih fun y hy => h y (.tail _ hy)
theorem zip_keys {A : List Str} {V : List Value} (h : A.length = V.length) : (A.zip V).map (·.1) = A := List.map_fst_zip (Nat.le_of_eq h)
theorem keys_in {A : List Str} {V : List Value} (h : A.length = V.length) (hn : A.Nodup) {n : Str} (hm : n ∈ A) : ((A.zip V).lookup n).isNone = false := by
  rw [← zip_keys h] at hm hn
  obtain ⟨⟨a, b⟩, q, rfl⟩ := List.mem_map.mp hm
  rw [mem_find hn q]; rfl
theorem pick_all {A : List Str} {V : List Value} {S : List (Str × Value)} (h : A.length = V.length) (hs : ∀ p ∈ A.zip V, S.lookup p.1 = some p.2) : A.filterMap (fun n => (S.lookup n).map fun v => (n, v)) = A.zip V := by
  induction A generalizing V with
  | nil => rfl
  | cons n A ih =>
    cases V with
    | nil => cases h
    | cons v V =>
      rw [List.filterMap_cons, hs (n, v) (.head _)]
      exact congrArg _ (ih (Nat.succ.inj h) fun p hp => hs p (.tail _ hp))

theorem ifn_ok {α : Type} {M : Model} {A : Around} {E : Value → Shared → Prop} {R : α → Shared → Prop} {s : Shared} {c : Bool} {e t : Sem α} (h : c = false) (k : wpAny M A t R E s) : wpAny M A (if c = true then e else t) R E s := by
  cases h; exact k
theorem bind_ok {s : Shared} {fd : FuncData} {P Q : List Str} {vals d1 d2 : List Value} {args : List Arg} {d : List Expr} (hp : fd.params = ⟨[], args, none, [], [], none, d⟩) (ha : args.map (·.arg) = P ++ Q) (hn : (P ++ Q).Nodup)
    (hd : ∀ {M : Model} {A : Around} {E : Value → Shared → Prop} {R : Option (Array Value) → Shared → Prop}, (∀ r, (r.getD #[]).toList = d1 ++ d2 → R r s) → wpAny M A (seqItems? fd.defaults) R E s)
    (hP : P.length = vals.length) (hQ : Q.length = d2.length) (h1 : d1.length ≤ P.length) : BindsTo s fd ⟨vals, []⟩ ((P ++ Q).zip (vals ++ d2)) := by
  intro M A E R hq
  have hl : (d1 ++ d2).length ≤ (P ++ Q).length := by rw [List.length_append, List.length_append, hQ]; exact Nat.add_le_add_right h1 _
  have hf : (P ++ Q).length - (d1 ++ d2).length = P.length - d1.length := by rw [List.length_append, List.length_append, hQ]; exact Nat.add_sub_add_right _ _ _
  have hz : (P ++ Q).zip vals = P.zip vals := by rw [← List.append_nil vals, List.zip_append hP, List.zip_nil_right, List.append_nil, List.append_nil]
  have hlen : (P ++ Q).length = (vals ++ d2).length := by rw [List.length_append, List.length_append, hP, hQ]
  have hPn := (List.nodup_append.mp hn).1
  have h0 : (d1 ++ d2).drop ((d1 ++ d2).length - (P ++ Q).length) = d1 ++ d2 := by rw [Nat.sub_eq_zero_of_le hl]; rfl
  cases fd
  cases hp
  show wpAny M A (seqItems? _ >>= _) R E s
  refine wpAny_bind (hd fun r hr => ?_)
  refine ifn_ok (by
    show (decide ((args.map (·.arg)).length < vals.length) && true) = false
    rw [Bool.and_true, ha, decide_eq_false_iff_not, List.length_append, hP]
    exact Nat.not_lt.mpr (Nat.le_add_right _ _)) ?_
  refine ifn_ok (by
    show (!((((args.map (·.arg)).take ((args.map (·.arg)).length - (((r.getD #[]).toList).drop (((r.getD #[]).toList).length - (args.map (·.arg)).length)).length)).filter fun n => (((args.map (·.arg)).zip vals).lookup n).isNone).isEmpty)) = false
    rw [hr, ha, h0, hf, hz, List.take_append_of_le_length (Nat.sub_le _ _), List.filter_eq_nil_iff.mpr]
    · rfl
    · exact fun n hm e => Bool.false_ne_true ((keys_in hP hPn (List.mem_of_mem_take hm)).symm.trans e)) ?_
  refine wpAny_bind (wpAny_of_eq (?_ : forIn (((args.map Arg.arg).drop ((args.map Arg.arg).length - (((r.getD #[]).toList).drop (((r.getD #[]).toList).length - (args.map Arg.arg).length)).length)).zip (((r.getD #[]).toList).drop (((r.getD #[]).toList).length - (args.map Arg.arg).length))) ((args.map Arg.arg).zip vals) dbody = pure ((P ++ Q).zip (vals ++ d2))) (wpAny_pure ?_))
  · rw [hr, ha, h0, hf, hz, List.drop_append_of_le_length (Nat.sub_le _ _), List.zip_append (by rw [List.length_drop]; exact Nat.sub_sub_self h1), loop_skip fun x hx => keys_in hP hPn (List.mem_of_mem_drop (List.of_mem_zip hx).1), loop_add, List.zip_append hP]
    rw [← List.zip_append hP, zip_keys hlen]; exact hn
  · show R ((args.map Arg.arg ++ []).filterMap fun n => (((P ++ Q).zip (vals ++ d2)).lookup n).map fun v => (n, v)) s
    rw [List.append_nil, ha, pick_all hlen fun p hp => mem_find (by rw [zip_keys hlen]; exact hn) hp]
    exact hq

noncomputable def intVals : List Int → List Value → Bool
  | [], vs => vs.isEmpty
  | i :: is, [] => false
  | i :: is, v :: vs => (match v with
    | .int j _ => decide (i = j)
    | _ => false) && intVals is vs
noncomputable def seqOf (o : Option Obj) : Array Value := match o with
  | some ⟨_, _, .seq xs _, _⟩ => xs
  | _ => #[]
noncomputable def isSeq (o : Option Obj) : Bool := match o with
  | some ⟨_, _, .seq xs _, _⟩ => true
  | _ => false
/-- the literal defaults of a function -/
noncomputable def dfltOk (K : Frag) (dv : Value) (ds : List Int) : Bool := match dv with
  | .none => ds.isEmpty
  | .ref T => isSeq (K.lookup T) && intVals ds (seqOf (K.lookup T)).toList
  | _ => false
noncomputable def nmOk (sc : Scope) (x : Str) : Bool := sc.names.lookup x == some .local || sc.names.lookup x == some .cell
/-- my function is the one at its address -/
noncomputable def okFd (K : Frag) (ir : FnIR) (fd : FuncData) (body : List Stmt) : Bool :=
  decide (fd.scope.kind = .function) && (!fd.scope.isCoroutine && (!fd.scope.isGenerator && (fd.globals == mainGlobals && (fd.builtins == builtinsNs && (fd.closure.isEmpty && (codeIn K fd.code fd.qualname &&
    (fd.params.posonlyargs.isEmpty && (fd.params.vararg.isNone && (fd.params.kwonlyargs.isEmpty && (fd.params.kw_defaults.isEmpty && (fd.params.kwarg.isNone && (fd.params.args.map (·.arg) == ir.params &&
    (decide (ir.params ++ ir.locals).Nodup && ((ir.params ++ ir.locals).all (nmOk fd.scope) && (fd.scope.names.all (fun x => x.2 != .cell || ((cellsFrom 0 fd.scope.names []).map (·.1)).contains x.1) &&
    (decide ((cellsFrom 0 fd.scope.names []).map (·.1)).Nodup &&
    (dfltOk K fd.defaults ir.dflt && (Nat.ble ir.dflt.length ir.params.length && mSs fd.scope (ir.params ++ ir.locals) ir.body body))))))))))))))))))
noncomputable def fnOf (o : Option Obj) : Option FuncData := match o with
  | some ⟨_, _, .func fd, _⟩ => some fd
  | _ => none
noncomputable def stsOf (o : FuncBody) : Option (List Stmt) := match o with
  | .stmts b => some b
  | _ => none
noncomputable def okFn (K : Frag) (f : Nat) (ir : FnIR) : Bool := match fnOf (K.lookup (nms.fa f)) with
  | some fd => (match stsOf fd.body with
    | some body => okFd K ir fd body
    | none => false)
  | none => false

section
variable {C : SC} {n : Nat} {hid ex : List Addr} {s s' s'' : Shared} {as as' as'' ase : List Addr} {σ σ' σ'' σe : St} {r x : AV} {v w : Value} {env : Env} {nm : List Str} {ρ ρ' ρ'' : List AV} {A : Around} {fs : List Addr} {o : Out}

theorem intVals_of {g : Heap} : ∀ {is : List Int} {vs : List Value}, intVals is vs = true → RepL C g as (is.map .int) vs
  | [], vs, h => List.isEmpty_iff.mp h
  | i :: is, [], h => absurd h Bool.false_ne_true
  | i :: is, v :: vs, h => RCons.mk v vs (by
      cases v <;> first | exact absurd (and_l h) Bool.false_ne_true | exact of_decide_eq_true (and_l h) ▸ RInt.mk _) (intVals_of (and_r h))
theorem repL_app {g : Heap} {xs ys : List AV} {vs ws : List Value} (h : RepL C g as xs vs) (h2 : RepL C g as ys ws) : RepL C g as (xs ++ ys) (vs ++ ws) := by
  induction xs generalizing vs with
  | nil => cases (h : vs = []); exact h2
  | cons x xs ih => obtain ⟨v, vs, q1, q2⟩ := (h : RCons _ _ vs); exact RCons.mk v (vs ++ ws) q1 (ih q2)
theorem repL_at {g : Heap} {xs : List AV} {vs : List Value} {i : Nat} (h : RepL C g as xs vs) (e : xs[i]? = some x) : ∃ v, vs[i]? = some v ∧ Rep C g as x v := by
  induction xs generalizing vs i with
  | nil => cases e
  | cons y xs ih =>
    obtain ⟨v, vs, q1, q2⟩ := (h : RCons _ _ vs)
    cases i with
    | zero => cases e; exact ⟨v, rfl, q1⟩
    | succ i => have q := ih (i := i) q2 e; exact q
theorem repL_drop {g : Heap} {k : Nat} {xs : List AV} {vs : List Value} (h : RepL C g as xs vs) : RepL C g as (xs.drop k) (vs.drop k) := by
  induction xs generalizing vs k with
  | nil => cases (h : vs = []); cases k <;> exact (rfl : [] = [])
  | cons y xs ih =>
    cases k with
    | zero => exact h
    | succ k => obtain ⟨v, vs, q1, q2⟩ := (h : RCons _ _ vs); exact ih q2

noncomputable def flV : Flow → Value
  | .ret v => v
  | _ => .none
/-- what a call gives back -/
theorem fin_ok {keep : Bool} {v_ : AV} (k : OK C hid s' ase σe) (t : Stp [] s as σ s' ase σe) (hl : as.length = σ.length) (r : Rep C (gv hid s' ase σe) ase x w) (h : FinR keep σ.length x σe v_ σ') : EPost C hid s as σ v_ σ' w s' := by
  have cutStp : ∀ {b : Nat}, σ.length ≤ b → Stp [] s as σ s' (ase.take b) (σe.take b) := fun {b} hb =>
    ⟨t.same, t.keep, fun a ha => t.grow a (alive_take ha), fun i a e => by
      rw [List.getElem?_take_of_lt (Nat.lt_of_lt_of_le (hl ▸ get_lt e) hb)]; exact t.pre i a e⟩
  have tk : ∀ {i b : Nat}, b ≤ i → (σe.set i .dead).take b = σe.take b := fun h => List.take_set_of_le h
  cases h with
  | val h => exact ⟨_, (k.cut _).1, cutStp (Nat.le_refl _), Rep.noown h (Rep.mono (k.cut _).2 (Pre.refl _) _ _ r)⟩
  | list h hb =>
    obtain ⟨a, ha, vs, ⟨n, ho⟩, h2⟩ := own_list k r h
    obtain ⟨q1, q2, q3, q4⟩ := k.kill ha h rfl
    have q5 := (q1.1.cut σ.length).2
    rw [tk hb] at q5
    exact ⟨_, (k.cut _).1, cutStp (Nat.le_refl _), RSeq.mk a vs ⟨_, q5 _ _ (gv_get ho q3 q4), rfl, n, rfl⟩ (RepL.mono (q2.trans q5) Pre.nil _ _ h2)⟩
  | map h hb =>
    obtain ⟨a, ha⟩ := (r : RRef _ w)
    obtain ⟨q1, q2, q3, q4⟩ := k.kill ha h rfl
    have q5 := (q1.1.cut σ.length).2
    rw [tk hb] at q5
    exact ⟨_, (k.cut _).1, cutStp (Nat.le_refl _), RRef.mk a (MapRep.mono (k.own _ a _ ha h) (fun _ e => q5 _ _ (gv_get e q3 q4)) (q2.trans q5))⟩
  | keep h =>
    obtain ⟨a, ha⟩ := (r : RRef _ w)
    exact ⟨_, (k.cut _).1, cutStp (Nat.le_succ _), RRef.mk a ((List.getElem?_take_of_lt (Nat.lt_succ_self _)).trans ha)⟩
end
theorem bindL_other {kd : Str → Option NameKind} {n : Str} {bs : List (Str × Value)} {m : Str → Option Value} (h : n ∉ bs.map (·.1)) : bindL kd bs m n = m n ∧ bindC kd bs m n = m n := by
  induction bs generalizing m with
  | nil => exact ⟨rfl, rfl⟩
  | cons x bs ih =>
    have h1 : n ≠ x.1 := fun e => h (e ▸ .head _)
    have h2 : n ∉ bs.map (·.1) := fun q => h (.tail _ q)
    show bindL kd bs (if kd x.1 = some .local then fun y => if y = x.1 then some x.2 else m y else m) n = m n ∧ bindC kd bs (if kd x.1 = some .local then m else fun y => if y = x.1 then some x.2 else m y) n = m n
    rw [(ih h2).1, (ih h2).2]
    by_cases hk : kd x.1 = some .local
    · rw [if_pos hk, if_pos hk]; exact ⟨if_neg h1, rfl⟩
    · rw [if_neg hk, if_neg hk]; exact ⟨rfl, if_neg h1⟩
theorem bind_get {kd : Str → Option NameKind} {n : Str} {v : Value} {bs : List (Str × Value)} {m m' : Str → Option Value} (hnd : (bs.map (·.1)).Nodup) (h : (n, v) ∈ bs) : (kd n = some .local → bindL kd bs m n = some v) ∧ (kd n = some .cell → bindC kd bs m' n = some v) := by
  induction bs generalizing m m' with
  | nil => cases h
  | cons x bs ih =>
    have hnd := List.nodup_cons.mp hnd
    show (_ → bindL kd bs (if kd x.1 = some .local then fun y => if y = x.1 then some x.2 else m y else m) n = some v) ∧ (_ → bindC kd bs (if kd x.1 = some .local then m' else fun y => if y = x.1 then some x.2 else m' y) n = some v)
    cases h with
    | head =>
      rw [(bindL_other hnd.1).1, (bindL_other hnd.1).2]
      exact ⟨fun q => by rw [if_pos q]; exact if_pos rfl, fun q => by rw [if_neg fun z => absurd (q.symm.trans z) (by decide)]; exact if_pos rfl⟩
    | tail _ h => exact ih hnd.2 h

section
variable {C : SC} {n : Nat} {hid ex : List Addr} {s s' s'' : Shared} {as as' as'' ase : List Addr} {σ σ' σ'' σe σ1 σ2 : St} {r x : AV} {v w : AV} {env : Env} {nm : List Str} {ρ ρ' ρ'' : List AV} {A : Around} {fs : List Addr} {o : Out} {ir : FnIR} {vs : List AV} {f : Nat}

theorem fn_get {o : Option Obj} {fd : FuncData} (h : fnOf o = some fd) : ∃ ob, o = some ob ∧ ob.data = .func fd := by
  obtain _ | ⟨_, _, d, _⟩ := o
  · cases h
  · cases d <;> cases h
    exact ⟨_, rfl, rfl⟩
theorem sts_get {o : FuncBody} {b : List Stmt} (h : stsOf o = some b) : o = .stmts b := by cases o <;> cases h; rfl
theorem seq_get {o : Option Obj} (h : isSeq o = true) : ∃ ob n, o = some ob ∧ ob.data = .seq (seqOf o) n := by
  obtain _ | ⟨_, _, d, _⟩ := o
  · cases h
  · cases d <;> cases h
    exact ⟨_, _, rfl, rfl⟩
theorem dflt_ok {K : Frag} {dv : Value} {ds : List Int} (X : K.In s.heap) (h : dfltOk K dv ds = true) {g : Heap} : ∃ dvs, RepL C g as (ds.map .int) dvs ∧ ∀ {M : Model} {A : Around} {E : Value → Shared → Prop} {R : Option (Array Value) → Shared → Prop}, (∀ r, (r.getD #[]).toList = dvs → R r s) → wpAny M A (seqItems? dv) R E s := by
  cases dv <;> first | exact absurd h Bool.false_ne_true | skip
  · rw [List.isEmpty_iff.mp (h : ds.isEmpty = true)]
    exact ⟨[], rfl, fun k => wpAny_pure (k none rfl)⟩
  · obtain ⟨ob, n, q1, q2⟩ := seq_get (and_l h)
    exact ⟨_, intVals_of (and_r h), fun k => wpAny_seqItems (X _ _ q1) q2 (k _ rfl)⟩
theorem ar {L v D : Nat} (h1 : L ≤ v + D) (h2 : v ≤ L) (h3 : D ≤ L) : L - v = D - (v + D - L) ∧ v + D - L ≤ v := by
  obtain ⟨e, rfl⟩ := Nat.exists_eq_add_of_le h2
  rw [Nat.add_sub_add_left, Nat.add_sub_cancel_left, Nat.sub_sub_self (Nat.le_of_add_le_add_left h1)]
  exact ⟨rfl, Nat.sub_le_of_le_add h3⟩
theorem ne_isEmpty {α : Type} {l : List α} (h : l.isEmpty = true) : l = [] := List.isEmpty_iff.mp h
theorem not_f {b : Bool} (h : (!b) = true) : b = false := by cases b <;> first | rfl | cases h
theorem par_eta {p : Arguments} (h1 : p.posonlyargs.isEmpty = true) (h2 : p.vararg.isNone = true) (h3 : p.kwonlyargs.isEmpty = true) (h4 : p.kw_defaults.isEmpty = true) (h5 : p.kwarg.isNone = true) : p = ⟨[], p.args, none, [], [], none, p.defaults⟩ := by
  obtain ⟨a, b, c, d, e, f, g⟩ := p
  cases ne_isEmpty h1; cases ne_isEmpty h3; cases ne_isEmpty h4
  cases Option.isNone_iff_eq_none.mp h2; cases Option.isNone_iff_eq_none.mp h5
  rfl
theorem F_fn (hok : okFn C.K f ir = true) (h1 : ir.params.length ≤ vs.length + ir.dflt.length) (h2 : vs.length ≤ ir.params.length) (hb : bindA ir vs = ρ) (i1 : SemSs C n ir.body ρ σ o ρ' σ1) (hf : FinR ir.keep σ.length (outV o) σ1 v σ2) : SemF C (n + 1) f vs σ v σ2 := fun {A s as hid ws} hA k hr => by
  have X : C.K.In s.heap := fun b o e => k.base _ _ (C.X b o e)
  unfold okFn at hok
  cases hl : fnOf (C.K.lookup (nms.fa f)) with
  | none => rw [hl] at hok; cases hok
  | some fd =>
  rw [hl] at hok
  dsimp only at hok
  cases hl2 : stsOf fd.body with
  | none => rw [hl2] at hok; cases hok
  | some body =>
  rw [hl2] at hok
  obtain ⟨ob, g1, g2⟩ := fn_get hl
  have g3 := sts_get hl2
  clear hl hl2
  replace hok : okFd C.K ir fd body = true := hok
  have a1 := and_r hok; have a2 := and_r a1; have a3 := and_r a2; have a4 := and_r a3; have a5 := and_r a4; have a6 := and_r a5; have a7 := and_r a6; have a8 := and_r a7; have a9 := and_r a8; have a10 := and_r a9; have a11 := and_r a10; have a12 := and_r a11
  have a13 := and_r a12; have a14 := and_r a13; have a15 := and_r a14; have a16 := and_r a15; have a17 := and_r a16; have a18 := and_r a17
  have hnd : (ir.params ++ ir.locals).Nodup := of_decide_eq_true (and_l a13)
  have hkf : fd.scope.kind = .function := of_decide_eq_true (and_l hok)
  have hpar := eq_of_beq (and_l a12)
  obtain ⟨dvs, hdr, hds⟩ := dflt_ok (C := C) (as := as) (g := gv hid s as σ) X (and_l a17)
  have hdl := hdr.len
  rw [List.length_map] at hdl
  have hwl := hr.len
  obtain ⟨b1, b2⟩ := ar h1 h2 (Nat.le_of_ble_eq_true (and_l a18))
  generalize hk0 : vs.length + ir.dflt.length - ir.params.length = k0 at b1 b2
  have hrw : RepL C (gv hid s as σ) as (vs ++ (ir.dflt.drop k0).map .int) (ws ++ dvs.drop k0) := repL_app hr (by rw [List.map_drop]; exact repL_drop hdr)
  have hpq : ir.params.take vs.length ++ ir.params.drop vs.length = ir.params := List.take_append_drop _ _
  have hQ : (ir.params.drop vs.length).length = (dvs.drop k0).length := by rw [List.length_drop, List.length_drop, hdl]; exact b1
  have hP : (ir.params.take vs.length).length = ws.length := by rw [List.length_take, hwl]; exact Nat.min_eq_left h2
  have hbind := bind_ok (s := s) (fd := fd) (P := ir.params.take vs.length) (Q := ir.params.drop vs.length) (vals := ws) (d1 := dvs.take k0) (d2 := dvs.drop k0) (args := fd.params.args) (d := fd.params.defaults) (par_eta (and_l a7) (and_l a8) (and_l a9) (and_l a10) (and_l a11)) (by rw [hpq]; exact hpar) (by rw [hpq]; exact (List.nodup_append.mp hnd).1) (by rw [List.take_append_drop]; exact hds) hP hQ (by rw [hP, hwl]; exact Nat.le_trans (List.length_take_le _ _) b2)
  rw [hpq] at hbind
  have hwl2 : ir.params.length = (ws ++ dvs.drop k0).length := by rw [← hpq, List.length_append, List.length_append, hP, hQ]
  have hbk : (ir.params.zip (ws ++ dvs.drop k0)).map (·.1) = ir.params := zip_keys hwl2
  have hcn : ∀ nn : Nat, ((cellsFrom nn fd.scope.names []).map (·.1)).Nodup := fun nn => by rw [cellsFrom_names fd.scope.names nn 0 [] [] rfl]; exact of_decide_eq_true (and_l a16)
  have hcell : ∀ (nn : Nat) (x : Str), fd.scope.names.lookup x = some .cell → ((cellsFrom nn fd.scope.names []).lookup x).isSome = true := fun nn x hx => by
    have q : ((cellsFrom 0 fd.scope.names []).map (·.1)).contains x = true := List.all_eq_true.mp (and_l a15) _ (mem_lookup hx)
    rw [List.contains_iff_mem, cellsFrom_names fd.scope.names 0 nn [] [] rfl] at q
    obtain ⟨⟨a, b⟩, hp, rfl⟩ := List.mem_map.mp q
    rw [lookup_of_mem_nodup (hcn nn) hp]; rfl
  have hkind : ∀ (nn : Nat) (x : Str), x ∈ ir.params ++ ir.locals → fd.scope.names.lookup x = some .local ∨ (fd.scope.names.lookup x = some .cell ∧ ((cellsFrom nn fd.scope.names []).lookup x).isSome = true) := fun nn x hx =>
    (Bool.or_eq_true_iff.mp (List.all_eq_true.mp (and_l a14) x hx)).imp eq_of_beq fun q => ⟨eq_of_beq q, hcell nn x (eq_of_beq q)⟩
  refine codeAny_call_function (Nat.lt_of_le_of_lt (Nat.le_trans (Nat.le_add_right _ _) (Nat.le_add_right _ _)) hA.2.1) (X _ _ g1) g2 (not_f (and_l a1)) (not_f (and_l a2)) g3 (codeRec_of X (and_l a6)) (hbind _ _ _ _ ?_)
  rw [ne_isEmpty (and_l a5)]
  refine wpAny_newFunctionEnv_cells hkf (fun x hx => hkind _ _ (List.mem_append_left _ (hbk ▸ List.mem_map_of_mem (f := (·.1)) hx))) fun env' he' s1 x1 => ⟨(C.T.nolimit.keeps k.base).keeps x1.toInCall.keep, codeAny_func ?_⟩
  have eL : env'.locals = s.heap.objs.size := by rw [he']; rfl
  have eC : env'.cells = cellsFrom (s.heap.objs.size + 1) fd.scope.names [] := by rw [he']; rfl
  have eS : env'.scope = fd.scope := by rw [he']; rfl
  have hcnd : (env'.cells.map (·.1)).Nodup := eC ▸ hcn _
  have hnone : ∀ a ∈ fsOf env', s.heap.get? a = none := fun a ha => by
    cases e : s.heap.get? a with
    | none => rfl
    | some o =>
      refine absurd (Heap.lt_size e) (Nat.not_lt.mpr ?_)
      cases ha with
      | head => exact Nat.le_of_eq eL.symm
      | tail _ ha =>
        obtain ⟨p, hp, rfl⟩ := List.mem_map.mp ha
        exact Nat.le_of_lt (eL ▸ x1.above p.1 p.2 hp)
  obtain ⟨hh1, tk1, es1, keep1⟩ := x1.done
  subst es1
  have hex1 : ∀ a ∈ fsOf env', ∃ ob, hh1.get? a = some ob := fun a ha => by
    cases ha with
    | head => obtain ⟨o, _, _, ho, _⟩ := x1.toInCall.ns; exact ⟨o, ho⟩
    | tail _ ha =>
      obtain ⟨p, hp, rfl⟩ := List.mem_map.mp ha
      obtain ⟨o, ho, _⟩ := x1.cell p.1 p.2 (lookup_of_mem_nodup hcnd hp); exact ⟨o, ho⟩
  obtain ⟨k1, sub1⟩ := k.newHid (ex := fsOf env') (h' := hh1) (t := tk1) hnone keep1 hex1
  have est : EnvS env' := by
    refine ⟨eS ▸ hkf, ?_, ?_, fun nn hn => ?_, fun nn n' c q1 q2 => name_of_addr x1.apart (mem_lookup q1) (mem_lookup q2), fun nn c hc => Nat.ne_of_gt (x1.above nn c (mem_lookup hc))⟩
    · rw [he']; exact eq_of_beq (and_l a3)
    · rw [he']; exact eq_of_beq (and_l a4)
    · rw [eC]; exact hcell _ _ (eS ▸ hn : fd.scope.names.lookup nn = some .cell)
  have F1 : FrOK C env' (ir.params ++ ir.locals) ρ (fsOf env' ++ hid) { s with heap := hh1, toks := tk1 } as σ := by
    refine ⟨_, _, x1.toInCall.ns, x1.cell, fun i nn y e1 e2 e3 => ?_, fun a ha => List.mem_append_left _ ha, est⟩
    subst hb
    rw [bindA, hk0, ← List.append_assoc] at e2
    rcases Nat.lt_or_ge i (vs ++ (ir.dflt.drop k0).map AV.int).length with hi | hi
    · rw [List.getElem?_append_left hi] at e2
      obtain ⟨u, hu, hru⟩ := repL_at hrw e2
      rw [List.getElem?_append_left (by rw [hwl2, hrw.len]; exact hi)] at e1
      have hm : (nn, u) ∈ ir.params.zip (ws ++ dvs.drop k0) := List.mem_of_getElem? (i := i) (List.getElem?_zip_eq_some.mpr ⟨e1, hu⟩)
      exact ⟨u, Rep.mono sub1 (Pre.refl _) _ _ hru, bind_get (by rw [hbk]; exact (List.nodup_append.mp hnd).1) hm⟩
    · rw [List.getElem?_append_right hi, List.getElem?_map] at e2
      obtain ⟨_, _, rfl⟩ := Option.map_eq_some_iff.mp e2
      cases e3
  refine wpAny_mono (i1 hnd ⟨hA.deeper, k1, F1⟩ (eS ▸ and_r a18)) (fun fl s2 z2 => ?_) fun _ _ z => z.elim
  obtain ⟨ase, ke, te, Fe, ho⟩ := z2
  have ndx : ∀ b ∈ fsOf env', b ∉ hid := fun b hb q => let ⟨o, e⟩ := k.inh _ (List.mem_append_left _ q); ne_of_get (hnone b hb) e
  obtain ⟨k2, sub2⟩ := ke.dropHid (h' := s2.heap) (t := s2.toks) ndx fun _ _ _ e => e
  have tt : Stp [] s as σ s2 ase σ1 := stp_more (Stp.keeps ⟨_, _, rfl, keep1⟩) te (fun a ha => .inr (hnone a ha)) (fun _ _ h => nomatch h)
  refine ⟨flV fl, ?_, fin_ok k2 tt k.len ?_ hf⟩
  · cases fl <;> rfl
  · cases o with
    | next => cases (ho : fl = .next); exact (rfl : Value.none = .none)
    | cont => cases (ho : fl = .cont); exact (rfl : Value.none = .none)
    | ret v => obtain ⟨w, rfl, hr⟩ := ho; exact Rep.mono sub2 (Pre.refl _) _ _ hr
end
theorem D_ok {C : SC} (S : Static C) (hP : ∀ f ir, prog f = some ir → okFn C.K f ir = true) {n : Nat} {j : J} (d : D n j) : Sem' C n j := by
  induction d with
  | loc h => exact E_loc h
  | num => exact E_num
  | str => exact E_str
  | byt => exact E_byt
  | boo => exact E_boo
  | non => exact E_non
  | glb h => exact E_glb S h
  | neg => exact E_neg
  | bin _ _ h i1 i2 => exact E_bin i1 i2 h
  | bop _ i => exact E_bop i
  | cmp _ _ i1 i2 => exact E_cmp i1 i2
  | ite _ _ i1 i2 => exact E_ite i1 i2
  | tup _ h2 h3 i => exact E_tup i h2 h3
  | lst _ h3 i => exact E_lst i h3
  | newl _ h2 h3 i => exact E_newl i h2 h3
  | newd => exact E_newd
  | call _ _ i1 i2 => exact E_call S i1 i2
  | newK _ h2 _ i1 i2 => exact E_newK S i1 h2 i2
  | newZ _ h2 _ h4 h5 i1 i2 => exact E_newZ S i1 h2 i2 h4 h5
  | bi _ h i => exact E_bi S i h
  | isint _ i => exact E_isint S i
  | methC _ h _ _ i1 i2 i3 => exact E_meth S i1 (.inl ⟨_, _, rfl, h⟩) i2 i3
  | methI _ _ _ i1 i2 i3 => exact E_meth S i1 (.inr ⟨_, rfl⟩) i2 i3
  | lmA _ h _ h3 i1 i2 => exact E_lmA i1 h i2 h3
  | lmE _ h _ h3 i1 i2 => exact E_lmE i1 h i2 h3
  | lmS _ _ h3 i1 i2 => exact E_lmS S i1 i2 h3
  | att _ h i => exact E_att S i h
  | sub _ _ h i1 i2 => exact E_sub i1 i2 h
  | slc _ _ _ h i1 i2 i3 => exact E_slc i1 i2 i3 h
  | comp _ h2 h3 _ i1 i4 => exact E_comp S i1 h2 h3 i4
  | nil => exact Es_nil
  | cons _ _ i1 i2 => exact Es_cons i1 i2
  | onil => exact O_nil
  | osome _ i => exact O_some i
  | tgen hg _ h i => exact T_gen hg i h
  | tnt _ i => exact T_nt i
  | tcmp _ _ i1 i2 => exact T_cmp i1 i2
  | tbop _ i => exact T_bop i
  | tbnil => exact TB_nil
  | tbgo _ _ i1 i2 => exact TB_go i1 i2
  | tbstop _ i => exact TB_stop i
  | bsone _ i => exact Bs_one i
  | bsgo _ h _ i1 i2 => exact Bs_go i1 h i2
  | bsstop _ h i => exact Bs_stop i h
  | cone _ h i => exact C_one S i h
  | cgo _ h _ i1 i2 => exact C_go S i1 h i2
  | cstop _ h i => exact C_stop S i h
  | tsnil => exact Ts_nil
  | tsgo _ _ i1 i2 => exact Ts_go i1 i2
  | tsstop _ i => exact Ts_stop i
  | clnil => exact cl_nil
  | clyes h0 _ _ _ i1 i2 i3 => exact cl_yes h0 i1 i2 i3
  | clno h0 _ _ i1 i3 => exact cl_no h0 i1 i3
  | asg hc _ i => exact S_asg hc i
  | asgc _ h2 h3 _ i1 i4 => exact S_asgc S i1 h2 h3 i4
  | unp _ hl i => exact S_unp i hl
  | seta _ _ h3 i1 i2 => exact S_seta S i1 i2 h3
  | seti _ _ _ h4 i1 i2 i3 => exact S_seti i1 i2 i3 h4
  | exp _ i => exact S_exp i
  | ret hn _ i => exact S_ret hn i
  | retN => exact S_retN
  | ifs _ _ i1 i2 => exact S_ifs i1 i2
  | whl _ i => exact S_whl i
  | for_ _ h2 _ _ i1 i4 => exact S_for i1 h2 i4
  | cont => exact S_cont
  | trc _ i => exact S_trc i
  | snil => exact Ss_nil
  | next _ _ i1 i2 => exact Ss_next i1 i2
  | stop _ h i => exact Ss_stop i h
  | whdone _ i => exact Wh_done i
  | whgo _ _ h _ i1 i2 i3 => exact Wh_go i1 i2 h i3
  | whret _ _ i1 i2 => exact Wh_ret i1 i2
  | fonil => exact Fo_nil
  | fogo h0 _ h _ i1 i2 => exact Fo_go h0 i1 h i2
  | foret h0 _ i1 => exact Fo_ret h0 i1
  | fn hp h1 h2 hb _ hf i => exact F_fn (hP _ _ hp) h1 h2 hb i hf
section
open Builtin Builtin.Str Builtin._codecs
noncomputable def asciiS : Str := ⟨#[97, 115, 99, 105, 105]⟩
theorem codecArg_ascii (u : Tok) (p : String) : codecArg "str.encode" "encode" p (some (.str asciiS u)) = pure (some asciiS) := by
  first | rfl | kernel_rfl | (unfold codecArg; kernel_rfl)
theorem encode_ascii_tree (x : Str) (t u : Tok) : «str.encode» ⟨[.str x t, .str asciiS u], []⟩ = (do ret (← encodeRoad "str.encode" (.str x t) x asciiS none)) := by
  show (do
    let encoding := (← codecArg "str.encode" "encode" "'encoding'" (some (.str asciiS u))).getD "utf-8"
    let errors ← codecArg "str.encode" "encode" "'errors'" none
    ret (← _codecs.encodeRoad "str.encode" (.str x t) x encoding errors)) = _
  rw [codecArg_ascii]
  rfl
theorem encodeRoad_ascii (id : String) (self : Value) (x : Str) (errors : Option Str) : encodeRoad id self x asciiS errors = (do mkBytes (← encodeNarrow id asciiCodec errors self x)) := by
  unfold encodeRoad
  have e : (normalName asciiS).toString = "ascii" := by first | decide +kernel | kernel_rfl
  rw [e]
  rfl
abbrev S3 : Type := Nat × Array UInt8 × Faults
noncomputable def bodyG (x : Str) (U : S3 → Sem (ForInStep S3)) (E : S3 → Nat → Sem (ForInStep S3)) (_ : Nat) (s : S3) : Sem (ForInStep S3) :=
  if s.2.1.size > sizeLine then U s else
    match x.cps[s.1]? with
    | some y => if (!asciiCodec.bad y) = true then pure (.yield (s.1 + ((x.cps.extract s.1 x.cps.size).findIdx? asciiCodec.bad).getD (x.cps.extract s.1 x.cps.size).size, ((x.cps.extract s.1 x.cps.size).extract 0 (((x.cps.extract s.1 x.cps.size).findIdx? asciiCodec.bad).getD (x.cps.extract s.1 x.cps.size).size)).foldl (fun acc y => acc ++ (asciiCodec.bytesOf y).toArray) s.2.1, s.2.2)) else E s y
    | _ => pure (.done (s.1, s.2.1, s.2.2))
theorem narrow_form (id : String) (self : Value) (x : Str) : ∃ U E, encodeNarrow id asciiCodec none self x = (forIn [:x.length] ((0, #[], {}) : S3) (bodyG x U E) >>= fun s => pure s.2.1) := ⟨_, _, rfl⟩
theorem loop2 {β : Type} {f : Nat → β → Sem (ForInStep β)} {b b1 : β} (h0 : ∀ i, f i b = pure (.yield b1)) (h1 : ∀ i, f i b1 = pure (.done b1)) (n : Nat) : (forIn [:n + 1] b f : Sem β) = pure b1 := by
  rw [Std.Legacy.Range.forIn_eq_forIn_range', show Std.Legacy.Range.size [:n + 1] = n + 1 from Nat.div_one _, List.range'_succ, List.forIn_cons, h0, pure_bind]
  cases n with
  | zero => rfl
  | succ n => exact (congrArg (· >>= _) (h1 _)).trans (pure_bind _ _)
theorem fold_map (l : List Nat) (acc : Array UInt8) : l.foldl (fun acc y => acc ++ (asciiCodec.bytesOf y).toArray) acc = acc ++ (l.map (·.toUInt8)).toArray := by
  induction l generalizing acc with
  | nil => exact (Array.append_empty).symm
  | cons a l ih => exact (ih _).trans (Array.append_assoc.trans (congrArg (acc ++ ·) (List.append_toArray [_] _)))
theorem loop0 {β : Type} {f : Nat → β → Sem (ForInStep β)} {b : β} : (forIn [:0] b f : Sem β) = pure b := by
  rw [Std.Legacy.Range.forIn_eq_forIn_range', show Std.Legacy.Range.size [:0] = 0 from Nat.div_one _]; rfl
section
variable {x : Str} {U : S3 → Sem (ForInStep S3)} {E : S3 → Nat → Sem (ForInStep S3)} {s t : S3} {y : Nat}
theorem bodyG_yield (i : Nat) (hs : s.2.1.size ≤ sizeLine) (hy : x.cps[s.1]? = some y) (hb : asciiCodec.bad y = false) (ht : (s.1 + ((x.cps.extract s.1 x.cps.size).findIdx? asciiCodec.bad).getD (x.cps.extract s.1 x.cps.size).size, ((x.cps.extract s.1 x.cps.size).extract 0 (((x.cps.extract s.1 x.cps.size).findIdx? asciiCodec.bad).getD (x.cps.extract s.1 x.cps.size).size)).foldl (fun acc y => acc ++ (asciiCodec.bytesOf y).toArray) s.2.1, s.2.2) = t) : bodyG x U E i s = pure (.yield t) := by
  subst ht
  refine (if_neg (Nat.not_lt.mpr hs)).trans ?_
  rw [hy]
  exact if_pos (by rw [hb]; rfl)
theorem bodyG_done (i : Nat) (hs : s.2.1.size ≤ sizeLine) (hy : x.cps[s.1]? = none) : bodyG x U E i s = pure (.done s) := by
  refine (if_neg (Nat.not_lt.mpr hs)).trans ?_
  rw [hy]
end
theorem narrow (id : String) (self : Value) (x : Str) (h : ∀ y ∈ x.cps, y < 128) (hz : x.cps.size ≤ sizeLine) : encodeNarrow id asciiCodec none self x = pure (x.cps.map (·.toUInt8)) := by
  obtain ⟨U, E, e⟩ := narrow_form id self x
  rw [e]
  have hb : ∀ y ∈ x.cps, asciiCodec.bad y = false := fun y hy => decide_eq_false (Nat.not_le.mpr (h y hy))
  have hfi : x.cps.findIdx? asciiCodec.bad = none := Array.findIdx?_eq_none_iff.mpr hb
  have hmap : x.cps.foldl (fun acc y => acc ++ (asciiCodec.bytesOf y).toArray) #[] = x.cps.map (·.toUInt8) := by
    rw [← Array.foldl_toList, fold_map, Array.empty_append]
    exact Array.ext' (by rw [Array.toList_map])
  show (forIn [:x.cps.size] _ _ >>= _) = _
  cases hn : x.cps.size with
  | zero =>
    rw [Array.eq_empty_of_size_eq_zero hn]
    exact (congrArg (· >>= _) loop0).trans ((pure_bind _ _).trans (congrArg pure Array.map_empty.symm))
  | succ n =>
    have hlt : 0 < x.cps.size := hn ▸ Nat.succ_pos n
    exact (congrArg (· >>= _) (loop2 (b1 := ((x.cps.size, x.cps.map (·.toUInt8), {}) : S3)) (fun i => bodyG_yield i (Nat.zero_le _) (Array.getElem?_eq_getElem hlt) (hb _ (Array.getElem_mem _)) (by
      show ((0 + ((x.cps.extract 0 x.cps.size).findIdx? asciiCodec.bad).getD (x.cps.extract 0 x.cps.size).size, ((x.cps.extract 0 x.cps.size).extract 0 (((x.cps.extract 0 x.cps.size).findIdx? asciiCodec.bad).getD (x.cps.extract 0 x.cps.size).size)).foldl (fun acc y => acc ++ (asciiCodec.bytesOf y).toArray) #[], {}) : S3) = _
      rw [Array.extract_size, hfi, Option.getD_none, Array.extract_size, hmap, Nat.zero_add]))
      (fun i => bodyG_done i (by rw [Array.size_map]; exact hz) (Array.getElem?_eq_none (Nat.le_refl _))) n)).trans (pure_bind _ _)

/-! split at one sign -/
noncomputable def cutsOf (c : Nat) : List Nat → Nat → List Nat
  | [], _ => []
  | z :: l, a => if z = c then a :: cutsOf c l (a + 1) else cutsOf c l (a + 1)

theorem subAt_one (x : Str) (c i : Nat) : subAt x ⟨#[c]⟩ i = true ↔ x.cps.toList[i]? = some c := by
  rw [StrLaws.subAt_eq]
  exact StrLaws.take1_drop

theorem occ_cuts (x : Str) (c : Nat) (limit : Nat) : ∀ (k a : Nat) (arr : Array Nat) (free : Nat), a + k = x.length + 1 → free ≤ a → arr.size ≤ a → x.length < limit →
    (forIn (List.range' a k) (arr, free) (StrLaws.occBody x ⟨#[c]⟩ x.length limit)).run.fst.toList = arr.toList ++ cutsOf c (x.cps.toList.drop a) a
  | 0, a, arr, free, h1, h2, h3, h4 => by
    have hd : x.cps.toList.drop a = [] := List.drop_eq_nil_of_le (by simp [Str.length] at h1 ⊢; omega)
    rw [hd]
    simp [cutsOf]
  | k + 1, a, arr, free, h1, h2, h3, h4 => by
    rw [List.range'_succ, List.forIn_cons]
    by_cases hc : x.cps.toList[a]? = some c
    · have hlt : a < x.length := by
        have := (List.getElem?_eq_some_iff.mp hc).1
        simpa [Str.length] using this
      have hb : StrLaws.occBody x ⟨#[c]⟩ x.length limit a (arr, free) = pure (ForInStep.yield (arr.push a, a + 1)) := by
        unfold StrLaws.occBody
        rw [if_pos ⟨⟨⟨by dsimp only; omega, h2⟩, by show a + 1 ≤ x.length; omega⟩, (subAt_one x c a).mpr hc⟩]
        rfl
      rw [hb]
      simp only [pure_bind]
      rw [occ_cuts x c limit k (a + 1) _ _ (by omega) (Nat.le_refl _) (by simp; omega) h4]
      have hd : x.cps.toList.drop a = c :: x.cps.toList.drop (a + 1) := by
        obtain ⟨h, e⟩ := List.getElem?_eq_some_iff.mp hc
        rw [← e]; exact List.drop_eq_getElem_cons h
      rw [hd]
      simp [cutsOf]
    · have hb : StrLaws.occBody x ⟨#[c]⟩ x.length limit a (arr, free) = pure (ForInStep.yield (arr, free)) := by
        unfold StrLaws.occBody
        rw [if_neg (fun q => hc ((subAt_one x c a).mp q.2))]
      rw [hb]
      simp only [pure_bind]
      rw [occ_cuts x c limit k (a + 1) _ _ (by omega) (by omega) (by omega) h4]
      congr 1
      by_cases hlt : a < x.cps.toList.length
      · have hd : x.cps.toList.drop a = x.cps.toList[a] :: x.cps.toList.drop (a + 1) := List.drop_eq_getElem_cons hlt
        rw [hd]
        have hne : x.cps.toList[a] ≠ c := fun e => hc (by rw [List.getElem?_eq_getElem hlt, e])
        simp only [cutsOf, if_neg hne]
      · rw [List.drop_eq_nil_of_le (by omega), List.drop_eq_nil_of_le (by omega)]
        simp [cutsOf]
theorem occ_is (x : Str) (c : Nat) : occurrences x ⟨#[c]⟩ 0 x.length (x.length + 1) = cutsOf c x.cps.toList 0 := by
  rw [StrLaws.occ_eq, occ_cuts x c (x.length + 1) (x.length + 1 - 0) 0 #[] 0 (by omega) (Nat.le_refl _) (by simp) (by omega)]
  simp

theorem cuts_nil {c : Nat} : ∀ {l : List Nat} {a : Nat}, c ∉ l → cutsOf c l a = []
  | [], _, _ => rfl
  | z :: l, a, h => by
    simp only [List.mem_cons, not_or] at h
    simp only [cutsOf, if_neg (fun e : z = c => h.1 e.symm)]
    exact cuts_nil h.2
theorem cuts_not {c : Nat} : ∀ {l : List Nat} {a : Nat}, cutsOf c l a = [] → c ∉ l
  | [], _, _ => by simp
  | z :: l, a, h => by
    unfold cutsOf at h
    split at h
    · cases h
    · rename_i hz
      simp only [List.mem_cons, not_or]
      exact ⟨fun e => hz e.symm, cuts_not h⟩
theorem splitT_not {c : Nat} : ∀ {l : List Nat}, c ∉ l → splitT c l = [l]
  | [], _ => rfl
  | z :: l, h => by
    simp only [List.mem_cons, not_or] at h
    simp only [splitT, splitT_not h.2, if_neg (fun e : z = c => h.1 e.symm)]
theorem splitT_ne {c : Nat} : ∀ l : List Nat, ∃ w ws, splitT c l = w :: ws
  | [] => ⟨[], [], rfl⟩
  | z :: l => by
    obtain ⟨w, ws, e⟩ := splitT_ne (c := c) l
    simp only [splitT, e]
    split <;> exact ⟨_, _, rfl⟩

theorem cuts_ge {c : Nat} : ∀ {l : List Nat} {a i : Nat}, i ∈ cutsOf c l a → a ≤ i
  | [], a, i, h => by simp [cutsOf] at h
  | z :: l, a, i, h => by
    unfold cutsOf at h
    split at h
    · rcases List.mem_cons.mp h with rfl | h
      · exact Nat.le_refl _
      · have := cuts_ge h; omega
    · have := cuts_ge h; omega

theorem strSub_l (x : Str) (i j : Nat) : strSub x i j = ⟨((x.cps.toList.drop i).take (j - i)).toArray⟩ := by
  apply PySem.Str.ext'
  apply Array.ext'
  rw [StrLaws.strSub_toList]

theorem parts_cuts (x : Str) (c : Nat) : ∀ (l : List Nat) (a : Nat), x.cps.toList.drop a = l → StrLaws.partsFrom x 1 a (cutsOf c l a) = (splitT c l).map fun p => (⟨p.toArray⟩ : Str)
  | [], a, h => by
    simp only [cutsOf, StrLaws.partsFrom, splitT, List.map_cons, List.map_nil]
    rw [strSub_l, h]; simp
  | z :: l, a, h => by
    have hd : x.cps.toList.drop (a + 1) = l := by
      rw [← List.drop_drop, h]; rfl
    have ih := parts_cuts x c l (a + 1) hd
    obtain ⟨w, ws, e⟩ := splitT_ne (c := c) l
    by_cases hz : z = c
    · subst hz
      simp only [cutsOf, if_true, StrLaws.partsFrom, splitT, e, List.map_cons]
      rw [e] at ih
      rw [ih, strSub_l]
      simp
    · simp only [cutsOf, if_neg hz, splitT, e, List.map_cons]
      rw [e] at ih
      -- the first part grows
      cases hcut : cutsOf c l (a + 1) with
      | nil =>
        rw [hcut] at ih
        simp only [StrLaws.partsFrom, List.map_cons] at ih ⊢
        obtain ⟨i1, i2⟩ := List.cons.inj ih
        rw [← i2]
        congr 1
        rw [strSub_l, h]
        rw [strSub_l, hd] at i1
        have i1' : (l.take (x.length - (a + 1))) = w := by
          have := congrArg (fun s : Str => s.cps.toList) i1
          simpa using this
        have hlen : a < x.length := by
          have := congrArg List.length h
          simp [Str.length] at this ⊢; omega
        have : x.length - a = (x.length - (a + 1)) + 1 := by omega
        rw [this, List.take_succ_cons, i1']
      | cons i r =>
        have hi : a + 1 ≤ i := cuts_ge (c := c) (l := l) (a := a + 1) (i := i) (by rw [hcut]; exact List.mem_cons_self)
        rw [hcut] at ih
        simp only [StrLaws.partsFrom, List.map_cons] at ih ⊢
        obtain ⟨i1, i2⟩ := List.cons.inj ih
        rw [i2]
        congr 1
        rw [strSub_l, h]
        rw [strSub_l, hd] at i1
        have i1' : (l.take (i - (a + 1))) = w := by
          have := congrArg (fun s : Str => s.cps.toList) i1
          simpa using this
        have : i - a = (i - (a + 1)) + 1 := by omega
        rw [this, List.take_succ_cons, i1']

theorem kind_not {x : Str} {c : Nat} (h : Builtin.Str.strKind x < Builtin.Str.strKind ⟨#[c]⟩) : c ∉ x.cps.toList := by
  intro hm
  have hx : ∀ n, x.cps.all (· < n) = true → c < n := fun n hn => by
    have := Array.all_eq_true_iff_forall_mem.mp hn c (by simpa using hm)
    simpa using this
  unfold Builtin.Str.strKind at h
  have e1 : (⟨#[c]⟩ : Str).cps.all (fun y => decide (y < 256)) = decide (c < 256) := by simp
  have e2 : (⟨#[c]⟩ : Str).cps.all (fun y => decide (y < 65536)) = decide (c < 65536) := by simp
  rw [e1, e2] at h
  by_cases h1 : x.cps.all (fun y => decide (y < 256)) = true
  · have := hx 256 h1
    rw [if_pos h1, if_pos (by simpa using this)] at h
    omega
  · rw [if_neg h1] at h
    by_cases h2 : x.cps.all (fun y => decide (y < 65536)) = true
    · have := hx 65536 h2
      rw [if_pos h2] at h
      split at h
      · omega
      · rw [if_pos (by simpa using this)] at h; omega
    · rw [if_neg h2] at h
      split at h
      · omega
      · split at h <;> omega

theorem split_is (x : List Nat) (c : Nat) : Txt.split ⟨x.toArray⟩ ⟨#[c]⟩ = (splitT c x).map fun p => (⟨p.toArray⟩ : Str) := by
  unfold Txt.split
  have hl : (⟨x.toArray⟩ : Str).cps.toList = x := by simp
  split
  · rename_i h
    have hn : c ∉ x := by
      rcases Bool.or_eq_true_iff.mp h with q | q
      · have : x.length < 1 := by simpa [Str.length] using q
        have : x = [] := List.eq_nil_of_length_eq_zero (by omega)
        subst this; simp
      · have := kind_not (by simpa using q)
        simpa using this
    rw [splitT_not hn]; rfl
  · rw [occ_is, hl]
    split
    · rename_i h
      rw [List.isEmpty_iff] at h
      rw [splitT_not (cuts_not h)]; rfl
    · rw [StrLaws.partsBetween_eq]
      exact parts_cuts ⟨x.toArray⟩ c x 0 (by simp)

theorem splitT_len {c : Nat} : ∀ l : List Nat, (splitT c l).length ≤ l.length + 1
  | [] => by simp [splitT]
  | z :: l => by
    have := splitT_len (c := c) l
    obtain ⟨w, ws, e⟩ := splitT_ne (c := c) l
    simp only [splitT, e] at this ⊢
    split <;> simp at this ⊢ <;> omega

theorem join_is (sep : List Nat) : ∀ ss : List (List Nat), Txt.join ⟨sep.toArray⟩ (ss.map fun p => (⟨p.toArray⟩ : Str)) = ⟨(joinT sep ss).toArray⟩
  | [] => rfl
  | [x] => by
    show glued _ _ = _
    rw [StrLaws.glued_eq_join]
    rfl
  | x :: y :: r => by
    have ih := join_is sep (y :: r)
    show glued _ _ = _
    have ih : glued ⟨sep.toArray⟩ ((y :: r).map fun p => (⟨p.toArray⟩ : Str)) = _ := ih
    rw [StrLaws.glued_eq_join] at ih ⊢
    simp only [List.map_cons] at ih ⊢
    rw [PyProof.Rows.join_cons_cons, ih]
    apply PySem.Str.ext'
    simp [PySem.Str.cps_append, joinT]

section
variable {C : SC} {A : Around} {s : Shared} {hl as : List Addr} {g : Heap}

theorem strs_rep : ∀ {ss : List (List Nat)} {vs : List Value}, RepL C g as (ss.map .str) vs → StrsAre vs (ss.map fun p => (⟨p.toArray⟩ : Str))
  | [], _, h => by cases (h : _ = []); exact .nil
  | _ :: _, vs, h => by obtain ⟨_, r, ⟨t⟩, h3⟩ := (h : RCons (fun v => RStr _ v) _ vs); exact .cons _ _ (strs_rep h3)
theorem strsFrom_rep : ∀ (l : List (List Nat)) (n : Nat), RepL C g as (l.map .str) (strsFrom n (l.map fun p => (⟨p.toArray⟩ : Str)))
  | [], n => rfl
  | p :: l, n => RCons.mk _ _ (RStr.mk n) (strsFrom_rep l (n + 1))
theorem one_str {l : List (List Nat)} {x : List Nat} (h : l.map (fun p => (⟨p.toArray⟩ : Str)) = [⟨x.toArray⟩]) : l = [x] := by
  match l, h with
  | [p], h => exact congrArg (fun s : List Str => s.map fun y => y.cps.toList) h
theorem toA_arr {α : Type} (l : List α) : l.toArray.size = l.length := rfl
theorem lens_is {ss : List (List Nat)} : ((ss.map fun p => (⟨p.toArray⟩ : Str)).map (·.length)) = ss.map (·.length) := by rw [List.map_map]; rfl
theorem byte_back {x : List Nat} (h : ∀ c ∈ x, c < 128) : (x.map (·.toUInt8)).map (·.toNat) = x := by
  rw [List.map_map]
  exact (List.map_congr_left (g := fun c : Nat => c) fun c hc => Nat.mod_eq_of_lt (Nat.lt_trans (h c hc) (by decide))).trans (List.map_id' _)

theorem lm_ok (C : SC) : LmOk C := by
  intro A s hl as m x r xs t vs n hA hf h2 e
  cases e with
  | @join _ ss h =>
    obtain ⟨w, _, h1, rfl⟩ := (h2 : RCons _ (fun r => r = []) vs)
    obtain ⟨a, ws, l1, r1⟩ := (h1 : RSeq _ _ w)
    refine join_list (ys := ss.map fun p => (⟨p.toArray⟩ : Str)) l1 (strs_rep r1) ?_ fun t' k => by rw [join_is]; exact Res.tokS
    rw [lens_is, List.length_map]
    exact le_num h
  | encode hlt hsz =>
    obtain ⟨w, _, h1, rfl⟩ := (h2 : RCons _ (fun r => r = []) vs)
    obtain ⟨u⟩ := (h1 : RStr _ w)
    show WP C A (call (.builtin "str.encode") [.str ⟨x.toArray⟩ t, .str asciiS u]) _ s
    have hlt : ∀ c ∈ x, c < 128 := fun c hc => of_decide_eq_true (List.all_eq_true.mp hlt c hc)
    have hz : (⟨x.toArray⟩ : Str).cps.size ≤ sizeLine := le_line hsz
    have tree : «str.encode» ⟨[.str ⟨x.toArray⟩ t, .str asciiS u], []⟩ = (do ret (← mkBytes ((⟨x.toArray⟩ : Str).cps.map (·.toUInt8)))) := by
      rw [encode_ascii_tree, encodeRoad_ascii, narrow _ _ _ (fun y hy => hlt y (List.mem_toArray.mp hy)) hz]; rfl
    refine wpAny_call_entry PySem.F.slot_str_encode (typeIs_str _ _ _) PySem.F.entry_str_encode ?_ (PySem.F.args_str_encode_2 _ _)
    rw [tree]
    refine wpAny_bind ?_
    unfold mkBytes
    rw [if_neg (Nat.not_lt.mpr (by rw [Array.size_map]; exact hz))]
    refine wpAny_bind (nd_fresh ?_)
    refine wpAny_pure (wpAny_pure (wpAny_pure ⟨_, rfl, Keeps.tok s _, RByt.mk _ _ ?_⟩))
    rw [Array.toList_map]
    exact byte_back hlt
  | @split _ c hsz =>
    obtain ⟨w, _, h1, rfl⟩ := (h2 : RCons _ (fun r => r = []) vs)
    obtain ⟨u⟩ := (h1 : RStr _ w)
    show WP C A (call (.builtin "str.split") [.str ⟨x.toArray⟩ t, .str ⟨#[c]⟩ u]) _ s
    have hsp := split_is x c
    have done : ∀ {vals : List Value} {k : Nat}, RepL C (vis s.heap hl) as ((splitT c x).map .str) vals → Res C hl as (.list ((splitT c x).map .str)) s (.ref s.heap.objs.size) { s with heap := s.heap.push { cls := .type "list", data := .seq vals.toArray }, toks := k } :=
      fun hr => new_list_res hf (fun b o e => Heap.get?_push_of_some _ e) (Heap.get?_push_size _ rfl) rfl rfl hr
    have self : (splitT c x) = [x] → Res C hl as (.list ((splitT c x).map .str)) s (.ref s.heap.objs.size) { s with heap := s.heap.push { cls := .type "list", data := .seq [Value.str ⟨x.toArray⟩ t].toArray } } := fun e1 =>
      done (k := s.toks) (e1 ▸ RCons.mk _ _ (RStr.mk t) rfl)
    have hz := lt_line hsz
    unfold Txt.split at hsp
    split at hsp
    · rename_i q
      exact call_meets PySem.F.slot_str_split (typeIs_str _ _ _) PySem.F.entry_str_split (PySem.F.args_str_split_2 _ _) (meets_str_split_cannot_occur _ _ t u q) (self (one_str hsp.symm))
    · rename_i q
      split at hsp
      · rename_i q2
        exact call_meets PySem.F.slot_str_split (typeIs_str _ _ _) PySem.F.entry_str_split (PySem.F.args_str_split_2 _ _) (meets_str_split_not_found _ _ t u (by simpa using q) rfl q2) (self (one_str hsp.symm))
      · rename_i q2
        have hlen : (partsBetween ⟨x.toArray⟩ (occurrences ⟨x.toArray⟩ ⟨#[c]⟩ 0 (⟨x.toArray⟩ : Str).length ((⟨x.toArray⟩ : Str).length + 1)) (⟨#[c]⟩ : Str).length).length ≤ sizeLine := by
          rw [hsp, List.length_map]
          exact Nat.le_trans (splitT_len (c := c) x) hz
        refine call_meets PySem.F.slot_str_split (typeIs_str _ _ _) PySem.F.entry_str_split (PySem.F.args_str_split_2 _ _) (meets_str_split_sep _ _ t u (by simpa using q) rfl (by simpa using q2) (Nat.le_of_lt hz) hlen) ?_
        rw [hsp]
        exact done (strsFrom_rep _ _)
end
end
section
variable {C : SC} {A : Around} {s : Shared} {hl as : List Addr} {v : Value} {r : AV}

theorem RepM.get : ∀ {kvs : List (List Int × List Nat)} {xs : List (List Int × Addr × Value)}, RepM kvs xs → ∀ {i : Nat} {p : List Int × Addr × Value}, xs[i]? = some p → ∃ kv t, kvs[i]? = some kv ∧ p.1 = kv.1 ∧ p.2.2 = .str ⟨kv.2.toArray⟩ t
  | [], _, h, i, p, e => by cases (h : _ = []); cases e
  | (k, z) :: kvs, _, h, i, p, e => by
    obtain ⟨a, t, r, rfl, h⟩ := h
    cases i with
    | zero => cases e; exact ⟨(k, z), t, rfl, rfl, rfl⟩
    | succ j => exact RepM.get h e

theorem lookup_of_get : ∀ {kvs : List (List Int × List Nat)}, (kvs.map (·.1)).Nodup → ∀ {i : Nat} {kv : List Int × List Nat}, kvs[i]? = some kv → kvs.lookup kv.1 = some kv.2
  | [], _, i, kv, e => by simp at e
  | (k, z) :: kvs, hn, i, kv, e => by
    rw [List.map_cons, List.nodup_cons] at hn
    rw [List.lookup_cons]
    cases i with
    | zero => simp at e; subst e; simp
    | succ j =>
      have e' : kvs[j]? = some kv := by simpa using e
      have hm : kv.1 ∈ kvs.map (·.1) := List.mem_map_of_mem (List.mem_of_getElem? e')
      have hne : ¬ kv.1 = k := fun q => hn.1 (q ▸ hm)
      rw [show (kv.1 == k) = false by simpa using hne]
      exact lookup_of_get hn.2 e'

theorem samePairs_abs {prog : Program} {w : World} {knd : HeapKind prog w (List Int)} {nm : String} {a b : Addr} {x y : List (List Int × List Nat)} {Q : Bool → Shared → Prop} {xa xb : List (List Int × Addr × Value)} {oa ob : Obj} {es es' : Array DictEntry} {ep ep' : Nat} (hu : knd.room A)
    (ha : (a == sysModules) = false) (hoa : s.heap.get? a = some oa) (hda : oa.data = .dict es ep) (hea : es.toList = xa.map (entryOfKey knd)) (hia : ∀ z ∈ xa, knd.is s.heap z.1 z.2.1) (hma : RepM x xa)
    (hb : (b == sysModules) = false) (hob : s.heap.get? b = some ob) (hdb : ob.data = .dict es' ep') (heb : es'.toList = xb.map (entryOfKey knd)) (hib : ∀ z ∈ xb, knd.is s.heap z.1 z.2.1) (hnb : (xb.map (·.1)).Nodup) (hmb : RepM y xb)
    (h : Q (x.length == y.length && x.all fun kv => y.lookup kv.1 == some kv.2) s) : wpAny (model prog w) A (Builtin.Dict.samePairs nm a b) Q (fun _ _ => False) s := by
  have hla : es.size = x.length := by rw [size_of_entries hea, hma.len]
  have hlb : es'.size = y.length := by rw [size_of_entries heb, hmb.len]
  unfold Builtin.Dict.samePairs Builtin.Dict.showsAll
  rw [if_neg (show ¬ (a == sysModules) = true by rw [ha]; exact Bool.false_ne_true), if_neg (show ¬ (b == sysModules) = true by rw [hb]; exact Bool.false_ne_true)]
  refine wpAny_bind (wpAny_pure (wpAny_bind (wpAny_pure ?_)))
  refine wpAny_bind (wpAny_dictEntries hoa hda ?_)
  dsimp only
  refine wpAny_bind (wpAny_dictEntries hob hdb ?_)
  by_cases hsz : x.length = y.length
  case neg =>
    rw [if_pos (by rw [hla, hlb]; simpa using hsz)]
    have hbf : (x.length == y.length) = false := by simpa using hsz
    rw [hbf, Bool.false_and] at h
    exact wpAny_bind (wpAny_rule (wpAny_pure h))
  case pos =>
    have h' : Q (x.all fun kv => y.lookup kv.1 == some kv.2) s := by simpa [hsz] using h
    rw [if_neg (by rw [hla, hlb, hsz]; simp)]
    refine wpAny_bind (wpAny_dictEpoch hoa hda ?_)
    refine wpAny_bind ?_
    rw [Std.Legacy.Range.forIn_eq_forIn_range']
    simp only [Std.Legacy.Range.size, Nat.sub_zero, Nat.add_sub_cancel, Nat.div_one]
    refine wpAny_forIn_list _
      (fun rest q s' => s' = s ∧ q = (none, ()) ∧ ∃ i, rest = List.range' i (es.size - i) ∧ i ≤ es.size ∧ (x.all fun kv => y.lookup kv.1 == some kv.2) = (x.drop i).all fun kv => y.lookup kv.1 == some kv.2)
      _ ?_ ?_ _ _ ⟨rfl, rfl, 0, by simp, Nat.zero_le _, by simp⟩
    · rintro i0 rest q s' ⟨rfl, rfl, i, hr, hi, hpre⟩
      have hlt : i < es.size := by
        rcases Nat.lt_or_ge i es.size with h | h
        · exact h
        · rw [Nat.sub_eq_zero_of_le h] at hr; simp at hr
      obtain ⟨rfl, hrest⟩ : i0 = i ∧ rest = List.range' (i + 1) (es.size - (i + 1)) := by
        have e : es.size - i = (es.size - (i + 1)) + 1 := by omega
        rw [e, List.range'_succ] at hr
        injection hr with h1 h2
        exact ⟨h1, h2⟩
      refine wpAny_bind (wpAny_dictEntries hoa hda ?_)
      have hxl : i0 < xa.length := by rw [hma.len, ← hla]; exact hlt
      obtain ⟨⟨k, ka, va⟩, hp⟩ : ∃ p, xa[i0]? = some p := ⟨_, List.getElem?_eq_getElem hxl⟩
      have hent : es[i0]? = some (entryOfKey knd (k, ka, va)) := by rw [entry_at hea i0, hp]; rfl
      rw [hent]
      obtain ⟨kv, t, hkv, hk1, hk2⟩ := hma.get hp
      simp only at hk1 hk2
      subst hk1 hk2
      have hdrop : x.drop i0 = kv :: x.drop (i0 + 1) := by
        obtain ⟨h1, rfl⟩ := List.getElem?_eq_some_iff.mp hkv
        exact List.drop_eq_getElem_cons h1
      rw [hdrop, List.all_cons] at hpre
      show wpAny _ _ (holding [Value.ref ka, .str ⟨kv.2.toArray⟩ t] _ >>= _) _ _ _
      refine wpAny_bind (wpAny_holding (wpAny_bind (wpAny_dictFind_heap (knd := knd) (k := kv.1) hu (hia _ (List.mem_of_getElem? hp)) hob hdb heb hib hnb (fun hno => ?_) (fun j p hj => ?_))))
      · -- no such key
        have hn : y.lookup kv.1 = none := by
          cases e : y.lookup kv.1 with
          | none => rfl
          | some z =>
            obtain ⟨a', tk', q⟩ := hmb.find e
            rw [atKey_none_of_get hno] at q; cases q
        rw [hn] at hpre
        refine wpAny_pure ?_
        show wpAny _ _ (if (!false) = true then _ else _) _ _ _
        rw [if_pos (by decide)]
        refine wpAny_pure (wpAny_pure ?_)
        rw [hpre] at h'
        simpa using h'
      · obtain ⟨kv', t', hkv', hk1', hk2'⟩ := hmb.get hj
        obtain ⟨pa, pv⟩ := p
        simp only at hk1' hk2'
        subst hk2'
        have hl : y.lookup kv.1 = some kv'.2 := by
          rw [hk1']
          exact lookup_of_get (by rw [← hmb.keys]; exact hnb) hkv'
        rw [hl] at hpre
        have hent' : es'[j]? = some (entryOfKey knd (kv.1, pa, .str ⟨kv'.2.toArray⟩ t')) := by rw [entry_at heb j, hj]; rfl
        refine wpAny_bind (wpAny_dictEntries hob hdb ?_)
        rw [hent']
        refine wpAny_holding ?_
        have heq : EqAt A s' (.str ⟨kv.2.toArray⟩ t) (.str ⟨kv'.2.toArray⟩ t') (kv.2 == kv'.2) := by
          have := EqAt.str_str (A := A) (s := s') ⟨kv.2.toArray⟩ t ⟨kv'.2.toArray⟩ t'
          rwa [str_beq] at this
        refine heq prog w _ _ ?_
        cases e : (kv.2 == kv'.2) with
        | false =>
          have : (some kv'.2 == some kv.2) = false := by
            rw [beq_eq_false_iff_ne] at e ⊢
            intro q; exact e (Option.some.inj q).symm
          rw [this, Bool.false_and] at hpre
          rw [hpre] at h'
          show wpAny _ _ (if (!false) = true then _ else _) _ _ _
          rw [if_pos (by decide)]
          exact wpAny_pure (wpAny_pure h')
        | true =>
          have : (some kv'.2 == some kv.2) = true := by rw [eq_of_beq e]; simp
          rw [this, Bool.true_and] at hpre
          show wpAny _ _ (if (!true) = true then _ else _) _ _ _
          rw [if_neg (by decide)]
          refine wpAny_bind (wpAny_dictEpoch hoa hda ?_)
          rw [if_neg (by simp)]
          exact wpAny_pure ⟨rfl, rfl, i0 + 1, hrest, hlt, hpre⟩
    · rintro q s' ⟨rfl, rfl, i, hr, hi, hpre⟩
      have hin : i = es.size := by
        rcases Nat.lt_or_ge i es.size with h | h
        · have e : es.size - i = (es.size - (i + 1)) + 1 := by omega
          rw [e, List.range'_succ] at hr; exact nomatch hr
        · exact Nat.le_antisymm hi h
      refine wpAny_pure ?_
      rw [hin, hla, List.drop_length] at hpre
      rw [hpre] at h'
      simpa using h'

theorem samePairs_map {nm : String} {a b : Addr} {x y : List (List Int × List Nat)} {Q : Bool → Shared → Prop} (hu : (tk C.prog C.w).room A) (ma : MapRep C s.heap (vis s.heap hl) a x) (mb : MapRep C s.heap (vis s.heap hl) b y)
    (h : Q (x.length == y.length && x.all fun kv => y.lookup kv.1 == some kv.2) s) : WP C A (Builtin.Dict.samePairs nm a b) Q s := by
  have hg := vis_sub s.heap hl
  obtain ⟨ha, xa, oa, es, ep, hoa, _, hda, hea, hia, hna, hma⟩ := ma
  obtain ⟨hb, xb, ob, es', ep', hob, _, hdb, heb, hib, hnb, hmb⟩ := mb
  have up : ∀ {k : List Int} {a : Addr}, (tk C.prog C.w).is (vis s.heap hl) k a → (tk C.prog C.w).is s.heap k a := fun ⟨o', items, n, q1, q2⟩ => ⟨o', items, n, hg _ _ q1, q2⟩
  exact samePairs_abs hu ha hoa hda hea (fun z hz => up (hia z hz)) hma hb hob hdb heb (fun z hz => up (hib z hz)) hnb hmb h

theorem beq_t (b : Bool) : (b == true) = b := by cases b <;> rfl
theorem beq_f (b : Bool) : (b == false) = !b := by cases b <;> rfl
theorem mapEq_ok (C : SC) : MapEqOk C := by
  intro A s hl as v u x y b hA h1 h2 hx hy
  obtain ⟨a, ma⟩ := (h1 : RRef _ v)
  obtain ⟨c, mb⟩ := (h2 : RRef _ u)
  have hu : A.units < cLine := units_lt hA 0 (Nat.zero_le _)
  have hu' : (tk C.prog C.w).room A.in1 := room_of hA
  constructor
  · refine wpAny_richCompare_same_room (op := .Eq) ma.typeIs mb.typeIs PySem.F.slot_dict_eq (wpAny_call_entry PySem.F.slot_dict_eq ma.typeIs PySem.F.entry_dict_eq ?_ (PySem.F.args_dict_eq_2 _ _)) hu
    show wpAny _ _ (Builtin.Dict.dictSlotArgs "__eq__" ⟨[.ref a, .ref c], []⟩ >>= _) _ _ s
    refine wpAny_bind ?_
    unfold Builtin.Dict.dictSlotArgs
    refine wpAny_bind (wpAny_notOrdered_dict ma.typeIs ?_)
    show wpAny _ _ (pure (Value.ref a, Value.ref c)) _ _ s
    refine wpAny_pure ?_
    refine wpAny_bind (wpAny_isInstance (T := "dict") mb.typeIs PySem.F.sub_dict_dict ?_)
    rw [Bool.not_true, if_neg Bool.false_ne_true]
    refine wpAny_bind (wpAny_pure (wpAny_bind (wpAny_pure ?_)))
    refine wpAny_bind (samePairs_map hu' ma mb ?_)
    exact wpAny_pure ⟨_, rfl, (fun x => nomatch x), Keeps.refl s, congrArg Value.bool (beq_t _)⟩
  · refine wpAny_richCompare_same_room (op := .NotEq) ma.typeIs mb.typeIs PySem.F.slot_dict_ne (wpAny_call_entry PySem.F.slot_dict_ne ma.typeIs PySem.F.entry_dict_ne ?_ (PySem.F.args_dict_ne_2 _ _)) hu
    show wpAny _ _ (Builtin.Dict.dictSlotArgs "__ne__" ⟨[.ref a, .ref c], []⟩ >>= _) _ _ s
    refine wpAny_bind ?_
    unfold Builtin.Dict.dictSlotArgs
    refine wpAny_bind (wpAny_notOrdered_dict ma.typeIs ?_)
    show wpAny _ _ (pure (Value.ref a, Value.ref c)) _ _ s
    refine wpAny_pure ?_
    refine wpAny_bind (wpAny_isInstance (T := "dict") mb.typeIs PySem.F.sub_dict_dict ?_)
    rw [Bool.not_true, if_neg Bool.false_ne_true]
    refine wpAny_bind (wpAny_pure (wpAny_bind (wpAny_pure ?_)))
    refine wpAny_bind (samePairs_map hu' ma mb ?_)
    exact wpAny_pure ⟨_, rfl, (fun x => nomatch x), Keeps.refl s, congrArg Value.bool (beq_f _)⟩
end
theorem tk_hash (prog : Program) (w : World) (k : List Int) : (tk prog w).hash k = reduceHash (Builtin.Tuple.tupleHashOf (k.map hashInt)) := rfl
section
variable {C : SC} {A : Around} {s : Shared} {hl as : List Addr} {v : Value} {r : AV}

theorem quiet_keys {prog : Program} {w : World} {knd : HeapKind prog w (List Int)} {nm : String} {b : Addr} {xb : List (List Int × Addr × Value)} {ob : Obj} {es' : Array DictEntry} {ep' : Nat} {Q : Array DictEntry → Shared → Prop}
    (hob : s.heap.get? b = some ob) (hdb : ob.data = .dict es' ep') (heb : es'.toList = xb.map (entryOfKey knd)) (hib : ∀ z ∈ xb, s.TypeIs (.ref z.2.1) "tuple") (hnd : (xb.map fun z => knd.hash z.1).Nodup) (h : Q es' s) :
    wpAny (model prog w) A (Builtin.Dict.entriesForEmpty nm b) Q (fun _ _ => False) s := by
  unfold Builtin.Dict.entriesForEmpty
  refine wpAny_bind (wpAny_dictEntries hob hdb ?_)
  have hone : ∀ e ∈ es', (es'.filter (·.hash == e.hash)).size ≤ 1 := by
    intro e he
    have hl : (es'.filter (·.hash == e.hash)).size = (es'.toList.filter (·.hash == e.hash)).length := by
      rw [← Array.length_toList, Array.toList_filter]
    rw [hl, heb, List.filter_map, List.length_map]
    have key : ∀ {l : List (List Int × Addr × Value)}, (l.map fun z => knd.hash z.1).Nodup → (l.filter ((fun x : DictEntry => x.hash == e.hash) ∘ entryOfKey knd)).length ≤ 1 := by
      intro l
      induction l with
      | nil => intro _; simp
      | cons z l ih =>
        intro hn
        rw [List.map_cons, List.nodup_cons] at hn
        rw [List.filter_cons]
        split
        · rename_i hz
          have hz : knd.hash z.1 = e.hash := by simpa [entryOfKey] using hz
          have : l.filter ((fun x : DictEntry => x.hash == e.hash) ∘ entryOfKey knd) = [] := by
            rw [List.filter_eq_nil_iff]
            intro y hy q
            have hy' : knd.hash y.1 = e.hash := by simpa [entryOfKey] using q
            exact hn.1 (hz.trans hy'.symm ▸ List.mem_map_of_mem (f := fun z => knd.hash z.1) hy)
          rw [this]; simp
        · exact ih hn.2
    exact key hnd
  refine wpAny_bind ?_
  rw [← Array.forIn_toList]
  refine wpAny_forIn_list _ (fun rest q s' => s' = s ∧ ∀ e ∈ rest, e ∈ es') _ ?_ ?_ _ _ ⟨rfl, fun e he => by simpa using he⟩
  · rintro e rest q s' ⟨rfl, hrest⟩
    have he := hrest e List.mem_cons_self
    obtain ⟨z, hz, hze⟩ : ∃ z ∈ xb, e = entryOfKey knd z := by
      have : e ∈ xb.map (entryOfKey knd) := by rw [← heb]; simpa using he
      obtain ⟨z, hz, hze⟩ := List.mem_map.mp this
      exact ⟨z, hz, hze.symm⟩
    have hk : e.key = .ref z.2.1 := by rw [hze]; rfl
    rw [hk]
    refine wpAny_bind ?_
    show wpAny _ _ (specialOf (.ref z.2.1) "__eq__" >>= _) _ _ _
    refine wpAny_bind (wpAny_specialOf (name := PySem.Str.ofString "__eq__") (hib z hz) PySem.F.slot_tuple_eq.lookup (wpAny_pure ?_))
    rw [if_pos (by decide), if_neg (by have := hone e he; omega)]
    exact wpAny_pure ⟨rfl, fun e he => hrest e (List.mem_cons_of_mem _ he)⟩
  · rintro q s' ⟨rfl, _⟩
    exact wpAny_pure h

theorem merge_map {nm : String} {d b : Addr} {x : List (List Int × List Nat)} {Q : Unit → Shared → Prop} {od : Obj} {xb : List (List Int × Addr × Value)} {ob : Obj} {es' : Array DictEntry} {ep' epd : Nat} {prog : Program} {w : World} {knd : HeapKind prog w (List Int)} (hdb' : d ≠ b) (hbS : (b == sysModules) = false)
    (hod : s.heap.get? d = some od) (hcd : od.ExactDict) (hdd : od.data = .dict #[] epd)
    (hob : s.heap.get? b = some ob) (hdb : ob.data = .dict es' ep') (heb : es'.toList = xb.map (entryOfKey knd)) (hib : ∀ z ∈ xb, s.TypeIs (.ref z.2.1) "tuple") (hnd : (xb.map fun z => knd.hash z.1).Nodup) (hsz : es'.size ≤ sizeLine)
    (h : ∀ h' o' ep, Heap.SameBut d s.heap h' → h'.get? d = some o' → o'.ExactDict → o'.data = .dict es' ep → Q () { s with heap := h' }) :
    wpAny (model prog w) A (Builtin.Dict.mergeDict nm d b) Q (fun _ _ => False) s := by
  unfold Builtin.Dict.mergeDict
  rw [if_neg (by simpa using hdb')]
  unfold Builtin.Dict.showsAll
  rw [if_neg (by rw [hbS]; exact Bool.false_ne_true)]
  refine wpAny_bind (wpAny_pure ?_)
  refine wpAny_bind (wpAny_dictEntries hob hdb ?_)
  dsimp only
  by_cases hempty : es' = #[]
  · subst hempty
    have hfew : (decide ((#[] : Array DictEntry).size ≤ 8) && (#[] : Array DictEntry).all fun e => (keyPart e.key).isSome) = true := by simp
    rw [hfew]
    simp only [Bool.not_true, Bool.false_eq_true, if_false]
    refine wpAny_bind (wpAny_dictEpoch hob hdb ?_)
    refine wpAny_bind (wpAny_dictEntries hob hdb ?_)
    refine wpAny_bind ?_
    rw [Std.Legacy.Range.forIn_eq_forIn_range']
    simp only [Std.Legacy.Range.size, Nat.sub_zero, List.size_toArray, List.length_nil, Nat.zero_add, Nat.sub_self, Nat.div_one, List.range'_zero, List.forIn_nil]
    exact wpAny_pure (wpAny_pure (h s.heap od epd (.refl ..) hod hcd hdd))
  · have hne : es'.isEmpty = false := by
      cases e : es'.isEmpty with
      | false => rfl
      | true => exact absurd (Array.isEmpty_iff.mp e) hempty
    have hfew : (decide (es'.size ≤ 8) && es'.all fun e => (keyPart e.key).isSome) = false := by
      have hpos : 0 < es'.size := Nat.pos_of_ne_zero fun q => hempty (Array.eq_empty_of_size_eq_zero q)
      have : (es'.all fun e => (keyPart e.key).isSome) = false := by
        rw [← Bool.not_eq_true]
        intro q
        have q := Array.all_eq_true_iff_forall_mem.mp q (es'[0]) (Array.getElem_mem hpos)
        obtain ⟨z, hz, hze⟩ : ∃ z ∈ xb, entryOfKey knd z = es'[0] := by
          have : es'[0] ∈ xb.map (entryOfKey knd) := by rw [← heb]; simp
          exact List.mem_map.mp this
        rw [← hze] at q
        exact absurd q (by simp [entryOfKey, keyPart])
      rw [this, Bool.and_false]
    rw [hfew]
    simp only [Bool.not_false, if_true]
    refine wpAny_bind (wpAny_dictEntries hod hdd ?_)
    simp only [Array.isEmpty_empty, if_true]
    refine wpAny_bind (quiet_keys hob hdb heb hib hnd ?_)
    rw [hne]
    simp only [Bool.not_false, if_true]
    refine wpAny_bind (wpAny_updateDictKeysTo hod hdd ?_ (Nat.le_succ_of_le hsz))
    refine wpAny_pure ?_
    exact h _ _ _ (Heap.SameBut.update ..) (Heap.get?_update_self _ hod (Obj.isFreed_of_dict (Obj.data_mapDictKeys hdd _))) (hcd.mapDictKeys _) (Obj.data_mapDictKeys hdd _)

theorem dict_ok (C : SC) : DictOk C := by
  intro A s hl as v kvs n hA hB hf hr hsz hap
  obtain ⟨b, mb⟩ := (hr : RRef _ v)
  have hg := vis_sub s.heap hl
  have hT := mb.typeIs
  obtain ⟨hbS, xb, ob, es', ep', hob, hcb, hdb, heb, hib, hnb, hmb⟩ := mb
  refine callType_codes (Q₁ := fun obj s₁ => obj = .ref s.heap.objs.size ∧ s₁ = { s with heap := s.heap.push { cls := .type "dict", data := .dict #[] } }) F.kt_called_dict (F.kt_typeCall_dict_1 _) F.entry_dict_init (kt_code_dict_new _ ⟨rfl, rfl⟩) ?_
  rintro obj s₁ ⟨rfl, rfl⟩
  have hgd : (s.heap.push { cls := .type "dict", data := .dict #[] }).get? s.heap.objs.size = some { cls := .type "dict", data := .dict #[] } := Heap.get?_push_size _ rfl
  have hTn : Shared.TypeIs { s with heap := s.heap.push { cls := .type "dict", data := .dict #[] } } (.ref s.heap.objs.size) "dict" := ⟨_, hgd, rfl⟩
  have hob' : (s.heap.push { cls := .type "dict", data := .dict #[] }).get? b = some ob := Heap.get?_push_of_some _ hob
  have hTb : Shared.TypeIs { s with heap := s.heap.push { cls := .type "dict", data := .dict #[] } } (.ref b) "dict" := ⟨_, hob', hcb.1⟩
  have hdo : s.heap.objs.size ≠ b := fun e => absurd (Heap.lt_size hob) (by rw [e]; exact Nat.lt_irrefl _)
  refine ⟨hTn, F.args_dict_init_2 _ _, ?_⟩
  unfold Builtin.«dict.__init__»
  refine wpAny_bind ?_
  unfold Builtin.Dict.selfAndRest
  refine wpAny_bind (wpAny_notOrdered_dict hTn ?_)
  show wpAny _ _ (pure (s.heap.objs.size, [Value.ref b])) _ _ _
  refine wpAny_pure ?_
  show wpAny _ _ (Builtin.Dict.updateFrom "dict.__init__" s.heap.objs.size (.ref b) [] .none) _ _ _
  unfold Builtin.Dict.updateFrom
  refine wpAny_bind (wpAny_typeOf hTb ?_)
  rw [if_neg (by decide)]
  refine wpAny_bind ?_
  unfold Builtin.Dict.merge
  refine wpAny_bind ?_
  unfold Builtin.Dict.readDirectly
  refine wpAny_bind (wpAny_isInstance hTb isSubtype_dict_dict ?_)
  simp only [Bool.not_true, Bool.false_eq_true, if_false]
  refine wpAny_bind (wpAny_specialOf hTb F.slot_dict_iter.lookup (wpAny_pure ?_))
  simp only [beq_self_eq_true, if_true]
  refine wpAny_bind (wpAny_pure ?_)
  have hnd : (xb.map fun z => (tk C.prog C.w).hash z.1).Nodup := by
    have h1 := of_decide_eq_true hap
    rw [← hmb.keys, List.map_map] at h1
    exact h1
  have hes : es'.size = kvs.length := by rw [size_of_entries heb, hmb.len]
  refine wpAny_mono (merge_map (knd := tk C.prog C.w) (x := kvs) hdo hbS hgd ⟨rfl, rfl, rfl⟩ rfl hob' hdb heb (fun z hz => ?_) hnd (by rw [hes, sizeLine_eq]; omega) fun h' o' ep hs ho' hc' hd' => ?_) (fun _ _ z => z) fun _ _ z => z.elim
  · obtain ⟨o1, items, m, q1, q2, q3, q4⟩ := hib z hz
    exact ⟨o1, Heap.get?_push_of_some _ (hg _ _ q1), q2⟩
  · show wpAny _ _ (Builtin.Dict.addKeywords s.heap.objs.size [] >>= _) _ _ _
    refine wpAny_bind (wpAny_pure (wpAny_pure ⟨rfl, ?_⟩))
    have hk : ∀ c oc, s.heap.get? c = some oc → h'.get? c = some oc := fun c oc e => sameBut_at hs c oc (Nat.ne_of_lt (Heap.lt_size e)) (Heap.get?_push_of_some _ e)
    refine ⟨⟨h', s.toks, rfl, hk⟩, ?_⟩
    have sb : Sub (vis s.heap hl) (vis h' hl) := vis_mono fun c oc hn e => ⟨hk c oc e, hn⟩
    refine RRef.mk _ ⟨hB, xb, o', es', ep, vis_new hf ho', hc', hd', heb, fun z hz => ?_, hnb, hmb⟩
    · obtain ⟨o1, items, m, q1, q2, q3, q4⟩ := hib z hz
      exact ⟨o1, items, m, sb _ _ q1, q2, q3, q4⟩
end
/-! the sort's questions, answered by a strict order told apart -/
structure LtOn (n : Nat) (lt : Nat → Nat → Bool) : Prop where
  trans : ∀ i j k, i < n → j < n → k < n → lt i j = true → lt j k = true → lt i k = true
  tri : ∀ i j, i < n → j < n → i ≠ j → lt i j = false → lt j i = true
  irr : ∀ i, i < n → lt i i = false
  asym : ∀ i j, i < n → j < n → lt i j = true → lt j i = false

noncomputable def good (n : Nat) (lt : Nat → Nat → Bool) {α : Type} : KasT α → (α → Prop) → Prop
  | .ret a, Q => Q a
  | .ask i j k, Q => i < n ∧ j < n ∧ good n lt (k (lt i j)) Q

section
variable {n : Nat} {lt : Nat → Nat → Bool} {p : Array Nat}

theorem good_bind {α β : Type} {f : α → KasT β} {Q : β → Prop} : ∀ (t : KasT α), good n lt t (fun a => good n lt (f a) Q) → good n lt (t.bind f) Q
  | .ret _, h => h
  | .ask i j k, h => ⟨h.1, h.2.1, good_bind (k (lt i j)) h.2.2⟩
theorem good_mono {α : Type} {Q Q' : α → Prop} (hq : ∀ a, Q a → Q' a) : ∀ (t : KasT α), good n lt t Q → good n lt t Q'
  | .ret a, h => hq a h
  | .ask i j k, h => ⟨h.1, h.2.1, good_mono hq (k (lt i j)) h.2.2⟩

noncomputable def IsPm (n : Nat) (p : Array Nat) : Prop := p.Perm (List.range n).toArray
theorem IsPm.size (h : IsPm n p) : p.size = n := by have := h.size_eq; simpa using this
theorem IsPm.get (h : IsPm n p) {i : Nat} (hi : i < n) : p.getD i 0 < n := by
  have hs := h.size
  have e : p.getD i 0 = p[i]'(by omega) := by simp [Array.getD, hs, hi]
  have hm : p[i]'(by omega) ∈ p := Array.getElem_mem _
  have := (h.mem_iff).mp hm
  rw [e]; simpa using this
theorem IsPm.nodup (h : IsPm n p) : p.toList.Nodup := by
  have h1 : p.toList.Perm (List.range n) := by have := Array.perm_iff_toList_perm.mp h; simpa using this
  exact h1.nodup_iff.mpr List.nodup_range
theorem IsPm.ne (h : IsPm n p) {i j : Nat} (hi : i < n) (hj : j < n) (hij : i ≠ j) : p.getD i 0 ≠ p.getD j 0 := by
  have hs := h.size
  have e : ∀ k (hk : k < n), p.getD k 0 = p.toList[k]'(by simp [hs, hk]) := fun k hk => by simp [Array.getD, hs, hk]
  rw [e i hi, e j hj]
  intro q
  exact hij ((List.getElem_inj h.nodup).mp q)
theorem getD_of {q : Array Nat} {i j : Nat} (h : p[i]? = q[j]?) : p.getD i 0 = q.getD j 0 := by
  simp only [Array.getD_eq_getD_getElem?, h]

noncomputable def Inc (lt : Nat → Nat → Bool) (p : Array Nat) (b : Nat) : Prop := ∀ i j, i < j → j < b → lt (p.getD i 0) (p.getD j 0) = true
noncomputable def Dec (lt : Nat → Nat → Bool) (p : Array Nat) (b : Nat) : Prop := ∀ i j, i < j → j < b → lt (p.getD j 0) (p.getD i 0) = true

theorem Inc.snoc (L : LtOn n lt) (hp : IsPm n p) {m : Nat} (h1 : 1 ≤ m) (hm : m < n) (h : Inc lt p m) (hl : lt (p.getD (m - 1) 0) (p.getD m 0) = true) : Inc lt p (m + 1) := by
  intro i j hij hj
  by_cases e : j = m
  · subst e
    by_cases e2 : i = j - 1
    · subst e2; exact hl
    · exact L.trans _ _ _ (hp.get (by omega)) (hp.get (by omega)) (hp.get (by omega)) (h i (j - 1) (by omega) (by omega)) hl
  · exact h i j hij (by omega)
theorem Dec.snoc (L : LtOn n lt) (hp : IsPm n p) {m : Nat} (h1 : 1 ≤ m) (hm : m < n) (h : Dec lt p m) (hl : lt (p.getD m 0) (p.getD (m - 1) 0) = true) : Dec lt p (m + 1) := by
  intro i j hij hj
  by_cases e : j = m
  · subst e
    by_cases e2 : i = j - 1
    · subst e2; exact hl
    · exact L.trans _ _ _ (hp.get (by omega)) (hp.get (by omega)) (hp.get (by omega)) hl (h i (j - 1) (by omega) (by omega))
  · exact h i j hij (by omega)

theorem good_asc (L : LtOn n lt) (hp : IsPm n p) : ∀ (f m : Nat), 1 ≤ m → m + f ≤ n → Inc lt p m →
    good n lt (kas_asc p f m) fun r => m ≤ r ∧ r ≤ m + f ∧ Inc lt p r ∧ (r = m + f ∨ lt (p.getD r 0) (p.getD (r - 1) 0) = true)
  | 0, m, h1, hm, hi => ⟨Nat.le_refl _, Nat.le_refl _, hi, .inl rfl⟩
  | f + 1, m, h1, hm, hi => by
    refine ⟨hp.get (by omega), hp.get (by omega), ?_⟩
    cases hc : lt (p.getD m 0) (p.getD (m - 1) 0) with
    | true =>
      show good n lt (if true = true then KasT.ret m else kas_asc p f (m + 1)) _
      rw [if_pos rfl]
      exact ⟨Nat.le_refl _, by omega, hi, .inr hc⟩
    | false =>
      show good n lt (if false = true then KasT.ret m else kas_asc p f (m + 1)) _
      rw [if_neg (by simp)]
      have := L.tri _ _ (hp.get (by omega)) (hp.get (by omega)) (hp.ne (by omega) (by omega) (by omega)) hc
      exact good_mono (fun r h => ⟨by omega, by omega, h.2.2.1, by rcases h.2.2.2 with e | e; exact .inl (by omega); exact .inr e⟩) _ (good_asc L hp f (m + 1) (by omega) (by omega) (hi.snoc L hp h1 (by omega) this))

theorem good_desc (L : LtOn n lt) (hp : IsPm n p) : ∀ (f m : Nat), 1 ≤ m → m + f ≤ n → Dec lt p m →
    good n lt (kas_desc f p m 0) fun r => r.1 = p ∧ r.2.2 = 0 ∧ m ≤ r.2.1 ∧ r.2.1 ≤ m + f ∧ Dec lt p r.2.1
  | 0, m, h1, hm, hi => ⟨rfl, rfl, Nat.le_refl _, Nat.le_refl _, hi⟩
  | f + 1, m, h1, hm, hi => by
    refine ⟨hp.get (by omega), hp.get (by omega), ?_⟩
    cases hc : lt (p.getD m 0) (p.getD (m - 1) 0) with
    | true =>
      show good n lt (if true = true then (if 0 > 0 then _ else kas_desc f p (m + 1) 0) else _) _
      rw [if_pos rfl, if_neg (by omega)]
      exact good_mono (fun r h => ⟨h.1, h.2.1, by omega, by omega, h.2.2.2.2⟩) _ (good_desc L hp f (m + 1) (by omega) (by omega) (hi.snoc L hp h1 (by omega) hc))
    | false =>
      show good n lt (if false = true then _ else KasT.ask (p.getD (m - 1) 0) (p.getD m 0) fun d => if d = true then KasT.ret (p, m, 0) else kas_desc f p (m + 1) (0 + 1)) _
      rw [if_neg (by simp)]
      have := L.tri _ _ (hp.get (by omega)) (hp.get (by omega)) (hp.ne (by omega) (by omega) (by omega)) hc
      refine ⟨hp.get (by omega), hp.get (by omega), ?_⟩
      rw [this]
      show good n lt (if true = true then KasT.ret (p, m, 0) else kas_desc f p (m + 1) (0 + 1)) _
      rw [if_pos rfl]
      exact ⟨rfl, rfl, Nat.le_refl _, Nat.le_add_right _ _, hi⟩

theorem IsPm.rev (hp : IsPm n p) (i j : Nat) : IsPm n (kas_rev p i j) := (mirror_perm _ _ _ _).trans hp
theorem IsPm.bub (hp : IsPm n p) (i j : Nat) : IsPm n (bubble p i j) := (bubble_perm _ _ _).trans hp
theorem Dec.rev (hp : IsPm n p) {m : Nat} (hm : m ≤ n) (h : Dec lt p m) : Inc lt (kas_rev p 0 m) m := by
  intro i j hij hj
  have e : ∀ k, k < m → (kas_rev p 0 m).getD k 0 = p.getD (m - 1 - k) 0 := fun k hk => by
    refine getD_of ?_
    have := getElem?_mirror_all (xs := p) (i := 0) (j := m) (by rw [hp.size]; exact hm) k
    rw [if_pos ⟨Nat.zero_le _, hk⟩] at this
    show (mirror p 0 m ((m - 0) / 2))[k]? = _
    rw [this]; congr 1; omega
  rw [e i (by omega), e j hj]
  exact h _ _ (by omega) (by omega)

theorem good_count (L : LtOn n lt) (hp : IsPm n p) (h2 : 2 ≤ n) :
    good n lt (kas_count n p) fun r => 1 ≤ r.1 ∧ r.1 ≤ n ∧ IsPm n r.2 ∧ Inc lt r.2 r.1 := by
  unfold kas_count
  refine good_bind _ (good_mono (fun m h => ?_) _ (good_asc L hp (n - 1) 1 (Nat.le_refl _) (by omega) (fun i j a b => by omega)))
  obtain ⟨a1, a2, a3, a4⟩ := h
  by_cases e : m = n
  · rw [if_pos (by simpa using e)]
    exact ⟨a1, by omega, hp, a3⟩
  · rw [if_neg (by simpa using e)]
    by_cases e1 : m > 1
    · rw [if_pos e1]
      refine ⟨hp.get (by omega), hp.get (by omega), ?_⟩
      rw [a3 0 (m - 1) (by omega) (by omega)]
      show good n lt (if true = true then KasT.ret (m, p) else kas_descPart m n (kas_rev p 0 m)) _
      rw [if_pos rfl]
      exact ⟨a1, by omega, hp, a3⟩
    · rw [if_neg e1]
      have e1 : m = 1 := by omega
      subst e1
      have h10 : lt (p.getD 1 0) (p.getD 0 0) = true := by
        rcases a4 with q | q
        · omega
        · exact q
      unfold kas_descPart
      refine good_bind _ (good_mono (fun r h => ?_) _ (good_desc L hp (n - (1 + 1)) (1 + 1) (by omega) (by omega) (fun i j a b => by
        have : j = 1 := by omega
        have : i = 0 := by omega
        subst_vars; exact h10)))
      obtain ⟨r1, m', q⟩ := r
      obtain ⟨b1, b2, b3, b4, b5⟩ := h
      simp only at b1 b2 b3 b4 b5
      subst b1; subst b2
      show good n lt (if 0 > 0 then _ else kas_tail3 m' n r1) _
      rw [if_neg (by omega)]
      unfold kas_tail3
      refine good_bind _ (good_mono (fun m h => ?_) _ (good_asc L (hp.rev 0 m') (n - m') m' (by omega) (by omega) (b5.rev hp (by omega))))
      exact ⟨by omega, by omega, hp.rev _ _, h.2.2.1⟩

theorem good_place (L : LtOn n lt) (hp : IsPm n p) {k : Nat} (hk : k < n) (hi : Inc lt p k) : ∀ (f l r : Nat), l ≤ r → r ≤ k → r - l ≤ f →
    (∀ i, i < l → lt (p.getD i 0) (p.getD k 0) = true) → (∀ i, r ≤ i → i < k → lt (p.getD k 0) (p.getD i 0) = true) →
    good n lt (kas_place p k f l r) fun m => m ≤ k ∧ (∀ i, i < m → lt (p.getD i 0) (p.getD k 0) = true) ∧ (∀ i, m ≤ i → i < k → lt (p.getD k 0) (p.getD i 0) = true)
  | 0, l, r, h1, h2, h3, ha, hb => ⟨by omega, ha, fun i q1 q2 => hb i (by omega) q2⟩
  | f + 1, l, r, h1, h2, h3, ha, hb => by
    unfold kas_place
    by_cases e : l ≥ r
    · rw [if_pos e]
      exact ⟨by omega, ha, fun i q1 q2 => hb i (by omega) q2⟩
    · rw [if_neg e]
      refine ⟨hp.get (by omega), hp.get (by omega), ?_⟩
      cases hc : lt (p.getD k 0) (p.getD ((l + r) / 2) 0) with
      | true =>
        show good n lt (if true = true then kas_place p k f l ((l + r) / 2) else kas_place p k f ((l + r) / 2 + 1) r) _
        rw [if_pos rfl]
        refine good_place L hp hk hi f l ((l + r) / 2) (by omega) (by omega) (by omega) ha fun i q1 q2 => ?_
        by_cases e2 : i = (l + r) / 2
        · subst e2; exact hc
        · exact L.trans _ _ _ (hp.get (by omega)) (hp.get (by omega)) (hp.get (by omega)) hc (hi _ _ (by omega) q2)
      | false =>
        show good n lt (if false = true then kas_place p k f l ((l + r) / 2) else kas_place p k f ((l + r) / 2 + 1) r) _
        rw [if_neg (by simp)]
        have := L.tri _ _ (hp.get hk) (hp.get (by omega)) (hp.ne (by omega) (by omega) (by omega)) hc
        refine good_place L hp hk hi f ((l + r) / 2 + 1) r (by omega) (by omega) (by omega) (fun i q1 => ?_) hb
        by_cases e2 : i = (l + r) / 2
        · subst e2; exact this
        · exact L.trans _ _ _ (hp.get (by omega)) (hp.get (by omega)) (hp.get (by omega)) (hi _ _ (by omega) (by omega)) this

theorem Inc.bub (hp : IsPm n p) {k l : Nat} (hk : k < n) (hl : l ≤ k) (hi : Inc lt p k) (ha : ∀ i, i < l → lt (p.getD i 0) (p.getD k 0) = true) (hb : ∀ i, l ≤ i → i < k → lt (p.getD k 0) (p.getD i 0) = true) :
    Inc lt (bubble p k (k - l)) (k + 1) := by
  have e : ∀ i, (bubble p k (k - l)).getD i 0 = if i = l then p.getD k 0 else if l < i ∧ i ≤ k then p.getD (i - 1) 0 else p.getD i 0 := fun i => by
    have := getElem?_bubble (xs := p) (src := k) (by rw [hp.size]; exact hk) (k - l) (by omega) i
    rw [show k - (k - l) = l by omega] at this
    by_cases e1 : i = l
    · rw [if_pos e1] at this ⊢; exact getD_of this
    · rw [if_neg e1] at this ⊢
      by_cases e2 : l < i ∧ i ≤ k
      · rw [if_pos e2] at this ⊢; exact getD_of this
      · rw [if_neg e2] at this ⊢; exact getD_of this
  intro i j hij hj
  rw [e i, e j]
  by_cases i1 : i = l
  · rw [if_pos i1, if_neg (by omega), if_pos (by omega)]
    exact hb _ (by omega) (by omega)
  · rw [if_neg i1]
    by_cases j1 : j = l
    · rw [if_neg (by omega), if_pos j1]
      exact ha _ (by omega)
    · rw [if_neg j1]
      by_cases i2 : l < i ∧ i ≤ k
      · rw [if_pos i2, if_pos (by omega)]; exact hi _ _ (by omega) (by omega)
      · rw [if_neg i2]
        by_cases j2 : l < j ∧ j ≤ k
        · rw [if_pos j2]; exact hi _ _ (by omega) (by omega)
        · rw [if_neg j2]; exact hi _ _ (by omega) (by omega)

theorem good_bin (L : LtOn n lt) : ∀ (f : Nat) (p : Array Nat) (k : Nat), IsPm n p → k + f = n → Inc lt p k → good n lt (kas_bin f p k) fun q => IsPm n q ∧ Inc lt q n
  | 0, p, k, hp, hk, hi => ⟨hp, by rw [← hk]; exact hi⟩
  | f + 1, p, k, hp, hk, hi => by
    unfold kas_bin
    refine good_bind _ (good_mono (fun l h => ?_) _ (good_place L hp (by omega) hi k 0 k (Nat.zero_le _) (Nat.le_refl _) (by omega) (fun i q => by omega) fun i q1 q2 => by omega))
    exact good_bin L f _ (k + 1) (hp.bub _ _) (by omega) (hi.bub hp (by omega) h.1 h.2.1 h.2.2)

theorem good_sort (L : LtOn n lt) (h2 : 2 ≤ n) : good n lt (kas_sort n) fun q => IsPm n q ∧ Inc lt q n := by
  unfold kas_sort
  refine good_bind _ (good_mono (fun r h => ?_) _ (good_count (p := (List.range n).toArray) L (Array.Perm.refl _) h2))
  obtain ⟨m, p⟩ := r
  obtain ⟨a1, a2, a3, a4⟩ := h
  simp only at a1 a2 a3 a4
  show good n lt (if m < n then kas_bin (n - max m 1) p (max m 1) else KasT.ret p) _
  have e : max m 1 = m := by omega
  by_cases q : m < n
  · rw [if_pos q, e]; exact good_bin L _ p m a3 (by omega) a4
  · rw [if_neg q]; exact ⟨a3, by rw [show n = m by omega]; exact a4⟩

theorem good_wp {α : Type} {cmp : Nat → Nat → (Bool → Shared → Prop) → Shared → Prop} {Inv : Shared → Prop} (hc : ∀ i j C s, i < n → j < n → Inv s → (∀ s', Inv s' → C (lt i j) s') → cmp i j C s) {Q : α → Prop} {G : α → Shared → Prop}
    (hG : ∀ a s', Q a → Inv s' → G a s') : ∀ (t : KasT α) (s : Shared), good n lt t Q → Inv s → t.kasWp cmp G s
  | .ret a, s, h, hs => hG a s h hs
  | .ask i j k, s, h, hs => hc i j _ s h.1 h.2.1 hs fun s' hs' => good_wp hc hG (k (lt i j)) s' h.2.2 hs'
end

/-! uniqueness of the sorted list -/
theorem keyLt_irr : ∀ k : List Int, keyLt k k = false
  | [] => rfl
  | a :: r => by simp [keyLt, keyLt_irr r]
theorem keyLt_tri : ∀ a b : List Int, a ≠ b → keyLt a b = false → keyLt b a = true
  | [], [], h, _ => absurd rfl h
  | [], _ :: _, _, h => by simp [keyLt] at h
  | _ :: _, [], _, _ => rfl
  | a :: r, b :: s, h, hl => by
    by_cases e : a = b
    · subst e
      simp only [keyLt, beq_self_eq_true, if_true] at hl ⊢
      exact keyLt_tri r s (fun q => h (by rw [q])) hl
    · have e2 : ¬ b = a := fun q => e q.symm
      simp only [keyLt, beq_iff_eq, e, e2, if_false, decide_eq_false_iff_not, decide_eq_true_eq] at hl ⊢
      omega
theorem keyLt_trans : ∀ a b c : List Int, keyLt a b = true → keyLt b c = true → keyLt a c = true
  | [], [], c, h, _ => by simp [keyLt] at h
  | [], b :: s, [], _, h => by simp [keyLt] at h
  | [], _ :: _, _ :: _, _, _ => rfl
  | _ :: _, [], _, h, _ => by simp [keyLt] at h
  | _ :: _, _ :: _, [], _, h => by simp [keyLt] at h
  | a :: r, b :: s, c :: t, h1, h2 => by
    by_cases e : a = b
    · subst e
      simp only [keyLt, beq_self_eq_true, if_true] at h1
      by_cases e2 : a = c
      · subst e2
        simp only [keyLt, beq_self_eq_true, if_true] at h2 ⊢
        exact keyLt_trans r s t h1 h2
      · simp only [keyLt, beq_iff_eq, e2, if_false, decide_eq_true_eq] at h2 ⊢; exact h2
    · simp only [keyLt, beq_iff_eq, e, if_false, decide_eq_true_eq] at h1
      by_cases e2 : b = c
      · subst e2
        simp only [keyLt, beq_iff_eq, e, if_false, decide_eq_true_eq]; exact h1
      · simp only [keyLt, beq_iff_eq, e2, if_false, decide_eq_true_eq] at h2
        have e3 : ¬ a = c := by omega
        simp only [keyLt, beq_iff_eq, e3, if_false, decide_eq_true_eq]; omega
theorem keyLt_asym (a b : List Int) (h : keyLt a b = true) : keyLt b a = false := by
  cases e : keyLt b a with
  | false => rfl
  | true => exact absurd (keyLt_trans a b a h e) (by rw [keyLt_irr]; simp)

theorem insK_perm (k : List Int) : ∀ l, (insK k l).Perm (k :: l)
  | [] => .refl _
  | x :: r => by
    unfold insK
    split
    · exact .refl _
    · exact ((insK_perm k r).cons x).trans (List.Perm.swap k x r)
theorem sortK_perm : ∀ l, (sortK l).Perm l
  | [] => .refl _
  | k :: r => (insK_perm k _).trans ((sortK_perm r).cons k)
theorem insK_sorted (k : List Int) : ∀ l : List (List Int), l.Pairwise (fun a b => keyLt a b = true) → k ∉ l → (insK k l).Pairwise (fun a b => keyLt a b = true)
  | [], _, _ => by simp [insK]
  | x :: r, h, hn => by
    have h0 := List.pairwise_cons.mp h
    unfold insK
    split
    · rename_i hc
      refine List.pairwise_cons.mpr ⟨fun y hy => ?_, h⟩
      rcases List.mem_cons.mp hy with rfl | hy
      · exact hc
      · exact keyLt_trans _ _ _ hc (h0.1 y hy)
    · rename_i hc
      have hx : keyLt x k = true := keyLt_tri _ _ (fun e => hn (by rw [e]; exact List.mem_cons_self)) (by simpa using hc)
      refine List.pairwise_cons.mpr ⟨fun y hy => ?_, insK_sorted k r h0.2 fun q => hn (List.mem_cons_of_mem _ q)⟩
      rcases List.mem_cons.mp ((insK_perm k r).mem_iff.mp hy) with rfl | hy
      · exact hx
      · exact h0.1 y hy
theorem sortK_sorted : ∀ l : List (List Int), l.Nodup → (sortK l).Pairwise (fun a b => keyLt a b = true)
  | [], _ => by simp [sortK]
  | k :: r, h => by
    have h0 := List.nodup_cons.mp h
    exact insK_sorted k _ (sortK_sorted r h0.2) fun q => h0.1 ((sortK_perm r).mem_iff.mp q)
theorem sorted_unique : ∀ {l₁ l₂ : List (List Int)}, l₁.Perm l₂ → l₁.Pairwise (fun a b => keyLt a b = true) → l₂.Pairwise (fun a b => keyLt a b = true) → l₁ = l₂ := by
  intro l₁
  induction l₁ with
  | nil => intro l₂ hp _ _; exact (List.Perm.nil_eq hp)
  | cons x r ih =>
    intro l₂ hp h1 h2
    cases l₂ with
    | nil => exact absurd hp.symm.nil_eq (by simp)
    | cons y s =>
      have a1 := List.pairwise_cons.mp h1
      have a2 := List.pairwise_cons.mp h2
      have e : x = y := by
        rcases List.mem_cons.mp (hp.mem_iff.mp List.mem_cons_self) with e | e
        · exact e
        · rcases List.mem_cons.mp (hp.symm.mem_iff.mp List.mem_cons_self) with e' | e'
          · exact e'.symm
          · exact absurd (keyLt_asym _ _ (a1.1 y e')) (by rw [a2.1 x e]; simp)
      subst e
      rw [ih (List.Perm.cons_inv hp) a1.2 a2.2]
set_option maxRecDepth 100000
section
variable {prog : Program} {w : World} {A : Around} {E : Value → Shared → Prop} {s : Shared}

/-! the iterator of a dictionary, whatever its keys are -/
theorem iter_raw {d : Addr} {o : Obj} {es : Array DictEntry} {ep : Nat} {Q : Value → Shared → Prop} (hd : (d == sysModules) = false) (ho : s.heap.get? d = some o) (hc : o.ExactDict) (hdat : o.data = .dict es ep)
    (hQ : Q (.ref s.heap.objs.size) { s with heap := s.heap.push { cls := .type "dict_keyiterator", data := .fields #[.ref d, .int 0 0, .int es.size 0, .int ep 0] } }) : wpAny (model prog w) A (pyIter (.ref d)) Q E s := by
  have hT : s.TypeIs (.ref d) "dict" := ⟨o, ho, hc.1⟩
  have body : ∀ {B : Around} {R : Fin → Shared → Prop}, R (.done (.ret (.ref s.heap.objs.size))) { s with heap := s.heap.push { cls := .type "dict_keyiterator", data := .fields #[.ref d, .int 0 0, .int es.size 0, .int ep 0] } } → wpAny (model prog w) B (Builtin.«dict.__iter__» ⟨[.ref d], []⟩) R E s := fun {B R} h => by
    unfold Builtin.«dict.__iter__» Builtin.Dict.dictSlotNone Builtin.Dict.showsAll
    refine wpAny_bind (wpAny_bind (wpAny_notOrdered_dict hT (wpAny_pure (a := Value.ref d) ?_)))
    refine wpAny_bind (m := if (d == sysModules) = true then _ else _) ?_
    rw [hd]
    exact wpAny_pure (wpAny_bind (wpAny_dictEntries ho hdat (wpAny_bind (wpAny_dictEpoch ho hdat (wpAny_bind (wpAny_newObj_type (wpAny_pure h)))))))
  exact wpAny_pyIter_slot hT F.slot_dict_iter (wpAny_call_entry F.slot_dict_iter hT F.entry_dict_iter (body ⟨_, rfl, _, _, ⟨_, Heap.get?_push_size _ rfl, rfl⟩, F.slot_dict_keyiterator_next.lookup, hQ⟩) (F.args_dict_iter_1 _))
/-- StopIteration, raised in here -/
theorem stop_raw {it : Addr} {h' : Heap} {Q : Option Value → Shared → Prop} (hh : A.handled = none) (k : Heap.ExtBut it s.heap h') (hQ : ∀ h'', Heap.ExtBut it s.heap h'' → Q none { s with heap := h'' }) :
    wpAny (model prog w) A.in1 (do raiseNew (← newExc (.type "StopIteration") [])) (fun (_ : Fin) _ => False) (fun e s' => wpAny (model prog w) A (do if ← isInstance e (.type "StopIteration") then pure none else throw e) Q E s') { s with heap := h' } := by
  unfold newExc newTuple raiseNew
  refine wpAny_bind (wpAny_bind (wpAny_newObj_type (wpAny_bind (m := firstArgMember _ _) (wpAny_of_eq (a := Value.none) rfl (wpAny_newObj_type (wpAny_bind (wpAny_handled ?_)) (by size_fits)))) (by size_fits)))
  rw [show A.in1.handled = none from hh]
  refine wpAny_bind (wpAny_pure (wpAny_throw ?_))
  exact wpAny_bind (wpAny_isInstance (T := "StopIteration") (b := true) ⟨_, Heap.get?_push_size _ rfl, rfl⟩ isSubtype_stop (wpAny_pure (hQ _ ((k.push _).push _))))
theorem next_raw {it d : Addr} {i ep : Nat} {od : Obj} {es : Array DictEntry} {Q : Option Value → Shared → Prop} (hh : A.handled = none) (hit : s.heap.IsKeyIter it d i es.size ep) (hod : s.heap.get? d = some od) (hdd : od.data = .dict es ep)
    (hy : ∀ e h', es[i]? = some e → h'.IsKeyIter it d (i + 1) es.size ep → Heap.SameBut it s.heap h' → Q (some e.key) { s with heap := h' }) (hn : ∀ h', es[i]? = none → Heap.ExtBut it s.heap h' → Q none { s with heap := h' }) :
    wpAny (model prog w) A (pyNext (.ref it)) Q E s := by
  obtain ⟨o, ho, hc, hd⟩ := id hit
  have own : Builtin.Dict_items.ownsTuple "dict_keyiterator" = false := by decide
  unfold pyNext
  refine wpAny_bind (wpAny_attempt (wpAny_callSpecial?_slot (name := Str.ofString "__next__") hit.typeIs F.slot_dict_keyiterator_next (wpAny_call_entry F.slot_dict_keyiterator_next hit.typeIs F.entry_dict_keyiterator_next ?_ (F.args_dict_keyiterator_next_1 _))))
  refine wpAny_bind (wpAny_pure (wpAny_bind (wpAny_bind (wpAny_bind (wpAny_typeNameOfWhole_keyiter hit.typeIs (wpAny_pure ?_))))))
  rw [own, if_neg Bool.false_ne_true]
  refine wpAny_bind (wpAny_fieldsOf ho hd ?_)
  refine wpAny_bind (m := pure _) (wpAny_pure (wpAny_bind (wpAny_dictEntries hod hdd ?_)))
  rw [bne_self_eq_false, if_neg Bool.false_ne_true]
  refine wpAny_bind (m := pure _) (wpAny_pure (wpAny_bind (wpAny_dictEpoch hod hdd ?_)))
  rw [bne_self_eq_false, if_neg Bool.false_ne_true]
  refine wpAny_pure ?_
  have at_ : (if (i : Int) < 0 then none else es[(i : Int).toNat]?) = es[i]? := by rw [if_neg (Int.not_lt.mpr (Int.natCast_nonneg i)), Int.toNat_natCast]
  dsimp only
  rw [at_]
  cases e : es[i]? with
  | some x =>
    refine wpAny_bind (wpAny_bind (wpAny_typeNameOfWhole_keyiter hit.typeIs (wpAny_pure ?_)))
    rw [own, if_neg Bool.false_ne_true]
    refine wpAny_bind (wpAny_isOneOf_keyiter hit.typeIs ?_)
    refine wpAny_bind (m := setField (.ref it) 1 (rawInt ((i : Int) + 1))) (wpAny_setField ho hd (by decide : 1 < 4) ?_)
    have hit' : (s.heap.update it (Obj.mapFields (·.setIfInBounds 1 (rawInt ((i : Int) + 1))))).IsKeyIter it d (i + 1) es.size ep :=
      ⟨_, Heap.get?_update_self _ ho (Obj.isFreed_of_fields (Obj.data_mapFields hd _)), (Obj.cls_mapFields ..).trans hc, (Obj.data_mapFields hd _).trans rfl⟩
    refine wpAny_bind (wpAny_holding (wpAny_bind (wpAny_isOneOf_keyiter (s := { s with heap := s.heap.update it (Obj.mapFields (·.setIfInBounds 1 (rawInt ((i : Int) + 1)))) }) hit'.typeIs ?_)))
    exact wpAny_pure (a := x.key) (wpAny_pure ⟨_, rfl, wpAny_pure (hy x _ e hit' (Heap.SameBut.update ..))⟩)
  | none =>
    refine wpAny_bind (wpAny_bind (wpAny_typeNameOfWhole_keyiter hit.typeIs (wpAny_pure ?_)))
    rw [own, if_neg Bool.false_ne_true]
    refine wpAny_bind (wpAny_setField ho hd (by decide : 0 < 4) ?_)
    exact wpAny_mono (stop_raw hh (Heap.SameBut.update ..).extBut (fun h'' => hn h'' e)) (fun _ _ z => z.elim) fun _ _ z => z
end
section
variable {prog : Program} {w : World} {A : Around} {E : Value → Shared → Prop} {s : Shared}

theorem ext_loop (hh : A.handled = none) {h0 : Heap} {L it d : Addr} {ep : Nat} {od : Obj} {es : Array DictEntry} (hsz : es.size ≤ 1000) (hLi : L ≠ it) (hL0 : h0.get? L = none) (hi0 : h0.get? it = none)
    (hod : h0.get? d = some od) (hdd : od.data = .dict es ep) {R : Except Value Flow → Shared → Prop} : ∀ (k i : Nat) (h : Heap) (t : Nat) (acc : Array Value) (c : Nat), es.size - i = k → i ≤ es.size →
    (∀ b o, h0.get? b = some o → h.get? b = some o) → h.IsKeyIter it d i es.size ep → h.get? L = some (seqObj "list" acc c) → acc.toList = (es.toList.take i).map (·.key) →
    (∀ h' t' acc' c', (∀ b o, h0.get? b = some o → h'.get? b = some o) → h'.get? L = some (seqObj "list" acc' c') → acc'.toList = es.toList.map (·.key) → R (.ok (.ret (.ref L))) { s with heap := h', toks := t' }) →
    codeAny (model prog w) A (.builtin "list.extend.loop" ⟨[.ref L, .ref it, .ref L], []⟩) R { s with heap := h, toks := t } := by
  have ne0 : ∀ {b : Addr} {o : Obj}, h0.get? b = some o → b ≠ L ∧ b ≠ it := fun {b o} e => ⟨fun q => (by rw [q, hL0] at e; cases e), fun q => (by rw [q, hi0] at e; cases e)⟩
  intro k
  induction k with
  | zero =>
    intro i h t acc c hk hi k0 hit hL hacc hR
    have hin : i = es.size := by omega
    subst hin
    refine codeAny_builtin F.entry_extend_loop ?_
    rw [Around.under_plainId F.plain_extend_loop _]
    show wpAny _ A.in1 (pyNext (.ref it) >>= _) _ _ _
    refine wpAny_bind (next_raw (s := { s with heap := h, toks := t }) hh hit (k0 _ _ hod) hdd (fun e h' q => absurd ((Array.getElem?_eq_none (Nat.le_refl _)).symm.trans q) nofun) fun h' _ x => ?_)
    exact wpAny_pure (hR h' t acc c (fun b o e => x b o (ne0 e).2 (k0 _ _ e)) (x L _ hLi hL) (by rw [hacc, List.take_of_length_le (by simp)]))
  | succ k ih =>
    intro i h t acc c hk hi k0 hit hL hacc hR
    have hlt : i < es.size := by omega
    refine codeAny_builtin F.entry_extend_loop ?_
    rw [Around.under_plainId F.plain_extend_loop _]
    show wpAny _ A.in1 (pyNext (.ref it) >>= _) _ _ _
    refine wpAny_bind (next_raw (s := { s with heap := h, toks := t }) hh hit (k0 _ _ hod) hdd (fun e h' q hit' x => ?_) fun h' q => absurd ((Array.getElem?_eq_getElem hlt).symm.trans q) nofun)
    cases (Array.getElem?_eq_getElem hlt).symm.trans q
    have hL' : h'.get? L = some (seqObj "list" acc c) := (x.2 L hLi).trans hL
    have hal : acc.size = i := by
      have := congrArg List.length hacc
      simpa [Nat.min_eq_left hi] using this
    show wpAny _ A.in1 (updateSeq L (·.push es[i].key) >>= _) _ _ _
    refine wpAny_bind ?_
    have x2 := Heap.SameBut.update h' L (Obj.mapSeq (·.push es[i].key))
    refine wpAny_updateSeq (s := { s with heap := h', toks := t }) hL' rfl (wpAny_pure ⟨plainId_quiet F.plain_extend_loop _, ih (i + 1) _ t (acc.push es[i].key) _ (by omega) hlt (fun b o e => ?_) ?_ (get?_update_seq hL' _) ?_ hR⟩)
      (by rw [hal, sizeLine_eq]; omega) (by show (acc.push es[i].key).size ≤ sizeLine + 1; rw [Array.size_push, hal, sizeLine_eq]; omega)
    · exact (x2.2 b (ne0 e).1).trans ((x.2 b (ne0 e).2).trans (k0 _ _ e))
    · obtain ⟨o, q1, q2⟩ := hit'
      exact ⟨o, (x2.2 it hLi.symm).trans q1, q2⟩
    · rw [Array.toList_push, hacc, List.take_succ_eq_append_getElem (by simpa using hlt), List.map_append]
      simp

theorem collect_dict {d : Addr} {o : Obj} {es : Array DictEntry} {ep : Nat} {Q : List Value → Shared → Prop} (hh : A.handled = none) (hd : (d == sysModules) = false) (ho : s.heap.get? d = some o) (hc : o.ExactDict) (hdat : o.data = .dict es ep)
    (hsz : es.size ≤ 1000) (hQ : ∀ s', Keeps s s' → Q (es.toList.map (·.key)) s') : wpAny (model prog w) A (collect (.ref d)) Q E s := by
  have hlt : d < s.heap.objs.size := Heap.lt_size ho
  unfold collect
  refine wpAny_bind (wpAny_runValue (codeAny_builtin F.entry_proto_collect ?_))
  rw [Around.under_plainId F.plain_proto_collect _]
  show wpAny _ A.in1 (newList [] >>= fun l => again (.builtin "list.__iadd__" ⟨[l, .ref d], []⟩)) _ _ s
  refine wpAny_bind (wpAny_newObj_type ?_)
  refine wpAny_pure ⟨plainId_quiet F.plain_list_iadd _, codeAny_builtin F.entry_list_iadd ?_⟩
  rw [Around.under_plainId F.plain_list_iadd _]
  have ho1 : (s.heap.push (seqObj "list" #[] 0)).get? d = some o := Heap.get?_push_of_some _ ho
  have hS₁ : (s.heap.push (seqObj "list" #[] 0)).get? s.heap.objs.size = some (seqObj "list" #[] 0) := Heap.get?_push_size _ rfl
  have h1 : Builtin.List.listSameRef (.ref s.heap.objs.size) (.ref d) = false := by simp [Builtin.List.listSameRef, Nat.ne_of_gt hlt]
  show wpAny _ A.in1 (Builtin.List.listExtendWith (.ref s.heap.objs.size) (.ref d) (.ref s.heap.objs.size)) _ _ { s with heap := s.heap.push (seqObj "list" #[] 0) }
  unfold Builtin.List.listExtendWith
  have hT1 : Shared.TypeIs { s with heap := s.heap.push (seqObj "list" #[] 0) } (.ref d) "dict" := ⟨o, ho1, hc.1⟩
  refine wpAny_bind (wpAny_typeOf hT1 ?_)
  rw [if_neg (by rw [h1]; decide)]
  refine wpAny_bind (iter_raw (s := { s with heap := s.heap.push (seqObj "list" #[] 0) }) hd ho1 hc hdat ?_)
  rw [show (s.heap.push (seqObj "list" #[] 0)).objs.size = s.heap.objs.size + 1 from size_push' _ _]
  generalize hh2 : (s.heap.push (seqObj "list" #[] 0)).push { cls := .type "dict_keyiterator", data := .fields #[.ref d, .int 0 0, .int es.size 0, .int ep 0] } = h2
  have hsz2 : h2.objs.size = s.heap.objs.size + 1 + 1 := by rw [← hh2, size_push', size_push']
  have hk2 : ∀ b o, s.heap.get? b = some o → h2.get? b = some o := fun b o e => by rw [← hh2]; exact Heap.get?_push_of_some _ (Heap.get?_push_of_some _ e)
  have hL2 : h2.get? s.heap.objs.size = some (seqObj "list" #[] 0) := by rw [← hh2]; exact Heap.get?_push_of_some _ hS₁
  have hit2 : h2.IsKeyIter (s.heap.objs.size + 1) d 0 es.size ep := by
    refine ⟨{ cls := .type "dict_keyiterator", data := .fields #[.ref d, .int 0 0, .int es.size 0, .int ep 0] }, ?_, rfl, rfl⟩
    rw [← hh2, ← size_push' s.heap (seqObj "list" #[] 0)]; exact Heap.get?_push_size _ rfl
  have hT2 : Shared.TypeIs { s with heap := h2 } (.ref d) "dict" := ⟨o, hk2 _ _ ho, hc.1⟩
  refine wpAny_bind (wpAny_holding ?_)
  unfold Builtin.List.listLengthHint
  refine wpAny_bind (wpAny_specialOf (name := Str.ofString "__len__") hT2 F.slot_dict_len.lookup ?_)
  (generalize hid : ("dict.__len__" : String) = id0; (fail_if_success (clear hid id0)); wp_delta; rw [show splitId id0 = some ("dict", "__len__") from by subst hid; decide +kernel]; subst hid)
  refine wpAny_bind (wpAny_isInstance (b := true) hT2 isSubtype_dict_dict ?_)
  rw [if_neg (by decide)]
  show wpAny _ _ (ite _ _ _) _ _ _
  rw [if_pos (by decide +kernel)]
  refine wpAny_bind (wpAny_typeOf hT2 ?_)
  refine wpAny_pure ?_
  show wpAny _ _ (ite _ _ _) _ _ _
  rw [if_pos (by decide +kernel)]
  refine wpAny_bind (wpAny_rule ?_)
  show wpAny _ _ (Builtin.List.listTouch (.ref s.heap.objs.size) >>= _) _ _ { s with heap := h2 }
  unfold Builtin.List.listTouch
  refine wpAny_bind (wpAny_bind (listUpdate_at (s := { s with heap := h2 }) hL2 rfl ?_ (Nat.zero_le _) (by show (#[] : Array Value).size + 1 ≤ _; simp)))
  have hL3 := get?_update_seq hL2 (·.push Value.none)
  refine listUpdate_at (s := { s with heap := h2.update s.heap.objs.size (Obj.mapSeq (·.push Value.none)) }) hL3 rfl ?_ (by simp [sizeLine_eq]) (by simp)
  have hL4 := get?_update_seq hL3 (·.pop)
  have x3 := Heap.SameBut.update h2 s.heap.objs.size (Obj.mapSeq (·.push Value.none))
  have x4 := Heap.SameBut.update (h2.update s.heap.objs.size (Obj.mapSeq (·.push Value.none))) s.heap.objs.size (Obj.mapSeq (·.pop))
  refine wpAny_pure ⟨plainId_quiet F.plain_extend_loop _, ext_loop (s := s) (A := A) (h0 := s.heap) (L := s.heap.objs.size) (it := s.heap.objs.size + 1) hh hsz (Nat.ne_of_lt (Nat.lt_succ_self _)) (Heap.get?_none_of_le (Nat.le_refl _)) (Heap.get?_none_of_le (Nat.le_succ _)) ho hdat
    es.size 0 _ s.toks _ _ (by omega) (Nat.zero_le _) (fun b o e => ?_) ?_ hL4 (by simp) fun h' t' acc' c' hk hl ha => ?_⟩
  · have hb : b ≠ s.heap.objs.size := Nat.ne_of_lt (Heap.lt_size e)
    exact (x4.2 b hb).trans ((x3.2 b hb).trans (hk2 b o e))
  · obtain ⟨oi, q1, q2⟩ := hit2
    exact ⟨oi, (x4.2 _ (Nat.succ_ne_self _)).trans ((x3.2 _ (Nat.succ_ne_self _)).trans q1), q2⟩
  · show wpAny _ A (load s.heap.objs.size >>= _) _ _ _
    refine wpAny_bind (wpAny_load hl ?_)
    show wpAny _ _ (pure acc'.toList) Q E _
    rw [ha]
    exact wpAny_pure (hQ _ ⟨h', t', rfl, hk⟩)
end
section
variable {prog : Program} {w : World} {A : Around} {E : Value → Shared → Prop} {s : Shared}

theorem items2 {prog : Program} {w : World} {k : List Int} {vs : List Value} (h2 : key2 k = true) (h : ItemsAre (intKind prog w) k vs) : ∃ a b t u, k = [a, b] ∧ vs = [.int a t, .int b u] := by
  cases h with
  | nil => simp [key2] at h2
  | cons h1 h => cases h with
    | nil => simp [key2] at h2
    | cons h1' h => cases h with
      | cons _ _ => simp [key2] at h2
      | nil =>
        obtain ⟨t, rfl⟩ := Value.isInt_shape h1
        obtain ⟨u, rfl⟩ := Value.isInt_shape h1'
        exact ⟨_, _, _, _, rfl, rfl⟩

theorem key_lt {x y : Addr} {k l : List Int} {Q : Bool → Shared → Prop} (hk : key2 k = true) (hl : key2 l = true) (hx : IsTupleKey (intKind prog w) s.heap k x) (hy : IsTupleKey (intKind prog w) s.heap l y) (h : Q (keyLt k l) s) :
    wpAny (model prog w) A (keyLt' (tuples' true) (.ref x) (.ref y)) Q E s := by
  obtain ⟨ox, xs, n, hox, _, dx, ix⟩ := hx
  obtain ⟨oy, ys, m, hoy, _, dy, iy⟩ := hy
  refine kat_lt hox dx hoy dy ?_
  obtain ⟨a, b, t, u, rfl, ex⟩ := items2 hk ix
  obtain ⟨c, d, t', u', rfl, ey⟩ := items2 hl iy
  rw [ex, ey]
  have sx : xs.size = 2 := by rw [← Array.length_toList, ex]; rfl
  have sy : ys.size = 2 := by rw [← Array.length_toList, ey]; rfl
  rw [sx, sy]
  show KatLex prog w A true _ Q [(.int a t, .int c t'), (.int b u, .int d u')] 0 s
  refine kat_cons (wpAny_eqBool_int ?_)
  refine kat_go (fun e => kat_yes ?_) (fun e => kat_no ?_)
  · refine kat_cons (wpAny_eqBool_int ?_)
    refine kat_go (fun e' => kat_yes (kat_nil ?_)) (fun e' => kat_no ?_)
    · simpa [keyLt, e, e'] using h
    · refine kat_one _ _ (lt_int ?_)
      simp only [keyLt, e, e', if_true, Bool.false_eq_true, if_false] at h
      exact h
  · refine oneLt_int ?_
    simp only [keyLt, e, Bool.false_eq_true, if_false] at h
    exact h

noncomputable def KeyAt (prog : Program) (w : World) (h : Heap) (ys : List (List Int × Addr)) : Prop := ∀ y ∈ ys, IsTupleKey (intKind prog w) h y.1 y.2 ∧ key2 y.1 = true
noncomputable def refs (ys : List (List Int × Addr)) : List Value := ys.map fun y => .ref y.2

theorem keys_kats {h : Heap} : ∀ {ys : List (List Int × Addr)}, KeyAt prog w h ys → ∃ fs, KatTups h (refs ys) fs ∧ fs.length = ys.length ∧ ∀ v ∈ fs, ∃ n t, v = .int n t
  | [], _ => ⟨[], KatTups.nil, rfl, by simp⟩
  | y :: ys, hy => by
    obtain ⟨fs, h1, h2, h3⟩ := keys_kats (ys := ys) fun z hz => hy z (List.mem_cons_of_mem _ hz)
    obtain ⟨⟨o, xs, n, ho, hc, hd, hi⟩, hk⟩ := hy y List.mem_cons_self
    obtain ⟨a, b, t, u, _, ex⟩ := items2 hk hi
    refine ⟨.int a t :: fs, KatTups.cons ho hc hd ?_ h1, by simp [h2], fun v hv => ?_⟩
    · rw [← Array.getElem?_toList, ex]; rfl
    · rcases List.mem_cons.mp hv with rfl | hv
      · exact ⟨_, _, rfl⟩
      · exact h3 v hv

theorem range_getD {α : Type} (d : α) (l : List α) : (List.range l.length).map (fun i => l.getD i d) = l := by
  apply List.ext_getElem
  · simp
  · intro i h1 h2; simp [h2]
theorem refs_getD (ys : List (List Int × Addr)) (i : Nat) (hi : i < ys.length) : (refs ys).getD i Value.none = .ref (ys.getD i ([], 0)).2 := by
  simp [refs, hi]

noncomputable def keyOrd (ys : List (List Int × Addr)) (i j : Nat) : Bool := keyLt (ys.getD i ([], 0)).1 (ys.getD j ([], 0)).1
theorem keyOrd_on {ys : List (List Int × Addr)} (nd : (ys.map (·.1)).Nodup) : LtOn ys.length (keyOrd ys) where
  trans := fun i j k _ _ _ h1 h2 => keyLt_trans _ _ _ h1 h2
  irr := fun i _ => keyLt_irr _
  asym := fun i j _ _ h => keyLt_asym _ _ h
  tri := fun i j hi hj hij h => by
    refine keyLt_tri _ _ (fun e => hij ?_) h
    have g : ∀ k (hk : k < ys.length), (ys.getD k ([], 0)).1 = (ys.map (·.1))[k]'(by simpa using hk) := fun k hk => by simp [hk]
    rw [g i hi, g j hj] at e
    exact (List.getElem_inj nd).mp e

theorem sort_out {ys : List (List Int × Addr)} (nd : (ys.map (·.1)).Nodup) {p : Array Nat} (hp : IsPm ys.length p) (hi : Inc (keyOrd ys) p ys.length) :
    ∃ q : List (List Int × Addr), q.Perm ys ∧ q.map (·.1) = sortK (ys.map (·.1)) ∧ (p.toList.map fun i => (refs ys).getD i Value.none) = refs q := by
  have hpl : p.toList.Perm (List.range ys.length) := by have := Array.perm_iff_toList_perm.mp hp; simpa using this
  refine ⟨p.toList.map fun i => ys.getD i ([], 0), ?_, ?_, ?_⟩
  · have := hpl.map fun i => ys.getD i ([], 0)
    rwa [range_getD] at this
  · have hq : (p.toList.map fun i => ys.getD i ([], 0)).Perm ys := by
      have := hpl.map fun i => ys.getD i ([], 0)
      rwa [range_getD] at this
    refine sorted_unique ((hq.map _).trans (sortK_perm _).symm) ?_ (sortK_sorted _ nd)
    rw [List.pairwise_iff_getElem]
    intro i j h1 h2 hij
    have hs := hp.size
    simp only [List.length_map, Array.length_toList, hs] at h1 h2
    have := hi i j hij h2
    simpa [keyOrd, Array.getD, hs, h1, h2] using this
  · unfold refs
    rw [List.map_map]
    refine List.map_congr_left fun i hm => ?_
    have hlt : i < ys.length := by have := hpl.mem_iff.mp hm; simpa using this
    exact refs_getD ys i hlt

theorem list_sort_keys {a : Addr} {ys : List (List Int × Addr)} {n : Nat} {P : Fin → Shared → Prop} (ho : s.heap.get? a = some (seqObj "list" (refs ys).toArray n)) (hK : KeyAt prog w s.heap ys) (hna : ∀ y ∈ ys, y.2 ≠ a)
    (nd : (ys.map (·.1)).Nodup) (h64 : ys.length < 64)
    (h : ∀ q : List (List Int × Addr), q.Perm ys → q.map (·.1) = sortK (ys.map (·.1)) → P (.done (.ret .none)) { s with heap := sortedHeap s.heap a (refs ys) (refs q).toArray }) :
    wpAny (model prog w) A (Builtin.«list.sort» ⟨[.ref a], []⟩) P E s := by
  rw [list_sort_plain]
  have ha : a < s.heap.objs.size := Heap.lt_size ho
  have hlen : (refs ys).length = ys.length := by simp [refs]
  refine wpAny_bind (listItems_at ho rfl ?_)
  refine wpAny_bind (listUpdate_at ho rfl ?_ (by rw [List.size_toArray, sizeLine_eq]; omega) (Nat.zero_le _))
  have x1 := Heap.SameBut.update s.heap a (Obj.mapSeq fun _ => (#[] : Array Value))
  obtain ⟨e1, ho1⟩ : ∃ e1, (s.heap.update a (Obj.mapSeq fun _ => #[])).get? a = some (seqObj "list" #[] e1) := ⟨_, get?_update_seq ho (fun _ => #[])⟩
  refine wpAny_bind (seqEpoch_at ho1 rfl ?_)
  refine wpAny_bind (wpAny_newTuple ?_ (by show (refs ys).length ≤ _; rw [sizeLine_eq]; omega))
  refine wpAny_bind (wpAny_newList ?_ (Nat.zero_le _))
  refine wpAny_holding ?_
  have ho6 : (((s.heap.update a (Obj.mapSeq fun _ => #[])).push (seqObj "tuple" (refs ys).toArray 0)).push (seqObj "list" #[] 0)).get? a = some (seqObj "list" #[] e1) :=
    Heap.get?_push_of_some _ (Heap.get?_push_of_some _ ho1)
  have hK6 : KeyAt prog w (((s.heap.update a (Obj.mapSeq fun _ => #[])).push (seqObj "tuple" (refs ys).toArray 0)).push (seqObj "list" #[] 0)) ys := fun y hy => by
    obtain ⟨⟨o, items, m, q1, q2⟩, q3⟩ := hK y hy
    exact ⟨⟨o, items, m, Heap.get?_push_of_some _ (Heap.get?_push_of_some _ ((x1.2 _ (hna y hy)).trans q1)), q2⟩, q3⟩
  show wpAny (model prog w) A _ P E { s with heap := ((s.heap.update a (Obj.mapSeq fun _ => #[])).push (seqObj "tuple" (refs ys).toArray 0)).push (seqObj "list" #[] 0) }
  dsimp only
  have hsz : (refs ys).toArray.size = ys.length := by simp [hlen]
  by_cases h2 : (refs ys).toArray.size < 2
  · rw [if_pos h2, if_pos h2]
    refine wpAny_bind (wpAny_pure ?_)
    rw [StateT.run_pure]
    refine wpAny_bind (wpAny_pure ?_)
    dsimp only
    refine wpAny_bind (seqEpoch_at ho6 rfl ?_)
    have hpair : (arrOf (SortSt.mk' general' ((refs ys).toArray.zip (refs ys).toArray) #[] 7 none)).map (·.2) = (refs ys).toArray := by
      show ((refs ys).toArray.zip (refs ys).toArray).map (·.2) = _
      apply Array.toList_inj.mp
      simp [List.map_snd_zip]
    rw [hpair]
    refine wpAny_bind (listUpdate_at ho6 rfl ?_ (hsz2 := by show (refs ys).toArray.size ≤ _; rw [sizeLine_eq]; omega))
    simp only [bne_self_eq_false, Bool.false_eq_true, if_false]
    refine wpAny_pure (h ys (.refl _) ?_)
    match ys, hsz, h2 with
    | [], _, _ => rfl
    | [y], _, _ => rfl
    | _ :: _ :: _, hsz, h2 => exact absurd h2 (by simp [refs])
  · rw [if_neg h2, if_neg h2]
    obtain ⟨fs, f1, f2, f3⟩ := keys_kats hK6
    refine wpAny_bind (kat_kind (s := { s with heap := ((s.heap.update a (Obj.mapSeq fun _ => #[])).push (seqObj "tuple" (refs ys).toArray 0)).push (seqObj "list" #[] 0) }) (T := .type "int") f1 (by omega) (fun v hv => ?_) (by decide) ?_)
    · obtain ⟨n, t, rfl⟩ := f3 v hv
      exact Looks.of_pure rfl
    show wpAny _ _ _ _ _ _
    have hL := keyOrd_on nd
    refine wpAny_bind (wpAny_mono (kat_run (ks := refs ys) (vs := refs ys) (κ := tuples' true) (Q := fun st' s' => ∃ p : Array Nat, IsPm ys.length p ∧ Inc (keyOrd ys) p ys.length ∧ arrOf st' = p.map (kas_item ((refs ys).toArray.zip (refs ys).toArray)) ∧ failedOf st' = none ∧
        s' = { s with heap := ((s.heap.update a (Obj.mapSeq fun _ => #[])).push (seqObj "tuple" (refs ys).toArray 0)).push (seqObj "list" #[] 0) })
      (G := fun p s' => IsPm ys.length p ∧ Inc (keyOrd ys) p ys.length ∧ s' = { s with heap := ((s.heap.update a (Obj.mapSeq fun _ => #[])).push (seqObj "tuple" (refs ys).toArray 0)).push (seqObj "list" #[] 0) })
      rfl (by omega) (by omega) (fun p' st' s' a1 a2 a3 a4 => ⟨p', a4.1, a4.2.1, a2, a3, a4.2.2⟩) ?_) ?_ fun _ _ e => e)
    · rw [hlen]
      refine good_wp (n := ys.length) (lt := keyOrd ys) (Inv := fun s' => s' = { s with heap := ((s.heap.update a (Obj.mapSeq fun _ => #[])).push (seqObj "tuple" (refs ys).toArray 0)).push (seqObj "list" #[] 0) }) ?_ ?_ _ _ (good_sort hL (by omega)) rfl
      · rintro i j C _ hi hj rfl hC
        show wpAny (model prog w) A (keyLt' (tuples' true) ((refs ys).getD i Value.none) ((refs ys).getD j Value.none)) C (fun _ _ => False) _
        rw [refs_getD ys i hi, refs_getD ys j hj]
        have gi : ys.getD i ([], 0) ∈ ys := by simp [hi]
        have gj : ys.getD j ([], 0) ∈ ys := by simp [hj]
        exact key_lt (hK6 _ gi).2 (hK6 _ gj).2 (hK6 _ gi).1 (hK6 _ gj).1 (hC _ rfl)
      · rintro p _ ⟨h1, h2⟩ rfl
        exact ⟨h1, h2, rfl⟩
    rintro ⟨⟨⟩, st'⟩ s' ⟨p, hp, hi, har, hf, rfl⟩
    dsimp only
    obtain ⟨q, q1, q2, q3⟩ := sort_out nd hp hi
    have hout := kat_snds rfl har
    rw [q3] at hout
    rw [hout]
    refine wpAny_bind (seqEpoch_at ho6 rfl ?_)
    refine wpAny_bind (listUpdate_at ho6 rfl ?_ (hsz2 := by show (refs q).toArray.size ≤ _; rw [List.size_toArray, refs, List.length_map, q1.length_eq, sizeLine_eq]; omega))
    rw [hf]
    simp only [bne_self_eq_false, Bool.false_eq_true, if_false]
    exact wpAny_pure (h q q1 q2)
end
theorem ints_back {C : SC} {g : Heap} {as : List Addr} {k : List Int} {vs : List Value} (h : ItemsAre (intKind C.prog C.w) k vs) : RepL C g as (k.map .int) vs := by
  induction h with
  | nil => rfl
  | @cons k v ks vs h1 _ ih =>
    obtain ⟨t, rfl⟩ := Value.isInt_shape h1
    exact RCons.mk _ _ (RInt.mk t) ih
theorem tup_rep {C : SC} {g : Heap} {as : List Addr} {k : List Int} {a : Addr} (h : IsTupleKey (intKind C.prog C.w) g k a) : Rep C g as (toTupK k) (.ref a) := by
  obtain ⟨o, items, n, ho, hc, hd, hi⟩ := h
  exact RSeq.mk a items.toList ⟨o, ho, hc, n, hd⟩ (ints_back hi)
theorem tups_rep {C : SC} {g : Heap} {as : List Addr} : ∀ {q : List (List Int × Addr)}, (∀ y ∈ q, IsTupleKey (intKind C.prog C.w) g y.1 y.2) → RepL C g as ((q.map (·.1)).map toTupK) (refs q)
  | [], _ => rfl
  | y :: q, h => RCons.mk _ _ (tup_rep (h y (.head _))) (tups_rep fun z hz => h z (.tail _ hz))

theorem sorted_ok (C : SC) : SortedOk C := by
  intro A s hl as v kvs n hA hf hr hlen hk2
  obtain ⟨d, m⟩ := (hr : RRef _ v)
  have hg := vis_sub s.heap hl
  obtain ⟨hdS, xs, o, es, ep, ho, hc, hdat, hes, hi, hn, hm⟩ := m
  have hesz : es.size = kvs.length := by rw [size_of_entries hes, hm.len]
  refine Calls.call_function_entry kind_sorted plain_sorted entry_sorted (args_sorted1 _) ?_
  unfold Builtin.«sorted»
  refine wpAny_bind (m := checkCount "sorted" 1 1 _) (wpAny_pure ?_)
  refine wpAny_bind (collect_dict hA.1 hdS ho hc hdat (by omega) fun s' hkp => ?_)
  obtain ⟨h1, t1, rfl, hk1⟩ := hkp
  generalize hys : (xs.map fun x => (x.1, x.2.1)) = ys
  have hkeys : es.toList.map (·.key) = refs ys := by
    rw [hes, ← hys, refs, List.map_map, List.map_map]; rfl
  have hfst : ys.map (·.1) = kvs.map (·.1) := by rw [← hys, List.map_map, ← hm.keys]; rfl
  have hyl : ys.length = kvs.length := by rw [← hys, List.length_map, hm.len]
  have hmem : ∀ y ∈ ys, IsTupleKey (intKind C.prog C.w) (vis s.heap hl) y.1 y.2 := fun y hy => by
    rw [← hys] at hy
    obtain ⟨x, hx, rfl⟩ := List.mem_map.mp hy
    exact hi x hx
  have hkey2 : ∀ y ∈ ys, key2 y.1 = true := fun y hy => by
    have : y.1 ∈ kvs.map (·.1) := hfst ▸ List.mem_map_of_mem hy
    obtain ⟨kv, hkv, e⟩ := List.mem_map.mp this
    rw [← e]; exact (List.all_eq_true.mp hk2) kv hkv
  rw [hkeys]
  have hrl : (refs ys).length = ys.length := by simp [refs]
  refine wpAny_bind (wpAny_newList ?_ (by rw [sizeLine_eq]; omega))
  have hL : (h1.push (seqObj "list" (refs ys).toArray 0)).get? h1.objs.size = some (seqObj "list" (refs ys).toArray 0) := Heap.get?_push_size _ rfl
  have hK : KeyAt C.prog C.w (h1.push (seqObj "list" (refs ys).toArray 0)) ys := fun y hy => by
    obtain ⟨o', items, m', q1, q2⟩ := hmem y hy
    exact ⟨⟨o', items, m', Heap.get?_push_of_some _ (hk1 _ _ (hg _ _ q1)), q2⟩, hkey2 y hy⟩
  have hna : ∀ y ∈ ys, y.2 ≠ h1.objs.size := fun y hy => by
    obtain ⟨o', items, m', q1, q2⟩ := hmem y hy
    exact Nat.ne_of_lt (Heap.lt_size (hk1 _ _ (hg _ _ q1)))
  refine wpAny_bind (wpAny_holding (wpAny_call_entry slot_list_sort ⟨_, hL, rfl⟩ entry_list_sort (list_sort_keys (s := { s with heap := h1.push (seqObj "list" (refs ys).toArray 0), toks := t1 }) hL hK hna (by rw [hfst]; rw [← hm.keys]; exact hn) (by omega) fun q hq1 hq2 => ⟨_, rfl, ?_⟩) (args_list_sort _)))
  refine wpAny_pure ⟨_, rfl, ?_⟩
  have hLn : ∀ b ob, s.heap.get? b = some ob → b ≠ h1.objs.size := fun b ob e => Nat.ne_of_lt (Heap.lt_size (hk1 _ _ e))
  generalize hH0 : h1.push (seqObj "list" (refs ys).toArray 0) = H0 at hL ⊢
  have kH0 : ∀ b ob, s.heap.get? b = some ob → H0.get? b = some ob := fun b ob e => by rw [← hH0]; exact Heap.get?_push_of_some _ (hk1 _ _ e)
  have x1 := Heap.SameBut.update H0 h1.objs.size (Obj.mapSeq fun _ => (#[] : Array Value))
  have g1 := get?_update_seq hL fun _ => (#[] : Array Value)
  generalize hH1 : ((H0.update h1.objs.size (Obj.mapSeq fun _ => (#[] : Array Value))).push (seqObj "tuple" (refs ys).toArray 0)).push (seqObj "list" #[] 0) = H1
  obtain ⟨e2, g2⟩ : ∃ e2, H1.get? h1.objs.size = some (seqObj "list" #[] e2) := by rw [← hH1]; exact ⟨_, Heap.get?_push_of_some _ (Heap.get?_push_of_some _ g1)⟩
  have kH1 : ∀ b ob, s.heap.get? b = some ob → H1.get? b = some ob := fun b ob e => by
    rw [← hH1]; exact Heap.get?_push_of_some _ (Heap.get?_push_of_some _ ((x1.2 b (hLn b ob e)).trans (kH0 b ob e)))
  have x2 := Heap.SameBut.update H1 h1.objs.size (Obj.mapSeq fun _ => (refs q).toArray)
  have g3 := get?_update_seq g2 fun _ => (refs q).toArray
  have eH : sortedHeap H0 h1.objs.size (refs ys) (refs q).toArray = H1.update h1.objs.size (Obj.mapSeq fun _ => (refs q).toArray) := by
    unfold sortedHeap; rw [hH1]
  show Res C hl as _ s (Value.ref h1.objs.size) { s with heap := sortedHeap H0 h1.objs.size (refs ys) (refs q).toArray, toks := t1 }
  rw [eH]
  have kF : ∀ b ob, s.heap.get? b = some ob → (H1.update h1.objs.size (Obj.mapSeq fun _ => (refs q).toArray)).get? b = some ob := fun b ob e => (x2.2 b (hLn b ob e)).trans (kH1 b ob e)
  refine ⟨⟨_, t1, rfl, kF⟩, ?_⟩
  have sb : Sub (vis s.heap hl) (vis (H1.update h1.objs.size (Obj.mapSeq fun _ => (refs q).toArray)) hl) := vis_mono fun b ob hn e => ⟨kF b ob e, hn⟩
  have hLh : h1.objs.size ∉ hl := fun q => by
    obtain ⟨ob, e⟩ := hf _ q
    exact hLn _ _ e rfl
  refine RSeq.mk _ (refs q) ⟨_, vis_get hLh g3, rfl, _, rfl⟩ ?_
  rw [← hfst, ← hq2]
  refine tups_rep fun y hy => ?_
  obtain ⟨o', items, m', q1, q2⟩ := hmem y (hq1.mem_iff.mp hy)
  exact ⟨o', items, m', sb _ _ q1, q2⟩
set_option maxRecDepth 10000
section
variable {n : Nat} {ρ ρ' ρ1 : List AV} {σ σ1 σ2 σ3 : St} {a b : Int} {x y v : AV} {e t : ME} {es : List ME} {ss sa sb : List MS} {o : Out} {xs : List AV} {c : Bool} {i : Nat}

theorem cmp_b {op : CmpOp} {c' : Bool} (h : CmpR op x y c) (e : c = c') : CmpR op x y c' := e ▸ h
theorem ltT (h : a < b) : CmpR .Lt (.int a) (.int b) true := cmp_b .lt (decide_eq_true h)
theorem ltF (h : b ≤ a) : CmpR .Lt (.int a) (.int b) false := cmp_b .lt (decide_eq_false (Int.not_lt.mpr h))
theorem leT (h : a ≤ b) : CmpR .LtE (.int a) (.int b) true := cmp_b .le (decide_eq_true h)
theorem leF (h : b < a) : CmpR .LtE (.int a) (.int b) false := cmp_b .le (decide_eq_false (Int.not_le.mpr h))
theorem gtT (h : b < a) : CmpR .Gt (.int a) (.int b) true := cmp_b .gt (decide_eq_true h)
theorem gtF (h : a ≤ b) : CmpR .Gt (.int a) (.int b) false := cmp_b .gt (decide_eq_false (Int.not_lt.mpr h))
theorem geT (h : b ≤ a) : CmpR .GtE (.int a) (.int b) true := cmp_b .ge (decide_eq_true h)
theorem geF (h : a < b) : CmpR .GtE (.int a) (.int b) false := cmp_b .ge (decide_eq_false (Int.not_le.mpr h))
theorem eqT (h : a = b) : CmpR .Eq (.int a) (.int b) true := cmp_b (.eq (.cmp .int)) (beq_iff_eq.mpr h)
theorem eqF (h : a ≠ b) : CmpR .Eq (.int a) (.int b) false := cmp_b (.eq (.cmp .int)) (beq_eq_false_iff_ne.mpr h)
theorem neT (h : a ≠ b) : CmpR .NotEq (.int a) (.int b) true := cmp_b (.ne (.cmp .int)) (congrArg not (beq_eq_false_iff_ne.mpr h))
theorem neF (h : a = b) : CmpR .NotEq (.int a) (.int b) false := cmp_b (.ne (.cmp .int)) (congrArg not (beq_iff_eq.mpr h))
theorem inP {ys : List Int} (h : ys.contains a = c) : CmpR .In (.int a) (.tup (ys.map .int)) c := cmp_b .in_ h
theorem ninP {ys : List Int} (h : (!ys.contains a) = c) : CmpR .NotIn (.int a) (.tup (ys.map .int)) c := cmp_b .nin h
theorem trB : TruR (.bool c) c := .bool
theorem get_set {xx : OObj} (h : i < σ.length) : (σ.set i xx)[i]? = some xx := List.getElem?_set_self h

theorem D.if0 (h : D n (.t ρ t σ false σ1)) : D n (.s (.ifs t sa []) ρ σ .next ρ σ1) := .ifs h .snil
theorem D.ifT (h : D n (.t ρ t σ true σ1)) (h2 : D n (.ss sa ρ σ1 o ρ' σ2)) : D n (.s (.ifs t sa sb) ρ σ o ρ' σ2) := .ifs h h2
theorem D.ifF (h : D n (.t ρ t σ false σ1)) (h2 : D n (.ss sb ρ σ1 o ρ' σ2)) : D n (.s (.ifs t sa sb) ρ σ o ρ' σ2) := .ifs h h2
theorem D.itT {e' : ME} (h : D n (.t ρ t σ true σ1)) (h2 : D n (.e ρ e σ1 v σ2)) : D n (.e ρ (.ite t e e') σ v σ2) := .ite h h2
theorem D.itF {e' : ME} (h : D n (.t ρ t σ false σ1)) (h2 : D n (.e ρ e σ1 v σ2)) : D n (.e ρ (.ite t e' e) σ v σ2) := .ite h h2
theorem D.meth {cl : Cls} {fl : List (Atr × AV)} {f : Nat} (h1 : D n (.e ρ e σ (.cur cl i) σ)) (h : σ[i]? = some (.inst cl fl)) (h2 : D n (.es ρ es σ xs σ2)) (h3 : D n (.f f (.cur cl i :: xs) σ2 v σ3)) : D n (.e ρ (.meth cl f e es) σ v σ3) := .methC h1 h h2 h3
end

noncomputable def cu (d : List Nat) (p : Int) : OObj := .inst .cursor [(.data, .bytes d), (.at_, .int p), (.end_, .int d.length)]
section
variable {n : Nat} {σ : St} {i : Nat} {p : Nat} {d w : List Nat}
theorem att_cu {ρ : List AV} {e : ME} {a : Atr} {v : AV} {q : Int} (hi : i < σ.length) (h1 : D n (.e ρ e (σ.set i (cu d q)) (.cur .cursor i) (σ.set i (cu d q)))) (h : List.lookup a [(.data, .bytes d), (.at_, .int q), (.end_, .int d.length)] = some v) : D n (.e ρ (.att e a) (σ.set i (cu d q)) v (σ.set i (cu d q))) := .att h1 (.cur (get_set hi) h)

theorem set_cu {q r : Int} (hi : i < σ.length) : SetaR (σ.set i (cu d q)) .at_ (.int r) (.cur .cursor i) (σ.set i (cu d r)) := by
  have h : SetaR (σ.set i (cu d q)) .at_ (.int r) (.cur .cursor i) ((σ.set i (cu d q)).set i (cu d r)) := .mk (get_set hi) rfl (Nat.le_of_ble_eq_true rfl)
  rwa [List.set_set] at h
theorem D.fnV {f : Nat} {ir : FnIR} {vs ρ ρ' : List AV} {σ σ1 : St} {v : AV} (hp : prog f = some ir) (h1 : Nat.ble ir.params.length (vs.length + ir.dflt.length) = true) (h2 : Nat.ble vs.length ir.params.length = true) (hb : bindA ir vs = ρ) (h : D n (.ss ir.body ρ σ (.ret v) ρ' σ1)) (hf : frozen v = true) (hl : σ1.length = σ.length) : D (n + 1) (.f f vs σ v σ1) := by
  have q : FinR ir.keep σ.length v σ1 v (σ1.take σ.length) := .val hf
  rw [List.take_of_length_le (Nat.le_of_eq hl)] at q
  exact .fn hp (Nat.le_of_ble_eq_true h1) (Nat.le_of_ble_eq_true h2) hb h q
theorem len_set {x y : OObj} : (σ.set i x).length = (σ.set i y).length := by rw [List.length_set, List.length_set]

theorem is_done (hi : i < σ.length) {c : Bool} (h : decide ((d.length : Int) ≤ p) = c) : D (n + 1) (.f 2 [.cur .cursor i] (σ.set i (cu d p)) (.bool c) (σ.set i (cu d p))) := by
  subst h
  exact .fnV (ir := ir2) rfl rfl rfl rfl (.stop (.ret rfl (.cmp (att_cu hi (.loc rfl) rfl) (.cone (att_cu hi (.loc rfl) rfl) .ge))) rfl) rfl rfl
theorem peek (hi : i < σ.length) (hd : d.length ≤ szl) : D (n + 1) (.f 3 [.cur .cursor i] (σ.set i (cu d p)) (.int (match d[p]? with | some c => (c : Int) | none => -1)) (σ.set i (cu d p))) := by
  refine .fnV (ir := ir3) (ρ := [_, .int 0, .undef]) rfl rfl rfl rfl (.next (.asg rfl (.bin (att_cu hi (.loc rfl) rfl) (.loc rfl) .addI)) (.stop (.ret rfl ?_) rfl)) rfl rfl
  cases e : d[p]? with
  | some c => exact .itT (.tcmp (.loc rfl) (.cone (att_cu hi (.loc rfl) rfl) (ltT (Int.ofNat_lt.mpr (get_lt e))))) (.sub (att_cu hi (.loc rfl) rfl) (.loc rfl) (.bytes hd (.pos (Int.add_zero _)) e))
  | none => exact .itF (.tcmp (.loc rfl) (.cone (att_cu hi (.loc rfl) rfl) (ltF (Int.ofNat_le.mpr (List.getElem?_eq_none_iff.mp e))))) .neg
end
noncomputable def wt (s : MS) : ME := match s with | .whl t _ => t | _ => .stuck
noncomputable def wb (s : MS) : List MS := match s with | .whl _ b => b | .for_ _ _ _ b => b | _ => []
noncomputable def nthS (f : FnIR) (k : Nat) : MS := f.body.getD k .stuck
noncomputable def isWh (c : Nat) : Bool := ([0, 9, 10, 12, 13, 32] : List Int).contains c
noncomputable def isDel (c : Nat) : Bool := ([40, 41, 60, 62, 91, 93, 123, 125, 47, 37] : List Int).contains c
noncomputable def isReg (c : Nat) : Bool := !isWh c && !isDel c

section
variable {d w r rest : List Nat} {p c : Nat}
theorem dg (h : d.drop p = c :: r) : d[p]? = some c := by rw [← List.head?_drop, h]; rfl
theorem dn (h : d.drop p = c :: r) : d.drop (p + 1) = r := by rw [← List.drop_drop, h]; rfl
theorem de (h : d.drop p = []) : d.length ≤ p := List.drop_eq_nil_iff.mp h
theorem da (h : d.drop p = w ++ r) : d.drop (p + w.length) = r := by rw [← List.drop_drop, h, List.drop_left]
theorem dlt (h : d.drop p = c :: r) : p < d.length := get_lt (dg h)
theorem app_len : p + (c :: w).length = p + 1 + w.length := (Nat.add_right_comm p w.length 1)
end

section
variable {n : Nat} {σ σ1 σ2 : St} {i p k : Nat} {c : Nat} {d ws w r rest : List Nat} {ρ ρ' : List AV} {s : MS} {e : ME} {o : Out} {v : AV} {b : Bool}
theorem D.one (h : D n (.s s ρ σ o ρ' σ1)) : D n (.ss [s] ρ σ o ρ' σ1) := by
  cases o with
  | next => exact .next h .snil
  | cont => exact .stop h rfl
  | ret v => exact .stop h rfl
theorem D.fnO {f : Nat} {ir : FnIR} {vs : List AV} (hp : prog f = some ir) (h1 : Nat.ble ir.params.length (vs.length + ir.dflt.length) = true) (h2 : Nat.ble vs.length ir.params.length = true) (hb : bindA ir vs = ρ) (h : D n (.ss ir.body ρ σ o ρ' σ1)) (ho : outV o = v) (hf : frozen v = true) (hl : σ1.length = σ.length) : D (n + 1) (.f f vs σ v σ1) := by
  have q : FinR ir.keep σ.length (outV o) σ1 v (σ1.take σ.length) := ho ▸ .val (ho ▸ hf)
  rw [List.take_of_length_le (Nat.le_of_eq hl)] at q
  exact .fn hp (Nat.le_of_ble_eq_true h1) (Nat.le_of_ble_eq_true h2) hb h q
theorem in_wh : CmpR .In (.int c) (glG 0) (isWh c) := .in_ (ys := [0, 9, 10, 12, 13, 32])
theorem nin_wh : CmpR .NotIn (.int c) (glG 0) (!isWh c) := .nin (ys := [0, 9, 10, 12, 13, 32])
theorem nin_del : CmpR .NotIn (.int c) (glG 1) (!isDel c) := .nin (ys := [40, 41, 60, 62, 91, 93, 123, 125, 47, 37])
/-- there is something at the place -/
theorem t_in (hi : i < σ.length) (h : rd ρ k = some (.cur .cursor i)) (hp : p < d.length) : D n (.t ρ (.cmp (.att (.loc k) .at_) [.Lt] [.att (.loc k) .end_]) (σ.set i (cu d p)) true (σ.set i (cu d p))) :=
  .tcmp (att_cu hi (.loc h) rfl) (.cone (att_cu hi (.loc h) rfl) (ltT (Int.ofNat_lt.mpr hp)))
theorem t_out (hi : i < σ.length) (h : rd ρ k = some (.cur .cursor i)) (hp : d.length ≤ p) : D n (.t ρ (.cmp (.att (.loc k) .at_) [.Lt] [.att (.loc k) .end_]) (σ.set i (cu d p)) false (σ.set i (cu d p))) :=
  .tcmp (att_cu hi (.loc h) rfl) (.cone (att_cu hi (.loc h) rfl) (ltF (Int.ofNat_le.mpr hp)))
/-- what is at the place -/
theorem e_here (hi : i < σ.length) (hd : d.length ≤ szl) (h : rd ρ k = some (.cur .cursor i)) (hp : d[p]? = some c) : D n (.e ρ (.sub (.att (.loc k) .data) (.att (.loc k) .at_)) (σ.set i (cu d p)) (.int c) (σ.set i (cu d p))) :=
  .sub (att_cu hi (.loc h) rfl) (att_cu hi (.loc h) rfl) (.bytes hd (.pos rfl) hp)
/-- one step on -/
theorem s_step (hi : i < σ.length) (h : rd ρ k = some (.cur .cursor i)) : D n (.s (.seta (.loc k) .at_ (.bin .Add (.att (.loc k) .at_) (.num 1))) ρ (σ.set i (cu d p)) .next ρ (σ.set i (cu d ((p + 1 : Nat))))) :=
  .seta (.bin (att_cu hi (.loc h) rfl) .num .addI) (.loc h) (set_cu hi)

theorem take (hi : i < σ.length) (hd : d.length ≤ szl) (h : d[p]? = some c) : D (n + 1) (.f 4 [.cur .cursor i] (σ.set i (cu d p)) (.int c) (σ.set i (cu d ((p + 1 : Nat))))) :=
  .fnV (ir := ir4) rfl rfl rfl rfl (.next (.if0 (.tcmp (att_cu hi (.loc rfl) rfl) (.cone (att_cu hi (.loc rfl) rfl) (geF (Int.ofNat_lt.mpr (get_lt h)))))) (.next (.asg rfl (e_here hi hd rfl h)) (.next (s_step hi rfl) (.stop (.ret rfl (.loc rfl)) rfl)))) rfl len_set
theorem is_white : D (n + 1) (.f 10 [.int c] σ (.bool (isWh c)) σ) :=
  .fnV (ir := ir10) rfl rfl rfl rfl (.one (.ret rfl (.cmp (.loc rfl) (.cone (.glb rfl) in_wh)))) rfl rfl
theorem is_regular : D (n + 1) (.f 11 [.int c] σ (.bool (isReg c)) σ) := by
  refine .fnV (ir := ir11) (ρ := [.int c]) rfl rfl rfl rfl (.one (.ret rfl (.bop (.bsgo (.cmp (.loc rfl) (.cone .num (geT (Int.natCast_nonneg c)))) .bool ?_)))) rfl rfl
  unfold isReg
  cases h : isWh c with
  | true => exact .bsstop (.cmp (.loc rfl) (.cone (.glb rfl) (cmp_b nin_wh (congrArg not h)))) .bool
  | false => exact .bsgo (.cmp (.loc rfl) (.cone (.glb rfl) (cmp_b nin_wh (congrArg not h)))) .bool (.bsone (.cmp (.loc rfl) (.cone (.glb rfl) nin_del)))

/-- where white ends -/
noncomputable def stopsW : List Nat → Bool
  | [] => true
  | c :: _ => !isWh c && !Nat.beq c 37
theorem ofNat_ne {a b : Nat} (h : Nat.beq a b = false) : (a : Int) ≠ b := fun e => absurd (Int.ofNat.inj e) (Nat.ne_of_beq_eq_false h)
theorem sw_loop (hi : i < σ.length) (hd : d.length ≤ szl) (hr : stopsW rest = true) (hw : ∀ c ∈ ws, isWh c = true) (x : AV) (h : d.drop p = ws ++ rest) :
    ∃ o y, D n (.wh (wt (nthS ir7 0)) (wb (nthS ir7 0)) [.cur .cursor i, x] (σ.set i (cu d p)) o [.cur .cursor i, y] (σ.set i (cu d ((p + ws.length : Nat))))) ∧ outV o = .none := by
  induction ws generalizing p x with
  | nil =>
    cases rest with
    | nil => exact ⟨_, _, .whdone (t_out hi rfl (de h)), rfl⟩
    | cons c r =>
      exact ⟨_, _, .whret (t_in hi rfl (dlt h)) (.next (.asg rfl (e_here hi hd rfl (dg h))) (.one (.ifF (.tcmp (.loc rfl) (.cone (.glb rfl) (eqF (ofNat_ne (b := 37) (not_f (and_r hr)))))) (.one (.ifF (.tcmp (.loc rfl) (.cone (.glb rfl) (cmp_b in_wh (not_f (and_l hr))))) (.one .retN)))))), rfl⟩
  | cons w ws ih =>
    obtain ⟨o, y, k1, k2⟩ := ih (fun c hc => hw c (.tail _ hc)) (.int w) (dn h)
    rw [← app_len] at k1
    have hww := hw w (.head _)
    exact ⟨o, y, .whgo (t_in hi rfl (dlt h)) (.next (.asg rfl (e_here hi hd rfl (dg h))) (.one (.ifF (.tcmp (.loc rfl) (.cone (.glb rfl) (eqF fun e => by
      cases Int.ofNat.inj (e : (w : Int) = (37 : Nat)); cases hww))) (.one (.ifT (.tcmp (.loc rfl) (.cone (.glb rfl) (cmp_b in_wh hww))) (.one (s_step hi rfl))))))) rfl k1, k2⟩
theorem skip_white (hi : i < σ.length) (hd : d.length ≤ szl) (hr : stopsW rest = true) (h : d.drop p = ws ++ rest) (hw : ∀ c ∈ ws, isWh c = true) : D (n + 1) (.f 7 [.cur .cursor i] (σ.set i (cu d p)) .none (σ.set i (cu d ((p + ws.length : Nat))))) :=
  let ⟨_, _, k1, k2⟩ := sw_loop hi hd hr hw .undef h
  .fnO (ir := ir7) rfl rfl rfl rfl (.one (.whl k1)) k2 rfl len_set

noncomputable def stopsR : List Nat → Bool
  | [] => true
  | c :: _ => !isReg c
theorem t_reg (hi : i < σ.length) (hd : d.length ≤ szl) (h : rd ρ k = some (.cur .cursor i)) (hp : d[p]? = some c) (hb : isReg c = b) : D (n + 1) (.t ρ (.call 11 [.sub (.att (.loc k) .data) (.att (.loc k) .at_)]) (σ.set i (cu d p)) b (σ.set i (cu d p))) :=
  .tgen (x := .bool b) rfl (.call (.cons (e_here hi hd h hp) .nil) (hb ▸ is_regular)) .bool
theorem tr_loop (hi : i < σ.length) (hd : d.length ≤ szl) (hr : stopsR rest = true) (hw : ∀ c ∈ ws, isReg c = true) {x : AV} (h : d.drop p = ws ++ rest) :
    D (n + 1) (.wh (wt (nthS ir8 1)) (wb (nthS ir8 1)) [.cur .cursor i, x] (σ.set i (cu d p)) .next [.cur .cursor i, x] (σ.set i (cu d ((p + ws.length : Nat))))) := by
  induction ws generalizing p with
  | nil =>
    cases rest with
    | nil => exact .whdone (.tbop (.tbstop (t_out hi rfl (de h))))
    | cons c r => exact .whdone (.tbop (.tbgo (t_in hi rfl (dlt h)) (.tbstop (t_reg hi hd rfl (dg h) (not_f hr)))))
  | cons w ws ih =>
    have q := ih (fun c hc => hw c (.tail _ hc)) (dn h)
    rw [← app_len] at q
    exact .whgo (.tbop (.tbgo (t_in hi rfl (dlt h)) (.tbgo (t_reg hi hd rfl (dg h) (hw w (.head _))) .tbnil))) (.one (s_step hi rfl)) rfl q
theorem clip_nat {m p : Nat} (h : p ≤ m) : clipAt m (p : Int) = p := by
  unfold clipAt
  rw [if_neg (Int.not_lt.mpr (Int.natCast_nonneg p)), Int.min_eq_left (Int.ofNat_le.mpr h), Int.max_eq_right (Int.natCast_nonneg p)]; exact Int.toNat_natCast p
theorem cut_nat {α : Type} {l : List α} {a b : Nat} (h : a ≤ b) (hb : b ≤ l.length) : cutL l (some (a : Int)) (some (b : Int)) = (l.drop a).take (b - a) := by
  show (l.drop (clipAt l.length a)).take (clipAt l.length b - clipAt l.length a) = _
  rw [clip_nat hb, clip_nat (Nat.le_trans h hb)]
theorem da_le (h : d.drop p = w ++ r) (hp : p ≤ d.length) : p + w.length ≤ d.length := by
  rcases Nat.lt_or_ge d.length (p + w.length) with q | q
  · have := congrArg List.length h
    rw [List.length_drop, List.length_append] at this
    exact absurd (Nat.le_trans (Nat.le_add_right w.length r.length) (Nat.le_of_eq this.symm)) (Nat.not_le.mpr (Nat.sub_lt_left_of_lt_add hp q))
  · exact q
theorem cut_here (h : d.drop p = w ++ r) (hp : p ≤ d.length) : cutL d (some (p : Int)) (some ((p + w.length : Nat) : Int)) = w := by
  rw [cut_nat (Nat.le_add_right _ _) (da_le h hp), h, Nat.add_sub_cancel_left, List.take_left]
theorem slc_b {xs ys : List Nat} {l u : Option Int} (h : xs.length ≤ szl) (e : cutL xs l u = ys) : SlcR (.bytes xs) l u (.bytes ys) := e ▸ .bytes h
theorem take_regular (hi : i < σ.length) (hd : d.length ≤ szl) (hr : stopsR rest = true) (h : d.drop p = ws ++ rest) (hw : ∀ c ∈ ws, isReg c = true) (hp : p ≤ d.length) : D (n + 2) (.f 8 [.cur .cursor i] (σ.set i (cu d p)) (.bytes ws) (σ.set i (cu d ((p + ws.length : Nat))))) :=
  .fnV (ir := ir8) (ρ := [.cur .cursor i, .undef]) rfl rfl rfl rfl (.next (.asg rfl (att_cu hi (.loc rfl) rfl)) (.next (.whl (tr_loop hi hd hr hw h)) (.one (.ret rfl (.slc (att_cu hi (.loc rfl) rfl) (.osome (.loc rfl)) (.osome (att_cu hi (.loc rfl) rfl)) (slc_b hd (cut_here h hp))))))) rfl len_set
end
theorem le_szl {k : Nat} (h : Nat.ble k 100000 = true) : k ≤ szl := Nat.le_trans (Nat.le_of_ble_eq_true h) (by unfold szl; decide)
noncomputable def isDig (c : Nat) : Bool := Nat.ble 48 c && Nat.ble c 57
section
variable {n : Nat} {σ σ1 σ2 : St} {i p k : Nat} {c : Nat} {d ws w r rest : List Nat} {ρ ρ' : List AV} {s : MS} {e : ME} {o : Out} {v : AV} {b : Bool}
theorem ile {a b : Nat} (h : Nat.ble a b = true) : (a : Int) ≤ b := Int.ofNat_le.mpr (Nat.le_of_ble_eq_true h)
theorem ilt {a b : Nat} (h : Nat.ble a b = false) : (b : Int) < a := Int.ofNat_lt.mpr (Nat.lt_of_not_le fun q => by rw [Nat.ble_eq_true_of_le q] at h; cases h)
/-- lo <= c <= hi -/
theorem c_btw {lo hi : Nat} {f : ME} (h1 : rd ρ k = some (.int c)) (h2 : D n (.e ρ f σ (.int hi) σ)) (hb : (Nat.ble lo c && Nat.ble c hi) = b) : D n (.c ρ (.int lo) [.LtE, .LtE] [.loc k, f] σ b σ) := by
  subst hb
  cases e1 : Nat.ble lo c with
  | false => exact .cstop (.loc h1) (leF (ilt e1))
  | true =>
    refine .cgo (.loc h1) (leT (ile e1)) (.cone h2 ?_)
    cases e2 : Nat.ble c hi with
    | false => exact leF (ilt e2)
    | true => exact leT (ile e2)
theorem cut_all {α : Type} {l : List α} : cutL l (some 0) none = l := by
  show (l.drop (clipAt l.length ((0 : Nat) : Int))).take (l.length - clipAt l.length ((0 : Nat) : Int)) = _
  rw [clip_nat (Nat.zero_le _)]; exact List.take_length
theorem ne_nat {a b : Nat} (h : a ≠ b) : (a : Int) ≠ b := fun e => h (Int.ofNat.inj e)
theorem eqN {a b : Nat} (h : a ≠ b) : CmpR .Eq (.int a) (.int b) false := eqF (ne_nat h)

theorem fst_b (hl : (c :: r).length ≤ szl) (h : rd ρ k = some (.bytes (c :: r))) : D n (.e ρ (.sub (.loc k) (.num 0)) σ (.int c) σ) := .sub (.loc h) .num (.bytes hl (.pos (j := 0) rfl) rfl)
/-- the first lines of read_decimal -/
theorem rd_pre (hl : (c :: r).length ≤ szl) (h1 : c ≠ 43) (h2 : c ≠ 45) (h : D n (.ss (ir15.body.drop 5) [.bytes (c :: r), .int 0, .int 0, .int 0, .int (-1), .undef] σ o ρ σ1)) : D n (.ss ir15.body [.bytes (c :: r), .undef, .undef, .undef, .undef, .undef] σ o ρ σ1) :=
  .next (.asg rfl .num) (.next (.if0 (.tbop (.tbgo (.tcmp (.bi (.cons (.loc rfl) .nil) (.lenB hl)) (.cone .num (gtT (Int.natCast_pos.mpr (Nat.succ_pos _)))))
    (.tbstop (.tbop (.tbgo (.tcmp (fst_b hl rfl) (.cone (.glb rfl) (eqN (b := 43) h1))) (.tbgo (.tcmp (fst_b hl rfl) (.cone (.glb rfl) (eqN (b := 45) h2))) .tbnil)))))))
    (.next (.asg rfl .num) (.next (.asg rfl .num) (.next (.asg rfl .neg) h))))
theorem rd_for (hl : (c :: r).length ≤ szl) {v1 v2 v3 v4 : AV} (h : D n (.fo [5] (wb (nthS ir15 5)) ((c :: r).map fun (c : Nat) => .int c) [.bytes (c :: r), .int 0, v2, v3, v4, v1] σ o ρ σ1)) : D n (.s (nthS ir15 5) [.bytes (c :: r), .int 0, v2, v3, v4, v1] σ o ρ σ1) :=
  .for_ (.slc (.loc rfl) (.osome (.loc rfl)) .onil (slc_b hl cut_all)) .bytes (by rw [List.length_map]; exact hl) h
theorem dig_turn {x1 x2 x3 : AV} {a : ME} {b' : MS} {sa sb : List MS} (h : c ≠ 46) (hb : isDig c = k.beq 1) (h2 : D n (.ss (cond (k.beq 1) sa sb) [x1, x2, x3, v, .int (-1), .int c] σ o ρ σ1)) : D n (.ss [.ifs (.bop true [.cmp (.loc 5) [.Eq] [.glb 7], a]) [b'] [.ifs (.cmp (.glb 8) [.LtE, .LtE] [.loc 5, .bin .Add (.glb 8) (.num 9)]) sa sb]] [x1, x2, x3, v, .int (-1), .int c] σ o ρ σ1) :=
  .one (.ifF (.tbop (.tbstop (.tcmp (.loc rfl) (.cone (.glb rfl) (eqN (b := 46) h))))) (.one (.ifs (.tcmp (.glb rfl) (c_btw (lo := 48) (hi := 57) rfl (.bin (.glb rfl) .num .addI) hb)) h2)))
/-- a run that begins with a letter is no number -/
theorem rd_word (hc : isDig c = false) (h1 : c ≠ 43) (h2 : c ≠ 45) (h3 : c ≠ 46) (hl : (c :: r).length ≤ szl) : D (n + 1) (.f 15 [.bytes (c :: r)] σ .none σ) :=
  .fnV (ir := ir15) rfl rfl rfl rfl (rd_pre hl h1 h2 (.stop (rd_for hl (.foret .one (dig_turn (k := 0) h3 hc (.one .retN)))) rfl)) rfl rfl
theorem dig_ne {k : Nat} (h : isDig c = true) (hk : isDig k = false) : c ≠ k := fun e => by rw [e, hk] at h; cases h
theorem dig_loop {b : AV} (h : ∀ c ∈ w, isDig c = true) (t : Int) (m : Nat) (x : AV) : ∃ t' y, D n (.fo [5] (wb (nthS ir15 5)) (w.map fun (c : Nat) => .int c) [b, .int 0, .int t, .int m, .int (-1), x] σ .next [b, .int 0, .int t', .int ((m + w.length : Nat) : Int), .int (-1), y] σ) := by
  induction w generalizing t m x with
  | nil => exact ⟨t, x, .fonil⟩
  | cons c w ih =>
    have hc := h c (.head _)
    obtain ⟨t', y, k⟩ := ih (fun c hc => h c (.tail _ hc)) (10 * t + c - 48) (m + 1) (.int c)
    rw [← app_len] at k
    exact ⟨t', y, .fogo .one (dig_turn (k := 1) (dig_ne hc rfl) hc (.next (.asg rfl (.bin (.bin (.bin .num (.loc rfl) (.mul (.inl rfl))) (.loc rfl) .addI) (.glb rfl) .sub)) (.next (.asg rfl (.bin (.loc rfl) .num .addI)) (.one (.if0 (.tcmp (.loc rfl) (.cone .num (geF (Int.negSucc_lt_zero 0))))))))) rfl k⟩
theorem rd_int (h0 : w ≠ []) (h : ∀ c ∈ w, isDig c = true) (hl : Nat.ble w.length 40 = true) : ∃ m, D (n + 1) (.f 15 [.bytes w] σ (.int m) σ) := by
  obtain ⟨c, r, rfl⟩ := List.exists_cons_of_ne_nil h0
  have hc := h c (.head _)
  have hl' : (c :: r).length ≤ szl := Nat.le_trans (Nat.le_of_ble_eq_true hl) (le_szl rfl)
  obtain ⟨t, y, k⟩ := dig_loop (n := n) (σ := σ) (b := .bytes (c :: r)) h 0 0 .undef
  rw [Nat.zero_add] at k
  exact ⟨t, .fnV (ir := ir15) rfl rfl rfl rfl (rd_pre hl' (dig_ne hc rfl) (dig_ne hc rfl) (.next (rd_for hl' k) (.next (.if0 (.tbop (.tbgo (.tcmp (.loc rfl) (.cone .num (eqN (b := 0) (Nat.succ_ne_zero _)))) (.tbgo (.tcmp (.loc rfl) (.cone (.glb rfl) (gtF (ile (b := 40) hl)))) .tbnil))))
    (.next (.if0 (.tcmp (fst_b hl' rfl) (.cone (.glb rfl) (eqN (b := 45) (dig_ne hc rfl))))) (.one (.ret rfl (.itT (.tcmp (.loc rfl) (.cone .num (ltT (Int.negSucc_lt_zero 0)))) (.loc rfl)))))))) rfl rfl⟩

theorem meth0 {f : Nat} (hi : i < σ.length) {q : Int} (h : rd ρ k = some (.cur .cursor i)) (h3 : D n (.f f [.cur .cursor i] (σ.set i (cu d q)) v σ2)) : D n (.e ρ (.meth .cursor f (.loc k) []) (σ.set i (cu d q)) v σ2) := .meth (.loc h) (get_set hi) .nil h3
theorem run_word (hi : i < σ.length) (hd : d.length ≤ szl) (h : d.drop p = (c :: r) ++ rest) (hr : stopsR rest = true) (hw : ∀ x ∈ c :: r, isReg x = true) (hc : isDig c = false) (h1 : c ≠ 43) (h2 : c ≠ 45) (h3 : c ≠ 46) (hp : p ≤ d.length) (at_ : Int) :
    D (n + 3) (.f 16 [.cur .cursor i, .int at_] (σ.set i (cu d p)) (.tup [.str [119, 111, 114, 100], .bytes (c :: r), .int at_]) (σ.set i (cu d ((p + (c :: r).length : Nat))))) := by
  have hl : (c :: r).length ≤ szl := Nat.le_trans (Nat.le_trans (Nat.le_add_left _ p) (da_le h hp)) hd
  exact .fnV (ir := ir16) (ρ := [.cur .cursor i, .int at_, .undef, .undef]) rfl rfl rfl rfl (.next (.asg rfl (meth0 hi rfl (take_regular hi hd hr h hw hp))) (.next (.asg rfl (.call (.cons (.loc rfl) .nil) (rd_word hc h1 h2 h3 hl)))
    (.stop (.ifT (.tcmp (.loc rfl) (.cone .non .isN)) (.one (.ret rfl (.tup (.cons .str (.cons (.loc rfl) (.cons (.loc rfl) .nil))) (.same rfl) (le_szl rfl))))) rfl))) rfl len_set
theorem dig_reg (h : isDig c = true) : isReg c = true := (by decide : ∀ c, c < 58 → isDig c = true → isReg c = true) c (Nat.lt_succ_of_le (Nat.le_of_ble_eq_true (and_r h))) h
theorem run_int (hi : i < σ.length) (hd : d.length ≤ szl) (h : d.drop p = w ++ rest) (hr : stopsR rest = true) (hw : ∀ x ∈ w, isDig x = true) (hn : w ≠ []) (hl : Nat.ble w.length 40 = true) (hp : p ≤ d.length) (at_ : Int) :
    ∃ m, D (n + 3) (.f 16 [.cur .cursor i, .int at_] (σ.set i (cu d p)) (.tup [.str [105, 110, 116], .int m, .int at_]) (σ.set i (cu d ((p + w.length : Nat))))) := by
  obtain ⟨m, k⟩ := rd_int (n := n + 1) (σ := σ.set i (cu d ((p + w.length : Nat)))) hn hw hl
  exact ⟨m, .fnV (ir := ir16) (ρ := [.cur .cursor i, .int at_, .undef, .undef]) rfl rfl rfl rfl (.next (.asg rfl (meth0 hi rfl (take_regular hi hd hr h (fun x hx => dig_reg (hw x hx)) hp))) (.next (.asg rfl (.call (.cons (.loc rfl) .nil) k))
    (.next (.if0 (.tcmp (.loc rfl) (.cone .non .isI))) (.stop (.ifT (.tgen rfl (.isint (.loc rfl)) .bool) (.one (.ret rfl (.tup (.cons .str (.cons (.loc rfl) (.cons (.loc rfl) .nil))) (.same rfl) (le_szl rfl))))) rfl)))) rfl len_set⟩
end
/-- a store with the cursor at p -/
noncomputable def C (σ : St) (i : Nat) (d : List Nat) (p : Nat) : St := σ.set i (cu d p)
section
variable {n : Nat} {σ σ1 σ2 τ τ' : St} {i j p k m : Nat} {c z : Nat} {d ws w r rest : List Nat} {ρ ρ' : List AV} {s : MS} {e e' : ME} {o : Out} {u v x : AV} {b : Bool} {X Y : OObj} {xs ys : List AV} {cap : List AV} {elt : ME}

theorem C_len : (C σ i d p).length = σ.length := List.length_set
theorem C_lens {q : Nat} : (C σ i d p).length = (C σ i d q).length := C_len.trans C_len.symm
theorem C_app (h : i < σ.length) {l : St} : C σ i d p ++ l = C (σ ++ l) i d p := (List.set_append_left _ _ h).symm
theorem lt_app (h : i < σ.length) {l : St} : i < (σ ++ l).length := Nat.lt_of_lt_of_le h (by rw [List.length_append]; exact Nat.le_add_right _ _)
theorem C_get (h : j ≠ i) : (C σ i d p)[j]? = σ[j]? := List.getElem?_set_ne h.symm
theorem C_set (h : j ≠ i) : (C σ i d p).set j Y = C (σ.set j Y) i d p := List.set_comm _ _ h.symm
theorem C_take (h : i < σ.length) {l : St} : (C (σ ++ l) i d p).take σ.length = C σ i d p := by rw [← C_app h, List.take_left' C_len]
theorem own_get {l : St} : (σ ++ X :: l)[σ.length]? = some X := by rw [List.getElem?_append_right (Nat.le_refl _), Nat.sub_self]; rfl
theorem own_set : (σ ++ [X]).set σ.length Y = σ ++ [Y] := by rw [List.set_append_right _ _ (Nat.le_refl _), Nat.sub_self]; rfl
theorem own_take : (σ ++ [X]).take σ.length = σ := List.take_left' rfl
theorem C_own (h : i < σ.length) {l : St} : (C (σ ++ X :: l) i d p)[σ.length]? = some X := (C_get (Nat.ne_of_gt h)).trans own_get
theorem C_oset (h : i < σ.length) : (C (σ ++ [X]) i d p).set σ.length Y = C (σ ++ [Y]) i d p := by rw [C_set (Nat.ne_of_gt h), own_set]

theorem dr_own (h : σ[j]? = some (.list xs)) : dr σ (.own j) = .list xs := congrArg drO h
/-- ends -/
theorem D.fnT {f : Nat} {ir : FnIR} {vs : List AV} (hp : prog f = some ir) (h1 : Nat.ble ir.params.length (vs.length + ir.dflt.length) = true) (h2 : Nat.ble vs.length ir.params.length = true) (hb : bindA ir vs = ρ) (h : D n (.ss ir.body ρ σ (.ret v) ρ' σ1)) (hf : frozen v = true) (hl : σ1.take σ.length = σ2) : D (n + 1) (.f f vs σ v σ2) :=
  .fn hp (Nat.le_of_ble_eq_true h1) (Nat.le_of_ble_eq_true h2) hb h (hl ▸ .val hf)
theorem D.fnL {f : Nat} {ir : FnIR} {vs : List AV} (hp : prog f = some ir) (h1 : Nat.ble ir.params.length (vs.length + ir.dflt.length) = true) (h2 : Nat.ble vs.length ir.params.length = true) (hb : bindA ir vs = ρ) (h : D n (.ss ir.body ρ σ (.ret (.own j)) ρ' σ1)) (hk : ir.keep = false) (hj : σ1[j]? = some (.list xs)) (hle : σ.length ≤ j) (hl : σ1.take σ.length = σ2) : D (n + 1) (.f f vs σ (.list xs) σ2) :=
  .fn hp (Nat.le_of_ble_eq_true h1) (Nat.le_of_ble_eq_true h2) hb h (hk ▸ hl ▸ .list hj hle)
/-- owned lists -/
theorem D.app (h : rd ρ k = some (.own j)) (hj : τ[j]? = some (.list xs)) (ha : D n (.e ρ e τ x τ)) (hf : frozen x = true) (hl : xs.length < szl) (e' : τ.set j (.list (xs ++ [x])) = τ') : D n (.s (.exp (.lm .append (.loc k) [e])) ρ τ .next ρ τ') :=
  .exp (.lmA (.loc h) (.append hj) (.cons ha .nil) (e' ▸ .append hj hf hl))
theorem D.lenO (h : rd ρ k = some (.own j)) (hj : τ[j]? = some (.list xs)) (hl : xs.length ≤ szl) : D n (.e ρ (.bi .len [.loc k]) τ (.int xs.length) τ) :=
  .bi (.cons (.loc h) .nil) (by rw [List.map_cons, dr_own hj]; exact .lenL hl)
theorem D.subO (h : rd ρ k = some (.own j)) (hj : τ[j]? = some (.list xs)) (hl : xs.length ≤ szl) (he : D n (.e ρ e τ (.int z) τ)) (hx : xs[z]? = some x) : D n (.e ρ (.sub (.loc k) e) τ x τ) :=
  .sub (.loc h) he (by rw [dr_own hj]; exact .list hl (.pos rfl) hx)
theorem joinT_nil {r : List (List Nat)} : joinT [] r = r.flatten := by
  induction r with
  | nil => rfl
  | cons x r ih =>
    cases r with
    | nil => exact (List.append_nil x).symm
    | cons y r => exact (congrArg (x ++ [] ++ ·) ih).trans (by rw [List.append_nil]; rfl)
theorem D.joinO {ss : List (List Nat)} (h : rd ρ k = some (.own j)) (hj : τ[j]? = some (.list (ss.map .str))) (hl : ss.flatten.length ≤ szl) : D n (.e ρ (.lm .join (.str []) [.loc k]) τ (.str ss.flatten) τ) :=
  .lmS .str (.cons (.loc h) .nil) (by
    rw [List.map_cons, dr_own hj, ← joinT_nil]
    exact .join (by rw [← List.length_flatten]; exact hl))
theorem newl_C (hi : i < σ.length) : D n (.e ρ (.newl []) (C σ i d p) (.own σ.length) (C (σ ++ [.list []]) i d p)) := by
  have q : D n (.e ρ (.newl []) (C σ i d p) (.own (C σ i d p).length) (C σ i d p ++ [.list []])) := .newl .nil rfl (Nat.zero_le _)
  rwa [C_len, C_app hi] at q
theorem app_C (h : rd ρ k = some (.own σ.length)) (hi : i < σ.length) (ha : D n (.e ρ e (C (σ ++ [.list xs]) i d p) x (C (σ ++ [.list xs]) i d p))) (hf : frozen x = true) (hl : xs.length < szl) : D n (.s (.exp (.lm .append (.loc k) [e])) ρ (C (σ ++ [.list xs]) i d p) .next ρ (C (σ ++ [.list (xs ++ [x])]) i d p)) := .app h (C_own hi) ha hf hl (C_oset hi)
theorem app_O (h : rd ρ k = some (.own σ.length)) (ha : D n (.e ρ e (σ ++ [.list xs]) x (σ ++ [.list xs]))) (hf : frozen x = true) (hl : xs.length < szl) : D n (.s (.exp (.lm .append (.loc k) [e])) ρ (σ ++ [.list xs]) .next ρ (σ ++ [.list (xs ++ [x])])) := .app h own_get ha hf hl own_set
/-- the items of a comprehension, one for one -/
theorem cl_ix (hl : xs.length = ys.length) (h : ∀ (j : Nat) (x y : AV), xs[j]? = some x → ys[j]? = some y → D n (.e (x :: cap) elt τ y τ)) : D n (.cl elt [] 1 cap xs τ ys τ) := by
  induction xs generalizing ys with
  | nil => cases ys with
    | nil => exact .clnil
    | cons y ys => cases hl
  | cons x xs ih => cases ys with
    | nil => cases hl
    | cons y ys => exact .clyes .one .tsnil (h 0 x y rfl rfl) (ih (Nat.succ.inj hl) fun j => h (j + 1))
theorem rng_len {b c m : Nat} (hc : 0 < c) (h : m * c = b) : rngLen 0 b c = m := by
  subst h
  unfold rngLen
  cases m with
  | zero => rw [if_neg]; rw [Nat.zero_mul]; exact fun q => absurd q.2 (Int.lt_irrefl _)
  | succ m =>
    rw [if_pos ⟨Int.ofNat_lt.mpr hc, Int.ofNat_lt.mpr (Nat.mul_pos (Nat.succ_pos _) hc)⟩]
    have e : (((m + 1) * c : Nat) : Int) - 0 + c - 1 = ((c - 1 + (m + 1) * c : Nat) : Int) := by omega
    rw [e, ← Int.natCast_ediv, Int.toNat_natCast, Nat.add_mul_div_right _ _ hc, Nat.div_eq_of_lt (Nat.sub_lt hc Nat.one_pos), Nat.zero_add]
theorem it_rng {b c m : Nat} (hc : 0 < c) (h : m * c = b) (hb : b < 1000000000) (h2 : c < 1000) : ItR (.rng 0 b c) ((List.range m).map fun (i : Nat) => .int ((i * c : Nat) : Int)) := by
  have q : ItR (.rng 0 b c) _ := .rng rfl (decide_eq_true (Nat.lt_trans hb (by decide))) ⟨Int.ofNat_lt.mpr hc, Int.lt_trans (Int.ofNat_lt.mpr h2) (by decide)⟩
  rw [rng_len hc h] at q
  rwa [show (fun (i : Nat) => AV.int (0 + i * c)) = fun (i : Nat) => .int ((i * c : Nat) : Int) from funext fun i => congrArg _ (Int.zero_add _)] at q

/-! name_text -/
theorem e_len (h : rd ρ k = some (.bytes w)) (hl : w.length ≤ szl) : D n (.e ρ (.bi .len [.loc k]) σ (.int w.length) σ) := .bi (.cons (.loc h) .nil) (.lenB hl)
theorem mid_get {pre : List Nat} : (pre ++ c :: r)[pre.length]? = some c := by rw [List.getElem?_append_right (Nat.le_refl _), Nat.sub_self]; rfl
theorem mid_lt {pre : List Nat} : pre.length < (pre ++ c :: r).length := get_lt mid_get
theorem nm_loop {a x4 x5 x6 : AV} {pre : List Nat} (hw : ∀ c ∈ r, c ≠ 35 ∧ c ≠ 0 ∧ c < 1114112) (hl : (pre ++ r).length < szl) :
    ∃ y4 y5 y6, D n (.wh (wt (nthS ir13 2)) (wb (nthS ir13 2)) [.bytes (pre ++ r), a, .own σ.length, .int pre.length, x4, x5, x6] (σ ++ [.list (pre.map fun c => .str [c])]) .next [.bytes (pre ++ r), a, .own σ.length, .int (pre ++ r).length, y4, y5, y6] (σ ++ [.list ((pre ++ r).map fun c => .str [c])])) := by
  induction r generalizing pre x4 with
  | nil =>
    rw [List.append_nil] at hl ⊢
    exact ⟨x4, x5, x6, .whdone (.tcmp (.loc rfl) (.cone (e_len rfl (Nat.le_of_lt hl)) (ltF (Int.le_refl _))))⟩
  | cons c r ih =>
    have e : pre ++ c :: r = (pre ++ [c]) ++ r := (List.append_assoc pre [c] r).symm
    obtain ⟨y4, y5, y6, k⟩ := ih (pre := pre ++ [c]) (x4 := .int c) (fun c hc => hw c (.tail _ hc)) (e ▸ hl)
    rw [← e, List.length_append, List.map_append] at k
    have hc := hw c (.head _)
    exact ⟨y4, y5, y6, .whgo (.tcmp (.loc rfl) (.cone (e_len rfl (Nat.le_of_lt hl)) (ltT (Int.ofNat_lt.mpr mid_lt))))
      (.next (.asg rfl (.sub (.loc rfl) (.loc rfl) (.bytes (Nat.le_of_lt hl) (.pos rfl) mid_get))) (.next (.asg rfl (.bin (.loc rfl) .num .addI))
        (.next (.if0 (.tbop (.tbstop (.tcmp (.loc rfl) (.cone (.glb rfl) (eqN (b := 35) hc.1)))))) (.next (.if0 (.tcmp (.loc rfl) (.cone .num (eqN (b := 0) hc.2.1))))
          (.one (app_O rfl (.bi (.cons (.loc rfl) .nil) (.chr hc.2.2)) rfl (by rw [List.length_map]; exact Nat.lt_trans mid_lt hl))))))) rfl k⟩
theorem ones_flat : (w.map fun c => [c]).flatten = w := by
  induction w with
  | nil => rfl
  | cons c w ih => exact congrArg (c :: ·) ih
theorem name_text (a : AV) (hw : ∀ c ∈ w, c ≠ 35 ∧ c ≠ 0 ∧ c < 1114112) (hl : w.length < szl) : D (n + 1) (.f 13 [.bytes w, a] σ (.str w) σ) := by
  obtain ⟨y4, y5, y6, k⟩ := nm_loop (n := n) (σ := σ) (a := a) (x4 := .undef) (x5 := .undef) (x6 := .undef) (pre := []) hw hl
  have q := D.joinO (n := n) (ρ := [.bytes w, a, .own σ.length, .int w.length, y4, y5, y6]) (k := 2) (ss := w.map fun c => [c]) rfl (by rw [List.map_map]; exact own_get (l := [])) (by rw [ones_flat]; exact Nat.le_of_lt hl)
  rw [ones_flat] at q
  exact .fnT (ir := ir13) rfl rfl rfl rfl (.next (.asg rfl (.newl .nil rfl (Nat.zero_le _))) (.next (.asg rfl .num) (.next (.whl k) (.one (.ret rfl q))))) rfl own_take
end
noncomputable def hexD (k : Nat) : Nat := cond (Nat.ble 10 k) (55 + k) (48 + k)
noncomputable def dg2 (b : Nat) (w : List Nat) : List Nat := w.flatMap fun o => [o / b, o % b]
noncomputable def hexT (w : List Nat) : List Nat := 60 :: ((dg2 16 w).map hexD ++ [62])
section
variable {n : Nat} {σ σ1 σ2 τ τ' : St} {i j p k m : Nat} {c z : Nat} {d ws w r rest : List Nat} {ρ ρ' : List AV} {s : MS} {e e' : ME} {o : Out} {u v x : AV} {b : Bool}
theorem halves_len {b : Nat} : (dg2 b w).length = w.length * 2 := by
  induction w with
  | nil => rfl
  | cons o w ih => exact (congrArg (· + 2) ih).trans (Nat.succ_mul _ _).symm
theorem halves_get {b j : Nat} (h : w[j]? = some c) : (dg2 b w)[j * 2]? = some (c / b) ∧ (dg2 b w)[j * 2 + 1]? = some (c % b) := by
  induction w generalizing j with
  | nil => cases h
  | cons o w ih =>
    cases j with
    | zero => cases h; exact ⟨rfl, rfl⟩
    | succ j =>
      rw [Nat.succ_mul]
      exact ih h
theorem halves_lt (hw : ∀ o ∈ w, o < 256) : ∀ k ∈ dg2 16 w, k < 16 := fun k hk => by
  obtain ⟨o, ho, hk⟩ := List.mem_flatMap.mp hk
  cases hk with
  | head => exact Nat.div_lt_of_lt_mul (hw o ho)
  | tail _ hk => cases hk with
    | head => exact Nat.mod_lt _ (by decide)
    | tail _ hk => cases hk
theorem modN {a b : Nat} (hb : (b : Int) ≠ 0) : BinR .Mod (.int a) (.int b) (.int ((a % b : Nat) : Int)) := by
  have q : BinR .Mod (.int a) (.int b) _ := .mod hb
  rwa [← Int.ofNat_fmod] at q
theorem subN {a b c : Nat} (h : c + b = a) : BinR .Sub (.int a) (.int b) (.int c) := by
  subst h
  have q : BinR .Sub (.int (c + b)) (.int b) (.int (c + b - b)) := .sub
  rw [Int.add_sub_cancel] at q
  exact q
theorem hexD_62 : ∀ k, k < 16 → hexD k ≠ 62 ∧ hexD k ≠ 60 ∧ (Nat.ble 48 (hexD k) && Nat.ble (hexD k) 57) = !Nat.ble 10 k ∧ (Nat.ble 65 (hexD k) && Nat.ble (hexD k) 70) = Nat.ble 10 k := by decide
theorem hex_worth (hk : k < 16) : D (n + 1) (.f 12 [.int (hexD k)] σ (.int k) σ) := by
  obtain ⟨-, -, h1, h2⟩ := hexD_62 k hk
  refine .fnV (ir := ir12) (ρ := [.int (hexD k)]) (ρ' := [.int (hexD k)]) rfl rfl rfl rfl ?_ rfl rfl
  cases hb : Nat.ble 10 k with
  | false =>
    rw [hb] at h1
    refine .stop (.ifT (.tcmp .num (c_btw (lo := 48) (hi := 57) rfl .num h1)) (.one (.ret rfl (.bin (.loc rfl) .num (subN (b := 48) ?_))))) rfl
    rw [hexD, hb]; exact Nat.add_comm _ _
  | true =>
    rw [hb] at h1 h2
    refine .next (.if0 (.tcmp .num (c_btw (lo := 48) (hi := 57) rfl .num h1))) (.stop (.ifT (.tcmp .num (c_btw (lo := 65) (hi := 70) rfl .num h2)) (.one (.ret rfl (.bin (.loc rfl) .num (subN (b := 55) ?_))))) rfl)
    rw [hexD, hb]; exact Nat.add_comm _ _
noncomputable def il (w : List Nat) : OObj := .list (w.map fun (c : Nat) => .int c)
theorem il_len : (w.map fun (c : Nat) => AV.int c).length = w.length := List.length_map _
theorem il_get {l : List Nat} (h : l[j]? = some c) : (l.map fun (c : Nat) => AV.int c)[j]? = some (.int c) := by rw [List.getElem?_map, h]; rfl
theorem done_C (hi : i < σ.length) {c : Bool} (h : d.length.ble p = c) : D (n + 1) (.f 2 [.cur .cursor i] (C σ i d p) (.bool c) (C σ i d p)) := is_done hi (by
  cases c with
  | false => exact decide_eq_false (Int.not_le.mpr (ilt h))
  | true => exact decide_eq_true (ile h))
theorem ble_f {a b : Nat} (h : b < a) : a.ble b = false := by
  cases e : a.ble b with
  | false => rfl
  | true => exact absurd (Nat.le_of_ble_eq_true e) (Nat.not_le.mpr h)
theorem take_C (hi : i < σ.length) (hd : d.length ≤ szl) (h : d.drop p = c :: r) : D (n + 1) (.f 4 [.cur .cursor i] (C σ i d p) (.int c) (C σ i d (p + 1))) := take hi hd (dg h)
theorem meth_C {f : Nat} (hi : i < σ.length) (h : rd ρ k = some (.cur .cursor i)) (h3 : D n (.f f [.cur .cursor i] (C σ i d p) v σ2)) : D n (.e ρ (.meth .cursor f (.loc k) []) (C σ i d p) v σ2) := meth0 hi h h3
/-- two digits make one number -/
theorem cl_pair {bb : Nat} {src : AV} (hs : smallI bb = true) (h : ∀ {x : AV} {e : ME} {z v : Nat}, D n (.e [x, src] e τ (.int z) τ) → (dg2 bb w)[z]? = some v → D n (.e [x, src] (.sub (.loc 1) e) τ (.int v) τ)) :
    D n (.cl (.bin .Add (.bin .Mult (.num bb) (.sub (.loc 1) (.loc 0))) (.sub (.loc 1) (.bin .Add (.loc 0) (.num 1)))) [] 1 [src] ((List.range w.length).map fun (i : Nat) => .int ((i * 2 : Nat) : Int)) τ (w.map fun (c : Nat) => .int c) τ) :=
  cl_ix (by rw [List.length_map, List.length_map, List.length_range]) fun j x y h1 h2 => by
    rw [List.getElem?_map] at h1 h2
    obtain ⟨j', q1, rfl⟩ := Option.map_eq_some_iff.mp h1
    obtain ⟨c, q2, rfl⟩ := Option.map_eq_some_iff.mp h2
    rw [List.getElem?_range (get_lt q2)] at q1
    cases q1
    obtain ⟨g1, g2⟩ := halves_get (b := bb) q2
    rw [show (c : Int) = bb * ((c / bb : Nat) : Int) + ((c % bb : Nat) : Int) from congrArg Int.ofNat (Nat.div_add_mod c bb).symm]
    exact .bin (.bin .num (h (.loc rfl) g1) (.mul (.inl hs))) (h (.bin (.loc rfl) .num .addI) g2) .addI
theorem hs_end {a : AV} (hi : i < σ.length) (hw : ∀ o ∈ w, o < 256) (hl : w.length < 1000000) : D n (.e [.cur .cursor i, a, .own σ.length, .int 62, x] (.bi .bytes [.comp (.bin .Add (.bin .Mult (.num 16) (.sub (.loc 1) (.loc 0))) (.sub (.loc 1) (.bin .Add (.loc 0) (.num 1)))) 1 [2] (.bi .range [.num 0, .bi .len [.loc 2], .num 2]) []])
    (C (σ ++ [il (dg2 16 w)]) i d p) (.bytes w) (C (σ ++ [il (dg2 16 w)]) i d p)) := by
  have hl2 : w.length * 2 < 2000000 := Nat.mul_lt_mul_of_pos_right hl (by decide)
  have hz : ((dg2 16 w).map fun (c : Nat) => AV.int c).length ≤ szl := by rw [il_len, halves_len]; exact Nat.le_trans (Nat.le_of_lt hl2) (by unfold szl; decide)
  have hz1 : w.length ≤ szl := Nat.le_trans (Nat.le_of_lt hl) (by unfold szl; decide)
  exact .bi (.cons (.comp (.bi (.cons .num (.cons (.lenO rfl (C_own hi) hz) (.cons .num .nil))) (.rng3 (by decide) (by decide))) (it_rng (c := 2) (m := w.length) (by decide) (by rw [il_len, halves_len]) (by rw [il_len, halves_len]; exact Nat.lt_trans hl2 (by decide)) (by decide)) (by rw [List.length_map, List.length_range]; exact hz1)
    (cl_pair (bb := 16) rfl fun h1 h2 => .subO rfl (C_own hi) hz h1 (il_get h2))) .nil) (.bytes hw hz1)
theorem t_more (hi : i < τ.length) (h : rd ρ k = some (.cur .cursor i)) (hp : p < d.length) : D (n + 1) (.t ρ (.nt (.meth .cursor 2 (.loc k) [])) (C τ i d p) true (C τ i d p)) := .tnt (b := false) (.tgen rfl (meth_C hi h (done_C hi (ble_f hp))) .bool)
theorem app_il (h : rd ρ k = some (.own σ.length)) (hi : i < σ.length) (ha : D n (.e ρ e (C (σ ++ [il w]) i d p) (.int c) (C (σ ++ [il w]) i d p))) (hl : w.length < szl) : D n (.s (.exp (.lm .append (.loc k) [e])) ρ (C (σ ++ [il w]) i d p) .next ρ (C (σ ++ [il (w ++ [c])]) i d p)) := by
  have q := app_C h hi ha rfl (by rw [il_len]; exact hl)
  rwa [← show (w ++ [c]).map (fun (c : Nat) => AV.int c) = _ ++ [.int c] from List.map_append] at q
theorem hs_loop (hi : i < σ.length) (hd : d.length ≤ szl) (hw : ∀ o ∈ w, o < 256) (hl : w.length < 1000000) {a x3 x4 : AV} {hs ks : List Nat} (h : hs ++ ks = dg2 16 w) (hk : ∀ k ∈ ks, k < 16) (h2 : d.drop p = ks.map hexD ++ 62 :: rest) :
    ∃ ρ', D (n + 1) (.wh (wt (nthS ir14 2)) (wb (nthS ir14 2)) [.cur .cursor i, a, .own σ.length, x3, x4] (C (σ ++ [il hs]) i d p) (.ret (.bytes w)) ρ' (C (σ ++ [il (dg2 16 w)]) i d (p + ks.length + 1))) := by
  have hi' : ∀ {X : OObj}, i < (σ ++ [X]).length := lt_app hi
  have hz : (dg2 16 w).length < szl := by rw [halves_len]; exact Nat.lt_of_lt_of_le (Nat.mul_lt_mul_of_pos_right hl (by decide)) (by unfold szl; decide)
  induction ks generalizing hs p x3 x4 with
  | nil =>
    rw [List.append_nil] at h
    subst h
    exact ⟨_, .whret (t_more hi' rfl (dlt h2)) (.next (.asg rfl (meth_C hi' rfl (take_C hi' hd h2))) (.stop (.ifT (.tcmp (.loc rfl) (.cone (.glb rfl) (eqT rfl)))
      (.next (.if0 (.tcmp (.bin (.lenO rfl (C_own hi) (by rw [il_len]; exact Nat.le_of_lt hz)) .num (modN (b := 2) (by decide))) (.cone .num (eqN (b := 1) (by rw [il_len, halves_len, Nat.mul_mod_left]; decide))))) (.one (.ret rfl (hs_end hi hw hl))))) rfl))⟩
  | cons k ks ih =>
    have hk1 := hk k (.head _)
    have hn := hexD_62 k hk1
    have hlt : hs.length < szl := Nat.lt_of_le_of_lt (by rw [← h, List.length_append]; exact Nat.le_add_right _ _) hz
    obtain ⟨ρ', q⟩ := ih (hs := hs ++ [k]) (x3 := .int (hexD k)) (x4 := .int k) ((List.append_assoc hs [k] ks).trans h) (fun c hc => hk c (.tail _ hc)) (dn h2)
    rw [← app_len] at q
    exact ⟨ρ', .whgo (t_more hi' rfl (dlt h2)) (.next (.asg rfl (meth_C hi' rfl (take_C hi' hd h2))) (.next (.if0 (.tcmp (.loc rfl) (.cone (.glb rfl) (eqN (b := 62) hn.1))))
      (.next (.asg rfl (.call (.cons (.loc rfl) .nil) (hex_worth hk1))) (.one (.ifT (.tcmp (.loc rfl) (.cone .num (geT (Int.natCast_nonneg k)))) (.one (app_il rfl hi (.loc rfl) hlt))))))) rfl q⟩
theorem hexT_len : (hexT w).length = (dg2 16 w).length + 1 + 1 := by rw [hexT, List.length_cons, List.length_append, List.length_map]; rfl
theorem hex_string (hi : i < σ.length) (hd : d.length ≤ szl) (hw : ∀ o ∈ w, o < 256) (hl : w.length < 1000000) (h : d.drop (p + 1) = (dg2 16 w).map hexD ++ 62 :: rest) : D (n + 2) (.f 14 [.cur .cursor i] (C σ i d (p + 1)) (.bytes w) (C σ i d (p + (hexT w).length))) := by
  obtain ⟨ρ', q⟩ := hs_loop (n := n) (a := .int p) (x3 := .undef) (x4 := .undef) (hs := []) hi hd hw hl rfl (halves_lt hw) h
  rw [Nat.add_right_comm p 1, ← Nat.add_assoc p _ 1] at q
  rw [hexT_len]
  exact .fnT (ir := ir14) (ρ := [.cur .cursor i, .undef, .undef, .undef, .undef]) rfl rfl rfl rfl (.next (.asg rfl (.bin (att_cu hi (.loc rfl) rfl) .num (subN (b := 1) rfl))) (.next (.asg rfl (newl_C hi)) (.stop (.whl q) rfl))) rfl (by rw [C_len]; exact C_take hi)
end
structure Dr (d : List Nat) (p : Nat) (r : List Nat) : Prop where
  le : p ≤ d.length
  eq : d.drop p = r
noncomputable def whs (ws : List Nat) : Prop := ∀ c ∈ ws, isWh c = true
noncomputable def isSg (c : Nat) : Bool := ([91, 93, 123, 125] : List Int).contains c
section
variable {n : Nat} {σ σ1 σ2 τ τ' : St} {i j p q k m : Nat} {a b c x y z : Nat} {d ws w r rest : List Nat} {ρ ρ' : List AV} {s : MS} {e e' : ME} {o : Out} {u v : AV} {at_ : Int}
theorem Dr.add (h : Dr d p (w ++ r)) : Dr d (p + w.length) r := ⟨da_le h.2 h.1, da h.2⟩
theorem in_sg : CmpR .In (.int c) (glG 16) (isSg c) := .in_ (ys := [91, 93, 123, 125])
theorem peek_C (hi : i < σ.length) (hd : d.length ≤ szl) (h : d.drop p = c :: r) : D (n + 1) (.f 3 [.cur .cursor i] (C σ i d p) (.int c) (C σ i d p)) := by
  have q := peek (n := n) (p := p) hi hd
  rw [dg h] at q; exact q
theorem peek0_C (hi : i < σ.length) (hd : d.length ≤ szl) (h : d.drop p = []) : D (n + 1) (.f 3 [.cur .cursor i] (C σ i d p) (.int (-1)) (C σ i d p)) := by
  have q := peek (n := n) (p := p) hi hd
  rw [List.getElem?_eq_none_iff.mpr (de h)] at q; exact q
theorem starts2 (hi : i < σ.length) (hd : d.length ≤ szl) (h : d.drop p = a :: b :: r) (hp : p ≤ d.length) (hn : ([a, b] == [x, y]) = false) : D (n + 1) (.f 5 [.cur .cursor i, .bytes [x, y]] (C σ i d p) (.bool false) (C σ i d p)) :=
  .fnV (ir := ir5) rfl rfl rfl rfl (.one (.ret rfl (.bop (.bsgo (.cmp (.bin (att_cu hi (.loc rfl) rfl) (e_len rfl (le_szl rfl)) .addI) (.cone (att_cu hi (.loc rfl) rfl) (leT (Int.ofNat_le.mpr (da_le (w := [a, b]) h hp))))) .bool
    (.bsone (.cmp (.slc (att_cu hi (.loc rfl) rfl) (.osome (att_cu hi (.loc rfl) rfl)) (.osome (.bin (att_cu hi (.loc rfl) rfl) (e_len rfl (le_szl rfl)) .addI)) (slc_b hd (cut_here (w := [a, b]) h hp))) (.cone (.loc rfl) (cmp_b (.eq .byt) hn)))))))) rfl rfl
theorem skip2 (hi : i < σ.length) (hd : d.length ≤ szl) (h : d.drop p = a :: b :: r) (hp : p ≤ d.length) (hn : ([a, b] == [x, y]) = false) : D (n + 2) (.f 6 [.cur .cursor i, .bytes [x, y]] (C σ i d p) (.bool false) (C σ i d p)) :=
  .fnV (ir := ir6) rfl rfl rfl rfl (.stop (.ifT (.tnt (b := false) (.tgen rfl (.meth (.loc rfl) (get_set hi) (.cons (.loc rfl) .nil) (starts2 hi hd h hp hn)) .bool)) (.one (.ret rfl .boo))) rfl) rfl rfl
theorem if_skip2 (hi : i < σ.length) (hd : d.length ≤ szl) (h : d.drop p = a :: b :: r) (hp : p ≤ d.length) (hk : rd ρ k = some (.cur .cursor i)) (hn : ([a, b] == [x, y]) = false) {sa : List MS} : D (n + 2) (.s (.ifs (.meth .cursor 6 (.loc k) [.byt [x, y]]) sa []) ρ (C σ i d p) .next ρ (C σ i d p)) :=
  .if0 (.tgen rfl (.meth (.loc hk) (get_set hi) (.cons .byt .nil) (skip2 hi hd h hp hn)) .bool)

/-! a token of its own sign -/
theorem tok3 {t : List Nat} {e : ME} {v : AV} (ht : frozen v = true) (h : D n (.e ρ e σ v τ)) (h2 : rd ρ k = some (.int at_)) : D n (.e ρ (.tup [.str t, e, .loc k]) σ (.tup [.str t, v, .int at_]) τ) :=
  .tup (.cons .str (.cons h (.cons (.loc h2) .nil))) (.same (by show (true && (frozen v && (true && true))) = true; rw [ht]; rfl)) (le_szl rfl)
theorem dl_name (hi : i < σ.length) (hd : d.length ≤ szl) (h : Dr d p (47 :: (w ++ rest))) (hr : stopsR rest = true) (hw : ∀ x ∈ w, isReg x = true ∧ x ≠ 35 ∧ x ≠ 0 ∧ x < 1114112) (hl : w.length < szl) :
    D (n + 3) (.f 17 [.cur .cursor i, .int 47, .int at_] (C σ i d p) (.tup [.str [110, 97, 109, 101], .str w, .int at_]) (C σ i d (p + 1 + w.length))) :=
  .fnV (ir := ir17) (ρ := [.cur .cursor i, .int 47, .int at_]) rfl rfl rfl rfl (.stop (.ifT (.tcmp (.loc rfl) (.cone (.glb rfl) (eqT rfl))) (.next (.exp (meth_C hi rfl (take_C hi hd h.2))) (.one (.ret rfl (tok3 rfl (.call (.cons (meth_C hi rfl (take_regular hi hd hr (dn h.2) (fun c hc => (hw c hc).1) (dlt h.2))) (.cons (.loc rfl) .nil)) (name_text _ (fun c hc => (hw c hc).2) hl)) rfl))))) rfl) rfl C_lens
theorem hex_2 (hw : ∀ o ∈ w, o < 256) : ∃ b r', (dg2 16 w).map hexD ++ 62 :: rest = b :: r' ∧ b ≠ 60 := by
  have h := halves_lt hw
  cases e : dg2 16 w with
  | nil => exact ⟨62, rest, rfl, by decide⟩
  | cons k ks => exact ⟨_, _, rfl, (hexD_62 k (h k (e ▸ .head _))).2.1⟩
theorem hexT_app : hexT w ++ rest = 60 :: ((dg2 16 w).map hexD ++ 62 :: rest) := congrArg (60 :: ·) (List.append_assoc _ _ _)
theorem dl_hex (hi : i < σ.length) (hd : d.length ≤ szl) (hw : ∀ o ∈ w, o < 256) (hl : w.length < 1000000) (h : Dr d p (hexT w ++ rest)) :
    D (n + 3) (.f 17 [.cur .cursor i, .int 60, .int at_] (C σ i d p) (.tup [.str [104, 101, 120], .bytes w, .int at_]) (C σ i d (p + (hexT w).length))) := by
  have h1 := h.2
  rw [hexT_app] at h1
  obtain ⟨b, r', e, hb⟩ := hex_2 (rest := rest) hw
  have h2 := h1
  rw [e] at h2
  exact .fnV (ir := ir17) (ρ := [.cur .cursor i, .int 60, .int at_]) rfl rfl rfl rfl (.next (.if0 (.tcmp (.loc rfl) (.cone (.glb rfl) (eqF (by decide))))) (.next (.if0 (.tcmp (.loc rfl) (.cone (.glb rfl) (eqF (by decide)))))
    (.next (if_skip2 hi hd h2 h.1 rfl (beq_eq_false_iff_ne.mpr fun q => hb (List.cons.inj (List.cons.inj q).2).1)) (.next (if_skip2 hi hd h2 h.1 rfl (beq_eq_false_iff_ne.mpr fun q => absurd (List.cons.inj q).1 (by decide)))
      (.stop (.ifT (.tcmp (.loc rfl) (.cone (.glb rfl) (eqT rfl))) (.next (.exp (meth_C hi rfl (take_C hi hd h1))) (.one (.ret rfl (tok3 rfl (.call (.cons (.loc rfl) .nil) (hex_string hi hd hw hl (dn h1))) rfl))))) rfl))))) rfl C_lens

/-! next_token -/
theorem nt_pre (hi : i < σ.length) (hd : d.length ≤ szl) (h : Dr d p (ws ++ c :: r)) (hw : whs ws) (hc : (!isWh c && !Nat.beq c 37) = true) (hf : frozen v = true)
    (k : D (n + 3) (.ss (ir18.body.drop 4) [.cur .cursor i, .int ((p + ws.length : Nat) : Int), .int c] (C σ i d (p + ws.length)) (.ret v) ρ' (C σ i d q))) : D (n + 4) (.f 18 [.cur .cursor i] (C σ i d p) v (C σ i d q)) :=
  .fnV (ir := ir18) (ρ := [.cur .cursor i, .undef, .undef]) rfl rfl rfl rfl (.next (.exp (meth_C hi rfl (skip_white hi hd (rest := c :: r) hc h.2 hw))) (.next (.asg rfl (att_cu hi (.loc rfl) rfl)) (.next (.asg rfl (meth_C hi rfl (peek_C hi hd h.add.2)))
    (.next (.if0 (.tcmp (.loc rfl) (.cone .neg (eqF (Int.ne_of_gt (Int.lt_of_lt_of_le (by decide) (Int.natCast_nonneg c))))))) k)))) hf C_lens
theorem is_c {a : Nat} {op : ME} (h : D n (.e ρ op σ (.int a) σ)) (hk : rd ρ k = some (.int c)) (hn : c ≠ a) : D n (.t ρ (.cmp (.loc k) [.Eq] [op]) σ false σ) := .tcmp (.loc hk) (.cone h (eqN hn))
theorem nt_name (hi : i < σ.length) (hd : d.length ≤ szl) (h : Dr d p (ws ++ 47 :: (w ++ rest))) (hws : whs ws) (hr : stopsR rest = true) (hw : ∀ x ∈ w, isReg x = true ∧ x ≠ 35 ∧ x ≠ 0 ∧ x < 1114112) (hl : w.length < szl) :
    ∃ a q, D (n + 4) (.f 18 [.cur .cursor i] (C σ i d p) (.tup [.str [110, 97, 109, 101], .str w, .int a]) (C σ i d q)) ∧ Dr d q rest :=
  have h2 : Dr d _ (47 :: (w ++ rest)) := h.add
  ⟨_, _, nt_pre hi hd h hws rfl rfl (.stop (.ifT (.tbop (.tbstop (.tcmp (.loc rfl) (.cone (.glb rfl) (eqT rfl))))) (.one (.ret rfl (.call (.cons (.loc rfl) (.cons (.loc rfl) (.cons (.loc rfl) .nil))) (dl_name hi hd h2 hr hw hl))))) rfl), (Dr.add (w := [47]) h2).add⟩
theorem nt_hex (hi : i < σ.length) (hd : d.length ≤ szl) (h : Dr d p (ws ++ (hexT w ++ rest))) (hws : whs ws) (hw : ∀ o ∈ w, o < 256) (hl : w.length < 1000000) :
    ∃ a q, D (n + 4) (.f 18 [.cur .cursor i] (C σ i d p) (.tup [.str [104, 101, 120], .bytes w, .int a]) (C σ i d q)) ∧ Dr d q rest :=
  ⟨_, _, nt_pre hi hd (c := 60) (r := _) h hws rfl rfl (.stop (.ifT (.tbop (.tbgo (is_c (a := 47) (.glb rfl) rfl (by decide)) (.tbgo (is_c (a := 40) (.glb rfl) rfl (by decide)) (.tbgo (is_c (a := 41) (.glb rfl) rfl (by decide)) (.tbstop (.tcmp (.loc rfl) (.cone (.glb rfl) (eqT rfl)))))))) (.one (.ret rfl (.call (.cons (.loc rfl) (.cons (.loc rfl) (.cons (.loc rfl) .nil))) (dl_hex hi hd hw hl h.add))))) rfl), h.add.add⟩
theorem reg_ne {k : Nat} (hc : isReg c = true) (hk : isReg k = false) : c ≠ k := fun e => by rw [e, hk] at hc; cases hc
theorem reg_facts (hc : isReg c = true) : (!isWh c && !Nat.beq c 37) = true ∧ isSg c = false := by
  constructor
  · rw [and_l hc]
    cases h : Nat.beq c 37 with
    | true => exact absurd (Nat.eq_of_beq_eq_true h) (reg_ne hc rfl)
    | false => rfl
  · have e : ∀ {k : Nat}, isReg k = false → ((c : Int) == (k : Int)) = false := fun h => beq_eq_false_iff_ne.mpr (ne_nat (reg_ne hc h))
    have e1 : ((c : Int) == 91) = false := e (k := 91) rfl
    have e2 : ((c : Int) == 93) = false := e (k := 93) rfl
    have e3 : ((c : Int) == 123) = false := e (k := 123) rfl
    have e4 : ((c : Int) == 125) = false := e (k := 125) rfl
    unfold isSg
    rw [List.contains_cons, List.contains_cons, List.contains_cons, List.contains_cons, List.contains_nil, e1, e2, e3, e4]
    rfl
theorem nt_run (hi : i < σ.length) (hd : d.length ≤ szl) (h : Dr d p (ws ++ (c :: r))) (hws : whs ws) (hc : isReg c = true) (hf : frozen v = true) (k : D (n + 3) (.f 16 [.cur .cursor i, .int ((p + ws.length : Nat) : Int)] (C σ i d (p + ws.length)) v (C σ i d q))) : D (n + 4) (.f 18 [.cur .cursor i] (C σ i d p) v (C σ i d q)) :=
  nt_pre hi hd h hws (reg_facts hc).1 hf (.next (.if0 (.tbop (.tbgo (is_c (.glb rfl) rfl (reg_ne hc rfl)) (.tbgo (is_c (.glb rfl) rfl (reg_ne hc rfl)) (.tbgo (is_c (.glb rfl) rfl (reg_ne hc rfl)) (.tbgo (is_c (.glb rfl) rfl (reg_ne hc rfl)) (.tbgo (is_c (.glb rfl) rfl (reg_ne hc rfl)) (.tbgo (.tcmp (.loc rfl) (.cone (.glb rfl) (cmp_b in_sg (reg_facts hc).2))) .tbnil)))))))) (.one (.ret rfl (.call (.cons (.loc rfl) (.cons (.loc rfl) .nil)) k))))
theorem nt_word (hi : i < σ.length) (hd : d.length ≤ szl) (h : Dr d p (ws ++ ((c :: r) ++ rest))) (hws : whs ws) (hr : stopsR rest = true) (hw : ∀ x ∈ c :: r, isReg x = true) (hc : isDig c = false) (h1 : c ≠ 43) (h2 : c ≠ 45) (h3 : c ≠ 46) :
    ∃ a q, D (n + 4) (.f 18 [.cur .cursor i] (C σ i d p) (.tup [.str [119, 111, 114, 100], .bytes (c :: r), .int a]) (C σ i d q)) ∧ Dr d q rest :=
  ⟨_, _, nt_run hi hd h hws (hw c (.head _)) rfl (run_word hi hd h.add.2 hr hw hc h1 h2 h3 h.add.1 _), h.add.add⟩
theorem nt_int (hi : i < σ.length) (hd : d.length ≤ szl) (h : Dr d p (ws ++ (w ++ rest))) (hws : whs ws) (hr : stopsR rest = true) (hw : ∀ x ∈ w, isDig x = true) (hn : w ≠ []) (hl : Nat.ble w.length 40 = true) :
    ∃ m a q, D (n + 4) (.f 18 [.cur .cursor i] (C σ i d p) (.tup [.str [105, 110, 116], .int m, .int a]) (C σ i d q)) ∧ Dr d q rest := by
  obtain ⟨m, k⟩ := run_int (n := n) hi hd h.add.2 hr hw hn hl h.add.1 ((p + ws.length : Nat) : Int)
  obtain ⟨c, r, rfl⟩ := List.exists_cons_of_ne_nil hn
  exact ⟨m, _, _, nt_run hi hd h hws (dig_reg (hw c (.head _))) rfl k, h.add.add⟩
theorem nt_end (hi : i < σ.length) (hd : d.length ≤ szl) (h : Dr d p ws) (hws : whs ws) : ∃ a q, D (n + 4) (.f 18 [.cur .cursor i] (C σ i d p) (.tup [.str [101, 110, 100], .bytes [], .int a]) (C σ i d q)) := by
  have h : Dr d p (ws ++ []) := (List.append_nil ws).symm ▸ h
  exact ⟨_, _, .fnV (ir := ir18) (ρ := [.cur .cursor i, .undef, .undef]) rfl rfl rfl rfl (.next (.exp (meth_C hi rfl (skip_white hi hd (rest := []) rfl h.2 hws))) (.next (.asg rfl (att_cu hi (.loc rfl) rfl)) (.next (.asg rfl (meth_C hi rfl (peek0_C hi hd h.add.2)))
    (.stop (.ifT (.tcmp (.loc rfl) (.cone .neg (eqT rfl))) (.one (.ret rfl (tok3 rfl .byt rfl)))) rfl)))) rfl C_lens⟩
end
structure goodC (c : Nat) : Prop where
  lt : c < 1114112
  ns : (Nat.ble 55296 c && Nat.ble c 57343) = false
noncomputable def u16u (c : Nat) : List Nat := cond (Nat.ble 65536 c) [55232 + c / 1024, 56320 + c % 1024] [c]
noncomputable def units (t : List Nat) : List Nat := t.flatMap u16u
noncomputable def u16 (t : List Nat) : List Nat := dg2 256 (units t)
noncomputable def ia (w : List Nat) : List AV := w.map fun (k : Nat) => .int k
noncomputable def ones (w : List Nat) : List AV := w.map fun c => .str [c]
section
variable {n : Nat} {σ σ1 σ2 τ τ' : St} {i j p q k m : Nat} {a b c x y z : Nat} {d ws w r rest us t pre : List Nat} {ρ ρ' : List AV} {s : MS} {e e' : ME} {o : Out} {u v : AV} {at_ : Int}
theorem sz7 (h : a < 1000000) : a ≤ szl := Nat.le_trans (Nat.le_of_lt h) (by unfold szl; decide)
theorem ia_len : (ia w).length = w.length := List.length_map _
theorem ones_len : (ones w).length = w.length := List.length_map _
theorem units_len : t.length ≤ (units t).length ∧ (units t).length ≤ t.length * 2 := by
  induction t with
  | nil => exact ⟨Nat.le_refl _, Nat.le_refl _⟩
  | cons c t ih =>
    have h : 1 ≤ (u16u c).length ∧ (u16u c).length ≤ 2 := by unfold u16u; cases Nat.ble 65536 c <;> exact ⟨Nat.le_of_ble_eq_true rfl, Nat.le_of_ble_eq_true rfl⟩
    rw [show units (c :: t) = u16u c ++ units t from rfl, List.length_append, List.length_cons, Nat.succ_mul]
    exact ⟨Nat.add_comm t.length 1 ▸ Nat.add_le_add h.1 ih.1, Nat.add_comm (t.length * 2) 2 ▸ Nat.add_le_add h.2 ih.2⟩
theorem fr_ia : frozens (ia w) = true := by
  induction w with
  | nil => rfl
  | cons c w ih => exact ih
theorem utf16_units (hu : us.length < 500000) : D (n + 1) (.f 19 [.bytes (dg2 256 us)] σ (.list (ia us)) σ) := by
  have hl2 : us.length * 2 < 1000000 := Nat.mul_lt_mul_of_pos_right hu (by decide)
  have hz : (dg2 256 us).length ≤ szl := by rw [halves_len]; exact sz7 hl2
  exact .fnV (ir := ir19) (ρ := [.bytes (dg2 256 us)]) rfl rfl rfl rfl (.next (.if0 (.tcmp (.bin (e_len rfl hz) .num (modN (b := 2) (by decide))) (.cone .num (eqN (b := 1) (by rw [halves_len, Nat.mul_mod_left]; decide)))))
    (.one (.ret rfl (.comp (.bi (.cons .num (.cons (e_len rfl hz) (.cons .num .nil))) (.rng3 (by decide) (by decide))) (it_rng (c := 2) (m := us.length) (by decide) halves_len.symm (by rw [halves_len]; exact Nat.lt_trans hl2 (by decide)) (by decide)) (by rw [List.length_map, List.length_range]; exact sz7 (Nat.lt_trans hu (by decide)))
      (cl_pair (bb := 256) rfl fun h1 h2 => .sub (.loc rfl) h1 (.bytes hz (.pos rfl) h2)))))) fr_ia rfl
theorem ia_mid : (ia (pre ++ c :: r))[pre.length]? = some (.int c) := il_get mid_get
theorem e_lenl {xs : List AV} (h : rd ρ k = some (.list xs)) (hl : xs.length ≤ szl) : D n (.e ρ (.bi .len [.loc k]) σ (.int xs.length) σ) := .bi (.cons (.loc h) .nil) (.lenL hl)
theorem app_one (h : rd ρ k = some (.own σ.length)) (ha : D n (.e ρ e (σ ++ [.list (ones w)]) (.str [c]) (σ ++ [.list (ones w)]))) (hl : w.length < szl) : D n (.s (.exp (.lm .append (.loc k) [e])) ρ (σ ++ [.list (ones w)]) .next ρ (σ ++ [.list (ones (w ++ [c]))])) := by
  have q := app_O h ha rfl (by rw [ones_len]; exact hl)
  rwa [← show ones (w ++ [c]) = ones w ++ [.str [c]] from List.map_append] at q
theorem sur_facts (h1 : 65536 ≤ c) (h2 : c < 1114112) : (Nat.ble 55296 (55232 + c / 1024) && Nat.ble (55232 + c / 1024) 57343) = true ∧ 55232 + c / 1024 < 56320 ∧ (Nat.ble 56320 (56320 + c % 1024) && Nat.ble (56320 + c % 1024) 57343) = true ∧ smallI (((55232 + c / 1024 : Nat) : Int) - 55296) = true ∧
    65536 + (((55232 + c / 1024 : Nat) : Int) - 55296) * 2 ^ (10 : Int).toNat + ((56320 + c % 1024 : Nat) : Int) - 56320 = (c : Int) := by
  have e : ∀ {a b c : Nat}, a ≤ b → b ≤ c → (Nat.ble a b && Nat.ble b c) = true := fun h h' => by rw [Nat.ble_eq_true_of_le h, Nat.ble_eq_true_of_le h']; rfl
  have hd := Nat.div_add_mod c 1024
  have hm := Nat.mod_lt c (show 1024 > 0 by decide)
  generalize c / 1024 = x at *
  generalize c % 1024 = y at *
  refine ⟨e (by omega) (by omega), by omega, e (Nat.le_add_right _ _) (by omega), decide_eq_true (by show _ < 18446744073709551616; omega), ?_⟩
  rw [show (2 : Int) ^ (10 : Int).toNat = 1024 from rfl]
  omega
theorem ut_loop {o : AV} (ht : ∀ c ∈ r, goodC c) (hl : (pre ++ r).length < 400000) (x4 : AV) :
    ∃ y4, D n (.wh (wt (nthS ir20 3)) (wb (nthS ir20 3)) [o, .list (ia (units (pre ++ r))), .own σ.length, .int (units pre).length, x4] (σ ++ [.list (ones pre)]) .next [o, .list (ia (units (pre ++ r))), .own σ.length, .int (units (pre ++ r)).length, y4] (σ ++ [.list (ones (pre ++ r))])) := by
  have hz : (ia (units (pre ++ r))).length ≤ szl := by rw [ia_len]; exact sz7 (Nat.lt_of_le_of_lt units_len.2 (Nat.lt_trans (Nat.mul_lt_mul_of_pos_right hl (by decide)) (by decide)))
  induction r generalizing pre x4 with
  | nil =>
    rw [List.append_nil] at hz ⊢
    exact ⟨x4, .whdone (.tcmp (.loc rfl) (.cone (e_lenl rfl hz) (ltF (by rw [ia_len]; exact Int.le_refl _))))⟩
  | cons c r ih =>
    have e : pre ++ c :: r = (pre ++ [c]) ++ r := (List.append_assoc pre [c] r).symm
    have hp : pre.length < szl := Nat.lt_of_lt_of_le mid_lt (sz7 (Nat.lt_trans hl (by decide)))
    obtain ⟨y4, k⟩ := ih (pre := pre ++ [c]) (fun c hc => ht c (.tail _ hc)) (e ▸ hl) (.int c) (e ▸ hz)
    rw [← e] at k
    have hc := ht c (.head _)
    have eu : units (pre ++ c :: r) = units pre ++ (u16u c ++ units r) := List.flatMap_append
    have eu2 : units (pre ++ [c]) = units pre ++ (u16u c ++ []) := List.flatMap_append
    refine ⟨y4, ?_⟩
    generalize units (pre ++ c :: r) = U at *
    clear ih ht
    cases hb : Nat.ble 65536 c with
    | false =>
      rw [u16u, hb] at eu eu2
      rw [eu2, List.length_append] at k
      have g : U = units pre ++ c :: units r := eu
      have g1 : (ia U)[(units pre).length]? = some (.int c) := g ▸ ia_mid
      have g2 : (units pre).length < (ia U).length := get_lt g1
      exact .whgo (.tcmp (.loc rfl) (.cone (e_lenl rfl hz) (ltT (Int.ofNat_lt.mpr g2)))) (.next (.asg rfl (.sub (.loc rfl) (.loc rfl) (.list hz (.pos rfl) g1))) (.next (.asg rfl (.bin (.loc rfl) .num .addI))
        (.next (.if0 (.tcmp (.glb rfl) (c_btw (lo := 55296) (hi := 57343) rfl (.glb rfl) hc.ns))) (.one (app_one rfl (.bi (.cons (.loc rfl) .nil) (.chr hc.lt)) hp))))) rfl k
    | true =>
      rw [u16u, hb] at eu eu2
      rw [eu2, List.length_append] at k
      have g : U = units pre ++ (55232 + c / 1024) :: (56320 + c % 1024) :: units r := eu
      have g1 : (ia U)[(units pre).length]? = some (.int ((55232 + c / 1024 : Nat) : Int)) := g ▸ ia_mid
      have g3 : (ia U)[(units pre).length + 1]? = some (.int ((56320 + c % 1024 : Nat) : Int)) := by
        have q := ia_mid (pre := units pre ++ [55232 + c / 1024]) (c := 56320 + c % 1024) (r := units r)
        rw [List.append_assoc, List.length_append] at q
        rw [g]; exact q
      obtain ⟨f1, f2, f3, f4, f5⟩ := sur_facts (Nat.le_of_ble_eq_true hb) hc.lt
      generalize 55232 + c / 1024 = u1 at *
      generalize 56320 + c % 1024 = u2 at *
      have g2 : (units pre).length < (ia U).length := get_lt g1
      have g4 : (units pre).length + 1 ≠ (ia U).length := Nat.ne_of_lt (get_lt g3)
      have hv : D n (.e [o, .list (ia U), .own σ.length, .int ((units pre).length + 1 : Nat), .int u1] (.bin .Sub (.bin .Add (.bin .Add (.num 65536) (.bin .LShift (.bin .Sub (.loc 4) (.glb 20)) (.num 10))) (.sub (.loc 1) (.loc 3))) (.glb 21)) (σ ++ [.list (ones pre)]) (.int c) (σ ++ [.list (ones pre)])) := by
        rw [← f5]
        exact .bin (.bin (.bin .num (.bin (.bin (.loc rfl) (.glb rfl) .sub) .num (.shl (by decide) (by decide) f4)) .addI) (.sub (.loc rfl) (.loc rfl) (.list hz (.pos rfl) g3)) .addI) (.glb rfl) .sub
      exact .whgo (.tcmp (.loc rfl) (.cone (e_lenl rfl hz) (ltT (Int.ofNat_lt.mpr g2)))) (.next (.asg rfl (.sub (.loc rfl) (.loc rfl) (.list hz (.pos rfl) g1))) (.next (.asg rfl (.bin (.loc rfl) .num .addI))
        (.next (.ifT (.tcmp (.glb rfl) (c_btw (lo := 55296) (hi := 57343) rfl (.glb rfl) f1)) (.next (.if0 (.tbop (.tbgo (.tcmp (.loc rfl) (.cone (.glb rfl) (geF (Int.ofNat_lt.mpr f2)))) (.tbgo (.tcmp (.loc rfl) (.cone (e_lenl rfl hz) (eqN g4)))
          (.tbgo (.tnt (b := true) (.tcmp (.glb rfl) (.cgo (.sub (.loc rfl) (.loc rfl) (.list hz (.pos rfl) g3)) (leT (ile (and_l f3))) (.cone (.glb rfl) (leT (ile (and_r f3))))))) .tbnil)))))
            (.next (.asg rfl hv) (.next (.asg rfl (.bin (.loc rfl) .num .addI)) .snil)))) (.one (app_one rfl (.bi (.cons (.loc rfl) .nil) (.chr hc.lt)) hp))))) rfl k
theorem utf16 (ht : ∀ c ∈ t, goodC c) (hl : t.length < 200000) : D (n + 2) (.f 20 [.bytes (u16 t)] σ (.str t) σ) := by
  obtain ⟨y4, k⟩ := ut_loop (n := n + 1) (σ := σ) (o := .bytes (u16 t)) (pre := []) ht (Nat.lt_trans hl (by decide)) .undef
  have q := D.joinO (n := n + 1) (ρ := [.bytes (u16 t), .list (ia (units t)), .own σ.length, .int (units t).length, y4]) (k := 2) (ss := t.map fun c => [c]) rfl (by rw [List.map_map]; exact own_get (l := [])) (by rw [ones_flat]; exact sz7 (Nat.lt_trans hl (by decide)))
  rw [ones_flat] at q
  exact .fnT (ir := ir20) (ρ := [.bytes (u16 t), .undef, .undef, .undef, .undef]) rfl rfl rfl rfl (.next (.asg rfl (.call (.cons (.loc rfl) .nil) (utf16_units (Nat.lt_of_le_of_lt units_len.2 (Nat.lt_trans (Nat.mul_lt_mul_of_pos_right hl (by decide)) (by decide))))))
    (.next (.asg rfl (.newl .nil rfl (Nat.zero_le _))) (.next (.asg rfl .num) (.next (.whl k) (.one (.ret rfl q)))))) rfl own_take
end
noncomputable def valF (t : Nat) (w : List Nat) : Nat := w.foldl (fun c o => 256 * c + o) t
noncomputable def octs (len code : Nat) : List Nat := (List.range len).map fun j => code / 256 ^ (len - 1 - j) % 256
section
variable {n : Nat} {σ σ1 σ2 τ τ' : St} {i j p q k m : Nat} {a b c z len code : Nat} {d ws w r rest us t pre : List Nat} {ρ ρ' : List AV} {s : MS} {e e' : ME} {o : Out} {u v x y : AV} {at_ : Int}
theorem co_loop {b : AV} (w : List Nat) (t : Nat) (x : AV) : ∃ y, D n (.fo [2] (wb (nthS ir22 1)) (ia w) [b, .int t, x] σ .next [b, .int (valF t w), y] σ) := by
  induction w generalizing t x with
  | nil => exact ⟨x, .fonil⟩
  | cons c w ih =>
    obtain ⟨y, k⟩ := ih (256 * t + c) (.int c)
    exact ⟨y, .fogo .one (.one (.asg rfl (.bin (.bin .num (.loc rfl) (.mul (.inl rfl))) (.loc rfl) .addI))) rfl k⟩
theorem code_of (hl : w.length ≤ szl) : D (n + 1) (.f 22 [.bytes w] σ (.int (valF 0 w)) σ) :=
  let ⟨_, k⟩ := co_loop (n := n) (σ := σ) (b := .bytes w) w 0 .undef
  .fnV (ir := ir22) rfl rfl rfl rfl (.next (.asg rfl .num) (.next (.for_ (.loc rfl) .bytes (by rw [List.length_map]; exact hl) k) (.one (.ret rfl (.loc rfl))))) rfl rfl
theorem tk0 {x1 x2 x3 : AV} (h : rd ρ k = some (.tup [x1, x2, x3])) : D n (.e ρ (.sub (.loc k) (.num 0)) σ x1 σ) := .sub (.loc h) .num (.tup (le_szl rfl) (.pos (j := 0) rfl) rfl)
theorem tk1 {x1 x2 x3 : AV} (h : rd ρ k = some (.tup [x1, x2, x3])) : D n (.e ρ (.sub (.loc k) (.num 1)) σ x2 σ) := .sub (.loc h) .num (.tup (le_szl rfl) (.pos (j := 1) rfl) rfl)
theorem string_in : D (n + 1) (.f 24 [.tup [.str [104, 101, 120], .bytes w, v]] σ (.bytes w) σ) :=
  .fnV (ir := ir24) rfl rfl rfl rfl (.next (.if0 (.tbop (.tbstop (.tcmp (tk0 rfl) (.cone .str (cmp_b (.ne (.cmp .str)) rfl)))))) (.one (.ret rfl (tk1 rfl)))) rfl rfl
theorem code_in (h1 : w.length ≠ 0) (h2 : Nat.ble w.length 4 = true) : D (n + 2) (.f 25 [.tup [.str [104, 101, 120], .bytes w, v]] σ (.bytes w) σ) :=
  have hl : w.length ≤ szl := Nat.le_trans (Nat.le_of_ble_eq_true h2) (le_szl rfl)
  .fnV (ir := ir25) rfl rfl rfl rfl (.next (.asg rfl (.call (.cons (.loc rfl) .nil) string_in)) (.next (.if0 (.tbop (.tbgo (.tcmp (e_len rfl hl) (.cone .num (eqN (b := 0) h1))) (.tbgo (.tcmp (e_len rfl hl) (.cone (.glb rfl) (gtF (ile (b := 4) h2)))) .tbnil)))) (.one (.ret rfl (.loc rfl))))) rfl rfl
theorem text_in (ht : ∀ c ∈ t, goodC c) (hl : t.length < 200000) : D (n + 3) (.f 26 [.tup [.str [104, 101, 120], .bytes (u16 t), v]] σ (.str t) σ) :=
  .fnV (ir := ir26) rfl rfl rfl rfl (.next (.asg rfl (.call (.cons (.loc rfl) .nil) string_in)) (.one (.trc (.one (.ret rfl (.call (.cons (.loc rfl) .nil) (utf16 ht hl))))))) rfl rfl
/-- the token is no word: not the part's end -/
theorem part_end_hex {x : AV} : D (n + 1) (.f 27 [.tup [.str [104, 101, 120], v, u], x] σ (.bool false) σ) :=
  .fnV (ir := ir27) rfl rfl rfl rfl (.next (.if0 (.tcmp (tk0 rfl) (.cone .str (cmp_b (.eq (.cmp .str)) rfl)))) (.one (.ret rfl (.bop (.bsstop (.cmp (tk0 rfl) (.cone .str (cmp_b (c := false) (.eq (.cmp .str)) rfl))) .bool))))) rfl rfl
theorem part_end_word : D (n + 1) (.f 27 [.tup [.str [119, 111, 114, 100], .bytes w, u], .bytes w] σ (.bool true) σ) :=
  .fnV (ir := ir27) rfl rfl rfl rfl (.next (.if0 (.tcmp (tk0 rfl) (.cone .str (cmp_b (.eq (.cmp .str)) rfl)))) (.one (.ret rfl (.bop (.bsgo (.cmp (tk0 rfl) (.cone .str (cmp_b (c := true) (.eq (.cmp .str)) rfl))) .bool (.bsone (.cmp (tk1 rfl) (.cone (.loc rfl) (cmp_b (.eq .byt) (beq_self_eq_true w))))))))) ) rfl rfl

/-! octets of a number -/
theorem pow_cast {b : Nat} : (b : Int) ^ k = ((b ^ k : Nat) : Int) := (Int.natCast_pow b k).symm
theorem shrN : BinR .RShift (.int a) (.int k) (.int ((a / 2 ^ k : Nat) : Int)) := by
  have q : BinR .RShift (.int a) (.int k) (.int ((a : Int).fdiv (2 ^ (k : Int).toNat))) := .shr (Int.natCast_nonneg k)
  rwa [Int.toNat_natCast, show (2 : Int) ^ k = ((2 ^ k : Nat) : Int) from pow_cast (b := 2), ← Int.ofNat_fdiv] at q
theorem divN (hb : (b : Int) ≠ 0) (h : b < 1073741824) : BinR .FloorDiv (.int a) (.int b) (.int ((a / b : Nat) : Int)) := by
  have q : BinR .FloorDiv (.int a) (.int b) _ := .div hb (by rw [Int.natAbs_natCast]; exact h)
  rwa [← Int.ofNat_fdiv] at q
theorem andN (k : Nat) : BinR .BitAnd (.int a) (.int ((2 ^ k - 1 : Nat) : Int)) (.int ((a % 2 ^ k : Nat) : Int)) := by
  have q : BinR .BitAnd (.int a) (.int ((2 ^ k - 1 : Nat) : Int)) _ := .and
  have e : Builtin.bitAnd (a : Int) ((2 ^ k - 1 : Nat) : Int) = ((a &&& (2 ^ k - 1) : Nat) : Int) := by
    unfold Builtin.bitAnd
    rw [decide_eq_true (Int.natCast_nonneg a), decide_eq_true (Int.natCast_nonneg _)]; rfl
  rwa [e, Nat.and_two_pow_sub_one_eq_mod] at q
theorem octs_len : (octs len code).length = len := (List.length_map _).trans List.length_range
theorem octs_lt : ∀ c ∈ octs len code, c < 256 := fun c hc => by
  obtain ⟨j, _, rfl⟩ := List.mem_map.mp hc
  exact Nat.mod_lt _ (by decide)
theorem it_rng1 (h : b < 1000000000) : ItR (.rng 0 b 1) ((List.range b).map fun (i : Nat) => .int i) := by
  have q := it_rng (c := 1) (m := b) (by decide) (Nat.mul_one b) h (by decide)
  rwa [show (fun (i : Nat) => AV.int ((i * 1 : Nat) : Int)) = fun (i : Nat) => .int i from funext fun i => by rw [Nat.mul_one]] at q
/-- what the places of a range give -/
theorem cl_rng {elt : ME} {cap : List AV} {g : Nat → Nat} (h : ∀ j, j < m → D n (.e (.int j :: cap) elt τ (.int (g j)) τ)) : D n (.cl elt [] 1 cap ((List.range m).map fun (i : Nat) => .int i) τ (((List.range m).map g).map fun (k : Nat) => .int k) τ) :=
  cl_ix (by rw [List.length_map, List.length_map, List.length_map]) fun j x y h1 h2 => by
    rw [List.getElem?_map] at h1 h2
    obtain ⟨j', q1, rfl⟩ := Option.map_eq_some_iff.mp h1
    obtain ⟨k, q2, rfl⟩ := Option.map_eq_some_iff.mp h2
    rw [List.getElem?_map, q1] at q2
    cases q2
    have hj := get_lt q1
    rw [List.length_range] at hj
    rw [List.getElem?_range hj] at q1
    cases q1
    exact h j hj
theorem place (h : j < len) : (len : Int) - 1 - j = ((len - 1 - j : Nat) : Int) := by omega
theorem code_octets (hl : len < 1000000) : D (n + 1) (.f 23 [.int len, .int code] σ (.bytes (octs len code)) σ) :=
  .fnV (ir := ir23) rfl rfl rfl rfl (.one (.ret rfl (.bi (.cons (.comp (.bi (.cons (.loc rfl) .nil) .rng1) (it_rng1 (Nat.lt_trans hl (by decide))) (by rw [List.length_map, List.length_range]; exact sz7 hl)
    (cl_rng fun j hj => by
      have e : (8 : Int) * ((len : Int) - 1 - j) = ((8 * (len - 1 - j) : Nat) : Int) := by rw [place hj]; rfl
      have q := shrN (a := code) (k := 8 * (len - 1 - j))
      rw [Nat.pow_mul, ← e] at q
      exact .bin (.bin (.loc rfl) (.bin .num (.bin (.bin (.loc rfl) .num .sub) (.loc rfl) .sub) (.mul (.inl rfl))) q) .num (andN 8))) .nil) (.bytes octs_lt (octs_len ▸ sz7 hl : (octs len code).length ≤ szl))))) rfl rfl
theorem law_key (hl : len ≤ 4) : D (n + 1) (.f 45 [.tup [.int len, .int code]] σ (.list (ia (octs len code))) σ) := by
  have s0 : ∀ {ρ : List AV} {k : Nat} {a b : AV}, rd ρ k = some (.tup [a, b]) → D n (.e ρ (.sub (.loc k) (.num 0)) σ a σ) := fun h => .sub (.loc h) .num (.tup (le_szl rfl) (.pos (j := 0) rfl) rfl)
  have s1 : ∀ {ρ : List AV} {k : Nat} {a b : AV}, rd ρ k = some (.tup [a, b]) → D n (.e ρ (.sub (.loc k) (.num 1)) σ b σ) := fun h => .sub (.loc h) .num (.tup (le_szl rfl) (.pos (j := 1) rfl) rfl)
  exact .fnV (ir := ir45) rfl rfl rfl rfl (.one (.ret rfl (.comp (.bi (.cons (s0 rfl) .nil) .rng1) (it_rng1 (Nat.lt_of_le_of_lt hl (by decide))) (by rw [List.length_map, List.length_range]; exact Nat.le_trans hl (le_szl rfl))
    (cl_rng fun j hj => by
      have hk : len - 1 - j ≤ 3 := by omega
      have hp : 256 ^ (len - 1 - j) < 1073741824 := Nat.lt_of_le_of_lt (Nat.pow_le_pow_right (by decide) hk) (by decide)
      have h0 : ((256 ^ (len - 1 - j) : Nat) : Int) ≠ 0 := ne_nat (Nat.pos_iff_ne_zero.mp (Nat.pow_pos (by decide)))
      have q : BinR .Pow (.int 256) (.int ((len : Int) - 1 - j)) (.int ((256 ^ (len - 1 - j) : Nat) : Int)) := by
        rw [place hj]
        have q : BinR .Pow (.int ((256 : Nat) : Int)) (.int ((len - 1 - j : Nat) : Int)) _ := .pow (Int.natCast_nonneg _) (Int.ofNat_le.mpr (Nat.le_trans hk (by decide))) rfl
        rwa [Int.toNat_natCast, pow_cast] at q
      exact .bin (.bin (s1 rfl) (.bin .num (.bin (.bin (s0 rfl) .num .sub) (.loc rfl) .sub) q) (divN h0 hp)) .num (modN (b := 256) (by decide)))))) fr_ia rfl
end
noncomputable def hx2 (o : Nat) : List Nat := [hexD (o / 16), hexD (o % 16)]
noncomputable def hexS : List Nat := [48, 49, 50, 51, 52, 53, 54, 55, 56, 57, 65, 66, 67, 68, 69, 70]
section
variable {n : Nat} {σ σ1 σ2 τ τ' : St} {i j p q k m : Nat} {a b c z len code : Nat} {d ws w r rest us t pre : List Nat} {ρ ρ' : List AV} {s : MS} {e e' : ME} {o : Out} {u v x y : AV} {at_ : Int}
/-- a loop that adds up -/
theorem fo_acc {α : Type} {f : α → AV} {b : List MS} (S : List α → St) (P : List AV → Prop) {all : List α} (step : ∀ pre x post ρ, all = pre ++ x :: post → P ρ → ∃ ρ', P ρ' ∧ D n (.ss b (ρ.set i (f x)) (S pre) .next ρ' (S (pre ++ [x])))) {xs pre : List α} (h : all = pre ++ xs) (hρ : P ρ) :
    ∃ ρ', P ρ' ∧ D n (.fo [i] b (xs.map f) ρ (S pre) .next ρ' (S all)) := by
  induction xs generalizing pre ρ with
  | nil => rw [h, List.append_nil]; exact ⟨ρ, hρ, .fonil⟩
  | cons x xs ih =>
    obtain ⟨ρ1, h1, k1⟩ := step pre x xs ρ h hρ
    obtain ⟨ρ2, h2, k2⟩ := ih (pre := pre ++ [x]) (h.trans (List.append_assoc pre [x] xs).symm) h1
    exact ⟨ρ2, h2, .fogo .one k1 rfl k2⟩
theorem mem_mid {α : Type} {all pre post : List α} {x : α} (h : all = pre ++ x :: post) : x ∈ all := h ▸ List.mem_append_right _ (.head _)
theorem len_mid {α : Type} {all pre post : List α} {x : α} (h : all = pre ++ x :: post) : pre.length < all.length := by rw [h, List.length_append]; exact Nat.lt_add_of_pos_right (Nat.succ_pos _)
theorem hexS_get : ∀ k, k < 16 → hexS[k]? = some (hexD k) := by decide
theorem hx2_flat : (w.map hx2).flatten = (dg2 16 w).map hexD := by
  induction w with
  | nil => rfl
  | cons o w ih => exact congrArg (fun l => hexD (o / 16) :: hexD (o % 16) :: l) ih
theorem hx2_len : (w.map hx2).flatten.length = w.length * 2 := by rw [hx2_flat, List.length_map, halves_len]
theorem e_hx2 {e1 e2 e3 : ME} (ho : a < 256) (h1 : D n (.e ρ e1 σ (.str hexS) σ)) (h2 : D n (.e ρ e2 σ (.int ((a / 16 : Nat) : Int)) σ)) (h3 : D n (.e ρ e3 σ (.int ((a % 16 : Nat) : Int)) σ)) : D n (.e ρ (.bin .Add (.sub e1 e2) (.sub e1 e3)) σ (.str (hx2 a)) σ) :=
  .bin (.sub h1 h2 (.str (le_szl rfl) (.pos rfl) (hexS_get _ (Nat.div_lt_of_lt_mul ho)))) (.sub h1 h3 (.str (le_szl rfl) (.pos rfl) (hexS_get _ (Nat.mod_lt _ (by decide))))) (.addS (a := [hexD (a / 16)]) (b := [hexD (a % 16)]) (le_szl rfl))
/-- the signs around -/
theorem e_hexT (hl : w.length < 400000) (h : D n (.e ρ e σ (.str (w.map hx2).flatten) σ)) : D n (.e ρ (.bin .Add (.bin .Add (.str [60]) e) (.str [62])) σ (.str (hexT w)) σ) := by
  have hl2 : w.length * 2 < 800000 := Nat.mul_lt_mul_of_pos_right hl (by decide)
  have q := D.bin (.bin .str h (.addS (a := [60]) (by rw [hx2_len]; exact sz7 (by rw [Nat.add_comm]; exact Nat.lt_of_le_of_lt (Nat.succ_le_of_lt hl2) (by decide))))) .str (.addS (b := [62]) (by rw [List.length_append, hx2_len]; exact sz7 (Nat.lt_of_lt_of_le (Nat.add_lt_add_right (Nat.add_lt_add_left hl2 1) 1) (by decide))))
  rwa [hx2_flat] at q
theorem own_app {X : OObj} (h : rd ρ k = some (.own σ.length)) {xs : List AV} (ha : D n (.e ρ e (σ ++ [.list xs]) x (σ ++ [.list xs]))) (hf : frozen x = true) (hl : xs.length < szl) (hX : .list (xs ++ [x]) = X) : D n (.s (.exp (.lm .append (.loc k) [e])) ρ (σ ++ [.list xs]) .next ρ (σ ++ [X])) := hX ▸ app_O h ha hf hl
noncomputable def sl (ss : List (List Nat)) : OObj := .list (ss.map .str)
theorem sl_app {ss : List (List Nat)} : OObj.list (ss.map .str ++ [.str w]) = sl (ss ++ [w]) := congrArg OObj.list (List.map_append (f := AV.str) (l₁ := ss) (l₂ := [w])).symm
theorem hex_text (hw : ∀ o ∈ w, o < 256) (hl : w.length < 400000) : D (n + 1) (.f 33 [.bytes w] σ (.str (hexT w)) σ) := by
  have hls : w.length < szl := Nat.lt_of_lt_of_le hl (by unfold szl; decide)
  obtain ⟨_, ⟨y, rfl⟩, k⟩ := fo_acc (n := n) (i := 2) (b := wb (nthS ir33 1)) (f := fun (c : Nat) => .int c) (all := w) (xs := w) (pre := []) (ρ := [.bytes w, .own σ.length, .undef]) (fun pre => σ ++ [sl (pre.map hx2)]) (fun ρ => ∃ y, ρ = [.bytes w, .own σ.length, y]) (fun pre o post ρ h hρ => by
    obtain ⟨y, rfl⟩ := hρ
    have ho := hw o (mem_mid h)
    rw [List.map_append]
    exact ⟨_, ⟨.int o, rfl⟩, .one (own_app rfl (e_hx2 ho (.glb rfl) (.bin (.loc rfl) .num (shrN (k := 4))) (.bin (.loc rfl) .num (andN 4))) rfl (by rw [List.length_map, List.length_map]; exact Nat.lt_trans (len_mid h) hls) sl_app)⟩) rfl ⟨_, rfl⟩
  exact .fnT (ir := ir33) rfl rfl rfl rfl (.next (.asg rfl (.newl .nil rfl (Nat.zero_le _))) (.next (.for_ (.loc rfl) .bytes (by rw [List.length_map]; exact Nat.le_of_lt hls) k) (.one (.ret rfl (e_hexT hl (.joinO rfl own_get (by rw [hx2_len]; exact sz7 (Nat.lt_of_lt_of_le (Nat.mul_lt_mul_of_pos_right hl (by decide)) (by decide))))))))) rfl own_take
theorem law_hex (hw : ∀ o ∈ w, o < 256) (hl : w.length < 400000) : D (n + 1) (.f 43 [.list (ia w)] σ (.str (hexT w)) σ) := by
  have q : LmR .join [] [.list ((w.map hx2).map .str)] (.str (w.map hx2).flatten) := joinT_nil ▸ .join (by
    rw [← List.length_flatten, hx2_len]; exact sz7 (Nat.lt_of_lt_of_le (Nat.mul_lt_mul_of_pos_right hl (by decide)) (by decide)))
  exact .fnV (ir := ir43) rfl rfl rfl rfl (.one (.ret rfl (e_hexT hl (.lmS .str (.cons (.comp (.loc rfl) .list (ia_len ▸ sz7 (Nat.lt_trans hl (by decide))) (cl_ix (ys := (w.map hx2).map .str) (by rw [ia_len, List.length_map, List.length_map]) fun j x y h1 h2 => by
    rw [List.map_map, List.getElem?_map] at h2
    obtain ⟨o, q2, rfl⟩ := Option.map_eq_some_iff.mp h2
    have h3 : (ia w)[j]? = _ := il_get q2
    cases h1.symm.trans h3
    exact e_hx2 (hw o (List.mem_of_getElem? q2)) .str (.bin (.loc rfl) .num (divN (b := 16) (by decide) (by decide))) (.bin (.loc rfl) .num (modN (b := 16) (by decide))))) .nil) q)))) rfl rfl

/-! utf16_octets -/
theorem ia_app : ia (w ++ r) = ia w ++ ia r := List.map_append
theorem ext_O (h : rd ρ k = some (.own σ.length)) (ha : D n (.e ρ e (σ ++ [il w]) (.list (ia r)) (σ ++ [il w]))) (hl : w.length + r.length ≤ szl) : D n (.s (.exp (.lm .extend (.loc k) [e])) ρ (σ ++ [il w]) .next ρ (σ ++ [il (w ++ r)])) := by
  have q : D n (.s (.exp (.lm .extend (.loc k) [e])) ρ (σ ++ [il w]) .next ρ ((σ ++ [il w]).set σ.length (.list (ia w ++ ia r)))) := .exp (.lmE (.loc h) (.extend own_get) (.cons ha .nil) (.extend own_get fr_ia (by rw [ia_len, ia_len]; exact hl)))
  rw [own_set, ← ia_app] at q
  exact q
theorem lst2 (h : rd ρ k = some (.int a)) : D n (.e ρ (.lst [.bin .RShift (.loc k) (.num 8), .bin .BitAnd (.loc k) (.num 255)]) σ (.list (ia (dg2 256 [a]))) σ) :=
  .lst (.cons (.bin (.loc h) .num (shrN (k := 8))) (.cons (.bin (.loc h) .num (andN 8)) .nil)) (le_szl rfl)
theorem u16_app : u16 (pre ++ [c]) = u16 pre ++ dg2 256 (u16u c) := by
  unfold u16 units
  rw [List.flatMap_append, List.flatMap_singleton]
  exact List.flatMap_append
theorem u16_len : (u16 t).length ≤ t.length * 4 := by
  unfold u16
  rw [halves_len, show t.length * 4 = t.length * 2 * 2 from (Nat.mul_assoc _ 2 2).symm]
  exact Nat.mul_le_mul_right 2 units_len.2
theorem u16_room (h : t = pre ++ c :: r) (hl : t.length < 200000) : (u16 pre).length + 4 ≤ szl := by
  have h1 : pre.length < 200000 := Nat.lt_trans (len_mid h) hl
  exact sz7 (Nat.lt_of_le_of_lt (Nat.add_le_add_right u16_len 4) (Nat.lt_of_lt_of_le (Nat.add_lt_add_right (Nat.mul_lt_mul_of_pos_right h1 (by decide)) 4) (by decide)))
theorem dg2_2 {b : Nat} {a c : Nat} : dg2 b [a, c] = dg2 b [a] ++ dg2 b [c] := rfl
theorem hi_lo (h : a + 65536 = c) : 55296 + a / 2 ^ 10 = 55232 + c / 1024 ∧ 56320 + a % 2 ^ 10 = 56320 + c % 1024 := by
  rw [← h, show a + 65536 = a + 64 * 1024 from rfl, Nat.add_mul_div_right _ _ (by decide), Nat.add_mul_mod_self_right]
  exact ⟨(Nat.add_assoc 55232 64 _).trans (congrArg _ (Nat.add_comm _ _)), rfl⟩
theorem uo_step {x1 x2 x3 : AV} (hc : goodC c) (hl : w.length + 4 ≤ szl) : ∃ y1 y2, D n (.ss (wb (nthS ir21 1)) [v, .own σ.length, .str [c], x1, x2] (σ ++ [il w]) .next [v, .own σ.length, .str [c], y1, y2] (σ ++ [il (w ++ dg2 256 (u16u c))])) := by
  have T : ∀ {ρ : List AV}, rd ρ 3 = some (.int c) → D n (.s (.ifs (.cmp (.glb 20) [.LtE, .LtE] [.loc 3, .glb 22]) [.stuck] []) ρ (σ ++ [il w]) .next ρ (σ ++ [il w])) := fun h => .if0 (.tcmp (.glb rfl) (c_btw (lo := 55296) (hi := 57343) h (.glb rfl) hc.ns))
  cases hb : Nat.ble 65536 c with
  | false =>
    rw [u16u, hb]
    exact ⟨.int c, x2, .next (.asg rfl (.bi (.cons (.loc rfl) .nil) .ord)) (.next (T rfl) (.next (.if0 (.tcmp (.loc rfl) (.cone .num (geF (ilt (a := 65536) hb))))) (.one (ext_O rfl (lst2 rfl) (Nat.le_trans (Nat.add_le_add_left (by decide : 2 ≤ 4) _) hl)))))⟩
  | true =>
    rw [u16u, hb, cond, dg2_2, ← List.append_assoc]
    have e3 := Nat.sub_add_cancel (Nat.le_of_ble_eq_true hb)
    generalize c - 65536 = c' at *
    obtain ⟨e1, e2⟩ := hi_lo e3
    have hs : BinR .Sub (.int c) (.int 65536) (.int c') := subN (b := 65536) (c := c') e3
    have g1 : BinR .Add (.int 55296) (.int ((c' / 2 ^ 10 : Nat) : Int)) (.int ((55232 + c / 1024 : Nat) : Int)) := (congrArg (fun k : Nat => AV.int k) e1 : AV.int (55296 + ((c' / 2 ^ 10 : Nat) : Int)) = _) ▸ .addI
    have g2 : BinR .Add (.int 56320) (.int ((c' % 2 ^ 10 : Nat) : Int)) (.int ((56320 + c % 1024 : Nat) : Int)) := (congrArg (fun k : Nat => AV.int k) e2 : AV.int (56320 + ((c' % 2 ^ 10 : Nat) : Int)) = _) ▸ .addI
    exact ⟨.int ((56320 + c % 1024 : Nat) : Int), .int ((55232 + c / 1024 : Nat) : Int), .next (.asg rfl (.bi (.cons (.loc rfl) .nil) .ord)) (.next (T rfl) (.next (.ifT (.tcmp (.loc rfl) (.cone .num (geT (ile (a := 65536) hb)))) (.next (.asg rfl (.bin (.glb rfl) (.bin (.bin (.loc rfl) .num hs) .num (shrN (k := 10))) g1))
      (.next (ext_O rfl (lst2 rfl) (Nat.le_trans (Nat.add_le_add_left (by decide : 2 ≤ 4) _) hl)) (.one (.asg rfl (.bin (.glb rfl) (.bin (.bin (.loc rfl) .num hs) .num (andN 10)) g2)))))) (.one (ext_O rfl (lst2 rfl) (by rw [List.length_append]; exact hl)))))⟩
theorem u16u_lt (hc : c < 1114112) : ∀ u ∈ u16u c, u < 65536 := fun u hu => by
  unfold u16u at hu
  cases hb : Nat.ble 65536 c with
  | false =>
    rw [hb] at hu
    cases hu with
    | head => exact Int.ofNat_lt.mp (ilt hb)
    | tail _ h => cases h
  | true =>
    rw [hb] at hu
    cases hu with
    | head => omega
    | tail _ h => cases h with
      | head => omega
      | tail _ h => cases h
theorem u16_lt (ht : ∀ c ∈ t, goodC c) : ∀ o ∈ u16 t, o < 256 := fun o ho => by
  obtain ⟨u, hu, ho⟩ := List.mem_flatMap.mp ho
  obtain ⟨c, hc, hu⟩ := List.mem_flatMap.mp hu
  have := u16u_lt (ht c hc).lt u hu
  cases ho with
  | head => exact Nat.div_lt_of_lt_mul this
  | tail _ ho => cases ho with
    | head => exact Nat.mod_lt _ (by decide)
    | tail _ h => cases h
theorem ones_bound (hl : t.length < 200000) : (t.map fun c => AV.str [c]).length ≤ szl := by rw [List.length_map]; exact sz7 (Nat.lt_trans hl (by decide))
theorem utf16_octets (ht : ∀ c ∈ t, goodC c) (hl : t.length < 200000) : D (n + 1) (.f 21 [.str t] σ (.bytes (u16 t)) σ) := by
  obtain ⟨_, ⟨y1, y2, y3, rfl⟩, k⟩ := fo_acc (n := n) (i := 2) (b := wb (nthS ir21 1)) (f := fun (c : Nat) => .str [c]) (all := t) (xs := t) (pre := []) (ρ := [.str t, .own σ.length, .undef, .undef, .undef]) (fun pre => σ ++ [il (u16 pre)]) (fun ρ => ∃ y1 y2 y3, ρ = [.str t, .own σ.length, y1, y2, y3]) (fun pre c post ρ h hρ => by
    obtain ⟨y1, y2, y3, rfl⟩ := hρ
    obtain ⟨z1, z2, k⟩ := uo_step (n := n) (σ := σ) (v := .str t) (x1 := y2) (x2 := y3) (x3 := .undef) (ht c (mem_mid h)) (u16_room h hl)
    rw [← u16_app] at k
    exact ⟨_, ⟨_, _, _, rfl⟩, k⟩) rfl ⟨_, _, _, rfl⟩
  exact .fnT (ir := ir21) rfl rfl rfl rfl (.next (.asg rfl (.newl .nil rfl (Nat.zero_le _))) (.next (.for_ (.loc rfl) .str (ones_bound hl) k) (.one (.ret rfl (.bi (.cons (.loc rfl) .nil) (by
    rw [List.map_cons, (dr_own (own_get (l := [])) : dr (σ ++ [il (u16 t)]) (.own σ.length) = .list (ia (u16 t)))]
    exact .bytes (u16_lt ht) (sz7 (Nat.lt_of_le_of_lt u16_len (Nat.lt_of_lt_of_le (Nat.mul_lt_mul_of_pos_right hl (by decide)) (by decide)))))))))) rfl own_take
end
noncomputable def ltB : List MS := wb ((wb (nthS ir44 1)).getD 3 .stuck)
section
variable {n : Nat} {σ σ1 σ2 τ τ' : St} {i j p q k m : Nat} {a b c z len code : Nat} {d ws w r rest us t pre : List Nat} {ρ ρ' : List AV} {s : MS} {e e' : ME} {o : Out} {u v x y : AV} {at_ : Int}
theorem app_ilO (h : rd ρ k = some (.own σ.length)) (ha : D n (.e ρ e (σ ++ [il w]) (.int c) (σ ++ [il w]))) (hl : w.length < szl) : D n (.s (.exp (.lm .append (.loc k) [e])) ρ (σ ++ [il w]) .next ρ (σ ++ [il (w ++ [c])])) :=
  own_app h ha rfl (by rw [il_len]; exact hl) (congrArg OObj.list (List.map_append (f := fun (c : Nat) => AV.int c) (l₁ := w) (l₂ := [c])).symm)
theorem dg2_app {b : Nat} : dg2 b (w ++ [c]) = (dg2 b w ++ [c / b]) ++ [c % b] := by
  unfold dg2
  rw [List.flatMap_append, List.flatMap_singleton]
  exact (List.append_assoc _ [c / b] [c % b]).symm
theorem lt_inner {b y2 y3 y4 y5 : AV} (hl : w.length + us.length * 2 ≤ szl) : ∃ z5, D n (.fo [5] ltB (ia us) [b, .own σ.length, y2, y3, y4, y5] (σ ++ [il w]) .next [b, .own σ.length, y2, y3, y4, z5] (σ ++ [il (w ++ dg2 256 us)])) := by
  obtain ⟨_, ⟨z, rfl⟩, k⟩ := fo_acc (n := n) (i := 5) (b := ltB) (f := fun (c : Nat) => .int c) (all := us) (xs := us) (pre := []) (ρ := [b, .own σ.length, y2, y3, y4, y5]) (fun pre => σ ++ [il (w ++ dg2 256 pre)]) (fun ρ => ∃ z, ρ = [b, .own σ.length, y2, y3, y4, z]) (fun pre c post ρ h hρ => by
    obtain ⟨z, rfl⟩ := hρ
    have h1 : (w ++ dg2 256 pre).length + 2 ≤ szl := by
      rw [List.length_append, halves_len, Nat.add_assoc, ← Nat.succ_mul]
      exact Nat.le_trans (Nat.add_le_add_left (Nat.mul_le_mul_right 2 (Nat.succ_le_of_lt (len_mid h))) _) hl
    rw [dg2_app, ← List.append_assoc, ← List.append_assoc]
    exact ⟨_, ⟨.int c, rfl⟩, .next (app_ilO rfl (.bin (.loc rfl) .num (divN (b := 256) (by decide) (by decide))) (Nat.lt_of_lt_of_le (Nat.lt_add_of_pos_right (by decide)) h1)) (.one (app_ilO rfl (.bin (.loc rfl) .num (modN (b := 256) (by decide))) (by rw [List.length_append]; exact h1)))⟩) rfl ⟨_, rfl⟩
  rw [show w ++ dg2 256 [] = w from List.append_nil w] at k
  exact ⟨z, k⟩
theorem lt_step {x1 x2 x3 x4 : AV} (hc : c < 1114112) (hl : w.length + 4 ≤ szl) : ∃ y1 y2 y3 y4, D n (.ss (wb (nthS ir44 1)) [v, .own σ.length, .str [c], x1, x2, x3] (σ ++ [il w]) .next [v, .own σ.length, y1, y2, y3, y4] (σ ++ [il (w ++ dg2 256 (u16u c))])) := by
  cases hb : Nat.ble 65536 c with
  | false =>
    rw [u16u, hb]
    obtain ⟨z, k⟩ := lt_inner (n := n) (σ := σ) (w := w) (us := [c]) (b := v) (y2 := .str [c]) (y3 := .int c) (y4 := .list (ia [c])) (y5 := x3) (Nat.le_trans (Nat.add_le_add_left (by decide : 2 ≤ 4) _) hl)
    exact ⟨_, _, _, _, .next (.asg rfl (.bi (.cons (.loc rfl) .nil) .ord)) (.next (.asg rfl (.lst (.cons (.loc rfl) .nil) (le_szl rfl))) (.next (.if0 (.tcmp (.loc rfl) (.cone .num (gtF (Int.lt_add_one_iff.mp (ilt (a := 65536) hb))))))
      (.one (.for_ (.loc rfl) .list (le_szl rfl) k))))⟩
  | true =>
    rw [u16u, hb]
    obtain ⟨z, k⟩ := lt_inner (n := n) (σ := σ) (w := w) (us := [55232 + c / 1024, 56320 + c % 1024]) (b := v) (y2 := .str [c]) (y3 := .int c) (y4 := .list (ia [55232 + c / 1024, 56320 + c % 1024])) (y5 := x3) hl
    exact ⟨_, _, _, _, .next (.asg rfl (.bi (.cons (.loc rfl) .nil) .ord)) (.next (.asg rfl (.lst (.cons (.loc rfl) .nil) (le_szl rfl))) (.next (.ifT (.tcmp (.loc rfl) (.cone .num (gtT (Int.lt_of_lt_of_le (by decide : (65535 : Int) < 65536) (ile (a := 65536) hb)))))
      (.one (.asg rfl (.lst (.cons (.bin .num (.bin (.loc rfl) .num (divN (b := 1024) (by decide) (by decide))) .addI) (.cons (.bin .num (.bin (.loc rfl) .num (modN (b := 1024) (by decide))) .addI) .nil)) (le_szl rfl)))))
      (.one (.for_ (.loc rfl) .list (le_szl rfl) k))))⟩
theorem law_target (ht : ∀ c ∈ t, goodC c) (hl : t.length < 200000) : D (n + 1) (.f 44 [.str t] σ (.list (ia (u16 t))) σ) := by
  obtain ⟨_, ⟨y1, y2, y3, y4, rfl⟩, k⟩ := fo_acc (n := n) (i := 2) (b := wb (nthS ir44 1)) (f := fun (c : Nat) => .str [c]) (all := t) (xs := t) (pre := []) (ρ := [.str t, .own σ.length, .undef, .undef, .undef, .undef]) (fun pre => σ ++ [il (u16 pre)]) (fun ρ => ∃ y1 y2 y3 y4, ρ = [.str t, .own σ.length, y1, y2, y3, y4]) (fun pre c post ρ h hρ => by
    obtain ⟨y1, y2, y3, y4, rfl⟩ := hρ
    obtain ⟨z1, z2, z3, z4, k⟩ := lt_step (n := n) (σ := σ) (v := .str t) (x1 := y2) (x2 := y3) (x3 := y4) (x4 := .undef) (ht c (mem_mid h)).lt (u16_room h hl)
    rw [← u16_app] at k
    exact ⟨_, ⟨_, _, _, _, rfl⟩, k⟩) rfl ⟨_, _, _, _, rfl⟩
  exact .fnL (ir := ir44) rfl rfl rfl rfl (.next (.asg rfl (.newl .nil rfl (Nat.zero_le _))) (.next (.for_ (.loc rfl) .str (ones_bound hl) k) (.one (.ret rfl (.loc rfl))))) rfl (own_get (l := [])) (Nat.le_refl _) own_take
end
noncomputable def bgn : List Nat := [32, 98, 101, 103, 105, 110]
noncomputable def ens : List Nat := [101, 110, 100]
noncomputable def blk (word : List Nat) (rows : List (List Nat)) : List (List Nat) := (dec rows.length ++ bgn ++ word) :: (rows ++ [ens ++ word])
noncomputable def sa (rows : List (List Nat)) : List AV := rows.map .str
noncomputable def pt (rows : List (List Nat)) (j : Nat) : List (List Nat) := (rows.drop (j * 100)).take 100
noncomputable def upTo (word : List Nat) (rows : List (List Nat)) : Nat → List (List Nat)
  | 0 => []
  | m + 1 => upTo word rows m ++ blk word (pt rows m)
noncomputable def parts (word : List Nat) (rows : List (List Nat)) : List (List Nat) := upTo word rows ((rows.length + 99) / 100)
section
variable {α : Type} {xs : List α} {l : List (List Nat)} {n : Nat} {σ σ1 σ2 τ τ' : St} {i j p q k m : Nat} {a b c z len code : Nat} {d w r rest us t pre word : List Nat} {ρ ρ' : List AV} {s : MS} {e e' : ME} {o : Out} {u v x y : AV} {rows ws : List (List Nat)}
theorem clip_min : clipAt m (p : Int) = min p m := by
  rcases Nat.le_total p m with h | h
  · rw [clip_nat h, Nat.min_eq_left h]
  · unfold clipAt
    rw [if_neg (Int.not_lt.mpr (Int.natCast_nonneg p)), Int.min_eq_right (Int.ofNat_le.mpr h), Int.max_eq_right (Int.natCast_nonneg m), Nat.min_eq_right h]; exact Int.toNat_natCast _
theorem drop_min : xs.drop (min a xs.length) = xs.drop a := by
  rcases Nat.le_total a xs.length with h | h
  · rw [Nat.min_eq_left h]
  · rw [Nat.min_eq_right h, List.drop_eq_nil_of_le (Nat.le_refl _), List.drop_eq_nil_of_le h]
theorem cut_both : cutL xs (some (a : Int)) (some ((a + k : Nat) : Int)) = (xs.drop a).take k := by
  show (xs.drop (clipAt xs.length a)).take (clipAt xs.length ((a + k : Nat) : Int) - clipAt xs.length a) = _
  rw [clip_min, clip_min, drop_min]
  rcases Nat.le_total a xs.length with h | h
  · rw [Nat.min_eq_left h]
    rcases Nat.le_total (a + k) xs.length with h2 | h2
    · rw [Nat.min_eq_left h2, Nat.add_sub_cancel_left]
    · rw [Nat.min_eq_right h2, List.take_of_length_le (by rw [List.length_drop]; exact Nat.le_refl _), List.take_of_length_le (by rw [List.length_drop]; exact Nat.sub_le_iff_le_add'.mpr h2)]
  · rw [List.drop_eq_nil_of_le h, List.take_nil, List.take_nil]
theorem cut_from : cutL xs (some (a : Int)) none = xs.drop a := by
  show (xs.drop (clipAt xs.length a)).take (xs.length - clipAt xs.length a) = _
  rw [clip_min, drop_min, List.take_of_length_le]
  rw [List.length_drop]; exact Nat.sub_le_sub_left (Nat.min_le_left _ _) _
theorem cut_to : cutL xs none (some (a : Int)) = xs.take a := by
  show (xs.drop 0).take (clipAt xs.length a - 0) = _
  rw [clip_min, List.drop_zero, Nat.sub_zero, List.take_eq_take_iff, Nat.min_assoc, Nat.min_self]
theorem slc_l {xs ys : List AV} {l u : Option Int} (h : xs.length ≤ szl) (e : cutL xs l u = ys) : SlcR (.list xs) l u (.list ys) := e ▸ .list h
theorem sa_len : (sa ws).length = ws.length := List.length_map _
theorem sa_app {vs : List (List Nat)} : sa (ws ++ vs) = sa ws ++ sa vs := List.map_append
theorem fr_sa : frozens (sa ws) = true := by
  induction ws with
  | nil => rfl
  | cons c w ih => exact ih
theorem dec_small : ∀ n, n < 1000 → ((dec n).length.ble 3 && ((dec n).all isDig && !(dec n).isEmpty)) = true := by decide +kernel
theorem dec_len (h : a < 1000) : (dec a).length ≤ 3 := Nat.le_of_ble_eq_true (and_l (dec_small a h))

/-- rows on a list of rows -/
theorem app_sl (h : rd ρ k = some (.own σ.length)) (ha : D n (.e ρ e (σ ++ [sl ws]) (.str w) (σ ++ [sl ws]))) (hl : ws.length < szl) : D n (.s (.exp (.lm .append (.loc k) [e])) ρ (σ ++ [sl ws]) .next ρ (σ ++ [sl (ws ++ [w])])) :=
  own_app h ha rfl (by rw [List.length_map]; exact hl) sl_app
theorem ext_sl {vs : List (List Nat)} (h : rd ρ k = some (.own σ.length)) (ha : D n (.e ρ e (σ ++ [sl ws]) (.list (sa vs)) (σ ++ [sl ws]))) (hl : ws.length + vs.length ≤ szl) : D n (.s (.exp (.lm .extend (.loc k) [e])) ρ (σ ++ [sl ws]) .next ρ (σ ++ [sl (ws ++ vs)])) := by
  have q : D n (.s (.exp (.lm .extend (.loc k) [e])) ρ (σ ++ [sl ws]) .next ρ ((σ ++ [sl ws]).set σ.length (.list (sa ws ++ sa vs)))) := .exp (.lmE (.loc h) (.extend own_get) (.cons ha .nil) (.extend own_get fr_sa (by rw [sa_len, sa_len]; exact hl)))
  rw [own_set, ← sa_app] at q
  exact q
theorem up_len : (upTo word rows m).length ≤ m * 102 := by
  induction m with
  | zero => exact Nat.le_refl _
  | succ m ih =>
    rw [upTo, List.length_append, Nat.succ_mul]
    refine Nat.add_le_add ih ?_
    rw [blk, List.length_cons, List.length_append]
    exact Nat.succ_le_succ (Nat.succ_le_succ (List.length_take_le _ _))
theorem pt_len : (pt rows j).length ≤ 100 := List.length_take_le _ _
/-- the first line of a part, and the last -/
theorem e_first {x : ME} (hw : word.length ≤ 100) (ha : a ≤ 100) (h : D n (.e ρ x σ (.int a) σ)) (hk : rd ρ k = some (.str word)) : D n (.e ρ (.bin .Add (.bin .Add (.bi .str [x]) (.str [32, 98, 101, 103, 105, 110])) (.loc k)) σ (.str (dec a ++ bgn ++ word)) σ) := by
  have h3 := dec_len (Nat.lt_of_le_of_lt ha (by decide : 100 < 1000))
  exact .bin (.bin (.bi (.cons h .nil) (.str (Nat.lt_of_le_of_lt ha (by decide)))) .str (.addS (Nat.le_trans (Nat.add_le_add_right h3 6) (le_szl rfl)))) (.loc hk) (.addS (by
    rw [List.length_append]; exact Nat.le_trans (Nat.add_le_add (Nat.add_le_add_right h3 6) hw) (le_szl rfl)))
theorem e_last (hw : word.length ≤ 100) (hk : rd ρ k = some (.str word)) : D n (.e ρ (.bin .Add (.str [101, 110, 100]) (.loc k)) σ (.str (ens ++ word)) σ) := .bin .str (.loc hk) (.addS (Nat.le_trans (Nat.add_le_add_left hw 3) (le_szl rfl)))
theorem rng_at {pre post : List Nat} {x : Nat} (h : List.range m = pre ++ x :: post) : x = pre.length ∧ pre.length < m := by
  have h1 := len_mid h
  rw [List.length_range] at h1
  have h2 := List.getElem?_range h1
  rw [h, mid_get] at h2
  exact ⟨Option.some.inj h2, h1⟩
/-- rows, given or owned -/
noncomputable def rowsAt (σ : St) (x : AV) (rows : List (List Nat)) : Prop := x = .list (sa rows) ∨ ∃ k, x = .own k ∧ σ[k]? = some (sl rows)
theorem rowsAt.dr {τ : St} (h : rowsAt σ x rows) : dr (σ ++ τ) x = .list (sa rows) ∧ isDef x = true := by
  rcases h with rfl | ⟨k, rfl, hk⟩
  · exact ⟨rfl, rfl⟩
  · exact ⟨dr_own (by rw [List.getElem?_append_left (get_lt hk)]; exact hk), rfl⟩
theorem rd0 (h : isDef x = true) {r : List AV} : rd (x :: r) 0 = some x := by
  show cond (isDef x) (some x) none = some x
  rw [h]; rfl
theorem up_room (hj : m < (rows.length + 99) / 100) (hl : rows.length < 400000) : (upTo word rows m).length + 200 ≤ szl := by
  have h : m < 4001 := Nat.lt_of_lt_of_le hj (Nat.div_le_of_le_mul (Nat.le_trans (Nat.add_le_add_right (Nat.le_of_lt hl) 99) (by decide)))
  exact sz7 (Nat.lt_of_le_of_lt (Nat.add_le_add_right (Nat.le_trans up_len (Nat.mul_le_mul_right 102 (Nat.le_of_lt h))) 200) (by decide))
theorem e_lens (h : rd ρ k = some (.list (sa ws))) (hl : ws.length ≤ szl) : D n (.e ρ (.bi .len [.loc k]) σ (.int ws.length) σ) := by
  have q := e_lenl (n := n) (σ := σ) h (by rw [sa_len]; exact hl)
  rwa [sa_len] at q
theorem rng_ceil {b c m : Nat} (hc : 0 < c) (h : b ≤ m * c) (h2 : m * c < b + c) : rngLen 0 b c = m := by
  unfold rngLen
  cases b with
  | zero =>
    rw [if_neg fun q => absurd q.2 (Int.lt_irrefl _)]
    rw [Nat.zero_add] at h2
    cases m with
    | zero => rfl
    | succ m => rw [Nat.succ_mul] at h2; exact absurd h2 (Nat.not_lt.mpr (Nat.le_add_left _ _))
  | succ b =>
    rw [if_pos ⟨Int.ofNat_lt.mpr hc, Int.natCast_pos.mpr (Nat.succ_pos _)⟩]
    have e : ((b + 1 : Nat) : Int) - 0 + c - 1 = ((b + c : Nat) : Int) := by omega
    rw [e, ← Int.natCast_ediv, Int.toNat_natCast]
    exact Nat.div_eq_of_lt_le (Nat.le_of_lt_succ (by rw [Nat.add_right_comm] at h2; exact h2)) (by rw [Nat.succ_mul]; exact Nat.add_lt_add_right h c)
theorem it_ceil {b c m : Nat} (hc : 0 < c) (h : b ≤ m * c) (h2 : m * c < b + c) (hb : b < 1000000000) (h3 : c < 1000) : ItR (.rng 0 b c) ((List.range m).map fun (i : Nat) => .int ((i * c : Nat) : Int)) := by
  have q : ItR (.rng 0 b c) _ := .rng rfl (decide_eq_true (Nat.lt_trans hb (by decide))) ⟨Int.ofNat_lt.mpr hc, Int.lt_trans (Int.ofNat_lt.mpr h3) (by decide)⟩
  rw [rng_ceil hc h h2] at q
  rwa [show (fun (i : Nat) => AV.int (0 + i * c)) = fun (i : Nat) => .int ((i * c : Nat) : Int) from funext fun i => congrArg _ (Int.zero_add _)] at q
theorem ceil_facts {L : Nat} : L ≤ (L + 99) / 100 * 100 ∧ (L + 99) / 100 * 100 < L + 100 := by omega
theorem up_succ {f : List Nat} (hf : f = dec (pt rows j).length ++ bgn ++ word) : upTo word rows (j + 1) = ((upTo word rows j ++ [f]) ++ pt rows j) ++ [ens ++ word] := by
  subst hf
  rw [List.append_assoc, List.append_assoc]; rfl
theorem e_lenR (h : rowsAt σ x rows) (hk : rd ρ k = some x) (hl : rows.length ≤ szl) : D n (.e ρ (.bi .len [.loc k]) (σ ++ τ) (.int rows.length) (σ ++ τ)) :=
  .bi (.cons (.loc hk) .nil) (by
    rw [List.map_cons, h.dr.1, ← sa_len (ws := rows)]; exact .lenL (sa_len ▸ hl))
theorem part_lines (hw : word.length ≤ 100) (hl : rows.length < 400000) (hx : rowsAt σ x rows) : D (n + 1) (.f 36 [x, .str word] σ (.list (sa (parts word rows))) σ) := by
  have hf := (hx.dr (τ := [])).2
  have hz : rows.length ≤ szl := sz7 (Nat.lt_trans hl (by decide))
  have hz' : (sa rows).length ≤ szl := sa_len ▸ hz
  obtain ⟨_, ⟨y1, y2, rfl⟩, k⟩ := fo_acc (n := n) (i := 3) (b := wb (nthS ir36 1)) (f := fun (j : Nat) => .int ((j * 100 : Nat) : Int)) (all := List.range ((rows.length + 99) / 100)) (xs := List.range ((rows.length + 99) / 100)) (pre := []) (ρ := [x, .str word, .own σ.length, .undef, .undef]) (fun pre => σ ++ [sl (upTo word rows pre.length)]) (fun ρ => ∃ y1 y2, ρ = [x, .str word, .own σ.length, y1, y2]) (fun pre j post ρ h hρ => by
    obtain ⟨y1, y2, rfl⟩ := hρ
    obtain ⟨rfl, hj⟩ := rng_at h
    have hu := up_room (word := word) hj hl
    rw [(congrArg (upTo word rows) List.length_append).trans (up_succ rfl)]
    generalize pre.length = j at *
    have hq : SlcR (dr (σ ++ [sl (upTo word rows j)]) x) (some ((j * 100 : Nat) : Int)) (some (((j * 100 : Nat) : Int) + 100)) (.list (sa (pt rows j))) := by
      rw [hx.dr.1]
      exact slc_l hz' (cut_both.trans (by rw [sa, ← List.map_drop, ← List.map_take]; rfl))
    have hp := @pt_len j rows
    exact ⟨_, ⟨_, _, rfl⟩, .next (.asg rfl (.slc (.loc (rd0 hf)) (.osome (.loc rfl)) (.osome (.bin (.loc rfl) (.glb rfl) .addI)) hq)) (.next (app_sl rfl (e_first hw hp (e_lens rfl (Nat.le_trans hp (le_szl rfl))) rfl) (Nat.lt_of_lt_of_le (Nat.lt_add_of_pos_right (by decide)) hu))
      (.next (ext_sl rfl (.loc rfl) (by rw [List.length_append]; exact Nat.le_trans (Nat.add_le_add_left (Nat.le_trans hp (by decide : 100 ≤ 199)) _) (by rw [Nat.add_assoc]; exact hu)) ) (.one (app_sl rfl (e_last (k := 1) hw rfl) (by
          rw [List.length_append, List.length_append]; exact Nat.lt_of_lt_of_le (by rw [Nat.add_assoc]; exact Nat.add_lt_add_left (Nat.lt_of_le_of_lt (Nat.add_le_add_left hp 1) (by decide)) _) hu)))))⟩) rfl ⟨_, _, rfl⟩
  rw [List.length_range] at k
  exact .fnL (ir := ir36) rfl rfl rfl rfl (.next (.asg rfl (.newl .nil rfl (Nat.zero_le _))) (.next (.for_ (.bi (.cons .num (.cons (e_lenR hx (rd0 hf) hz) (.cons (.glb rfl) .nil))) (.rng3 (c := 100) (by decide) (by decide))) (it_ceil (c := 100) (by decide) ceil_facts.1 ceil_facts.2 (Nat.lt_trans hl (by decide)) (by decide)) (by rw [List.length_map, List.length_range]; exact sz7 (Nat.lt_of_le_of_lt (Nat.div_le_self _ _) (Nat.lt_trans (Nat.add_lt_add_right hl 99) (by decide)))) k) (.one (.ret rfl (.loc rfl))))) rfl (own_get (l := [])) (Nat.le_refl _) own_take
end
section
variable {n : Nat} {σ σ1 σ2 τ τ' : St} {i j p q k m : Nat} {a b c z len code : Nat} {d w r rest us t pre word : List Nat} {ρ ρ' : List AV} {s : MS} {e e' : ME} {o : Out} {u v x y : AV} {rows ws : List (List Nat)}
theorem minN : BiR .min [.int a, .int b] (.int ((min a b : Nat) : Int)) := by
  have q : BiR .min [.int a, .int b] _ := .min
  rcases Nat.lt_or_ge b a with h | h
  · rw [if_pos (Int.ofNat_lt.mpr h)] at q; rw [Nat.min_eq_right (Nat.le_of_lt h)]; exact q
  · rw [if_neg (Int.not_lt.mpr (Int.ofNat_le.mpr h))] at q; rw [Nat.min_eq_left h]; exact q
theorem addSA {vs : List (List Nat)} (h : ws.length + vs.length ≤ szl) : BinR .Add (.list (sa ws)) (.list (sa vs)) (.list (sa (ws ++ vs))) := by
  rw [sa_app]; exact .addL (by rw [sa_len, sa_len]; exact h)
theorem slc_to (h : ws.length ≤ szl) : SlcR (.list (sa ws)) none (some (k : Int)) (.list (sa (ws.take k))) := slc_l (sa_len ▸ h) (cut_to.trans List.map_take.symm)
theorem slc_from (h : ws.length ≤ szl) : SlcR (.list (sa ws)) (some (k : Int)) none (.list (sa (ws.drop k))) := slc_l (sa_len ▸ h) (cut_from.trans List.map_drop.symm)
theorem lp_turn (hw : word.length ≤ 100) (hr : ws.length ≤ 400000) (hl : rows.length + 200 ≤ szl) : D n (.ss (wb (nthS ir47 1)) [.list (sa ws), .str word, .own σ.length] (σ ++ [sl rows]) .next [.list (sa (ws.drop 100)), .str word, .own σ.length] (σ ++ [sl (rows ++ blk word (ws.take 100))])) := by
  have hz : ws.length ≤ szl := sz7 (Nat.lt_of_le_of_lt hr (by decide))
  have hz' : (sa ws).length ≤ szl := sa_len ▸ hz
  have hp : (ws.take 100).length ≤ 100 := List.length_take_le _ _
  have f := e_first (n := n) (ρ := [.list (sa ws), .str word, .own σ.length]) (k := 1) (σ := σ ++ [sl rows]) (a := min 100 ws.length) hw (Nat.min_le_left _ _) (.bi (.cons .num (.cons (e_lens (k := 0) rfl hz) .nil)) minN) rfl
  rw [← List.length_take] at f
  have g : blk word (ws.take 100) = ([dec (ws.take 100).length ++ bgn ++ word] ++ ws.take 100) ++ [ens ++ word] := rfl
  have hb : (blk word (ws.take 100)).length ≤ 102 := by rw [g, List.length_append, List.length_append, Nat.add_comm [_].length]; exact Nat.add_le_add_right (Nat.add_le_add_right hp 1) 1
  have h1 : [dec (ws.take 100).length ++ bgn ++ word].length + (ws.take 100).length ≤ 101 := by rw [Nat.add_comm]; exact Nat.add_le_add_right hp 1
  exact .next (ext_sl rfl (.bin (.bin (.lst (.cons f .nil) (le_szl rfl)) (.slc (.loc rfl) .onil (.osome .num) (slc_to (k := 100) hz)) (addSA (ws := [dec (ws.take 100).length ++ bgn ++ word]) (Nat.le_trans h1 (le_szl rfl)))) (.lst (.cons (e_last (k := 1) hw rfl) .nil) (le_szl rfl)) (addSA (vs := [ens ++ word]) (by rw [List.length_append]; exact Nat.le_trans (Nat.add_le_add_right h1 1) (le_szl rfl))))
    (Nat.le_trans (Nat.add_le_add_left (Nat.le_trans hb (by decide)) _) hl)) (.one (.asg rfl (.slc (.loc rfl) (.osome .num) .onil (slc_from (k := 100) hz))))
theorem lp_loop (hw : word.length ≤ 100) (hl : rows.length < 400000) (h : j + k = (rows.length + 99) / 100) : D n (.wh (wt (nthS ir47 1)) (wb (nthS ir47 1)) [.list (sa (rows.drop (j * 100))), .str word, .own σ.length] (σ ++ [sl (upTo word rows j)]) .next [.list [], .str word, .own σ.length] (σ ++ [sl (parts word rows)])) := by
  have hr : ∀ j, (rows.drop (j * 100)).length ≤ 400000 := fun j => Nat.le_trans (by rw [List.length_drop]; exact Nat.sub_le _ _) (Nat.le_of_lt hl)
  induction k generalizing j with
  | zero =>
    have e : rows.drop (j * 100) = [] := List.drop_eq_nil_of_le (by rw [show j = _ from h]; exact ceil_facts.1)
    rw [e, show upTo word rows j = parts word rows from congrArg _ h]
    exact .whdone (.tgen rfl (.loc rfl) (.list (Nat.zero_le _)))
  | succ k ih =>
    have hj : j < (rows.length + 99) / 100 := h ▸ Nat.lt_add_of_pos_right (Nat.succ_pos k)
    have q := ih (j := j + 1) ((Nat.add_right_comm j 1 k).trans h)
    have e : rows.drop ((j + 1) * 100) = (rows.drop (j * 100)).drop 100 := by rw [List.drop_drop, Nat.succ_mul]
    rw [e] at q
    have hne : rows.drop (j * 100) ≠ [] := fun e => by
      have h1 := List.drop_eq_nil_iff.mp e
      have h2 := @ceil_facts rows.length
      omega
    have t : TruR (.list (sa (rows.drop (j * 100)))) true := by
      obtain ⟨c, r, e⟩ := List.exists_cons_of_ne_nil hne
      have z := sz7 (Nat.lt_of_le_of_lt (hr j) (by decide))
      rw [e] at z ⊢
      exact .list (sa_len ▸ z)
    exact .whgo (.tgen rfl (.loc rfl) t) (lp_turn hw (hr j) (up_room hj hl)) rfl q
theorem law_parts (hw : word.length ≤ 100) (hl : rows.length < 400000) : D (n + 1) (.f 47 [.list (sa rows), .str word] σ (.list (sa (parts word rows))) σ) :=
  .fnL (ir := ir47) (ρ := [.list (sa rows), .str word, .undef]) rfl rfl rfl rfl (.next (.asg rfl (.newl .nil rfl (Nat.zero_le _))) (.next (.whl (lp_loop (j := 0) hw hl (Nat.zero_add _))) (.one (.ret rfl (.loc rfl))))) rfl (own_get (l := [])) (Nat.le_refl _) own_take
end
/-! octets and codes -/
section
variable {l c n k j a : Nat} {w v : List Nat}
theorem snoc_or {w : List Nat} : w = [] ∨ ∃ y z, w = y ++ [z] := (List.eq_nil_or_concat w).imp id fun ⟨y, z, h⟩ => ⟨y, z, h.trans List.concat_eq_append⟩
theorem val_snoc : valF 0 (w ++ [c]) = 256 * valF 0 w + c := List.foldl_append
theorem octs_succ : octs (l + 1) c = octs l (c / 256) ++ [c % 256] := by
  unfold octs
  rw [List.range_succ, List.map_append]
  refine congr (congrArg _ (List.map_congr_left fun j hj => ?_)) ?_
  · have hj := List.mem_range.mp hj
    rw [Nat.div_div_eq_div_mul, Nat.mul_comm 256, ← Nat.pow_succ, show l + 1 - 1 - j = (l - 1 - j).succ from by rw [Nat.add_sub_cancel, Nat.sub_right_comm]; exact (Nat.succ_pred_eq_of_pos (Nat.sub_pos_of_lt hj)).symm]
  · rw [List.map_singleton, Nat.add_sub_cancel, Nat.sub_self, Nat.pow_zero, Nat.div_one]
theorem val_octs (h : c < 256 ^ l) : valF 0 (octs l c) = c := by
  induction l generalizing c with
  | zero => exact (Nat.lt_one_iff.mp h).symm
  | succ l ih => rw [octs_succ, val_snoc, ih (Nat.div_lt_of_lt_mul (by rwa [Nat.pow_succ, Nat.mul_comm] at h))]; exact Nat.div_add_mod c 256
theorem octs_val (h : w.length = n) (hw : ∀ o ∈ w, o < 256) : octs n (valF 0 w) = w ∧ valF 0 w < 256 ^ n := by
  induction n generalizing w with
  | zero => cases List.length_eq_zero_iff.mp h; exact ⟨rfl, Nat.one_pos⟩
  | succ n ih =>
    rcases snoc_or (w := w) with rfl | ⟨y, z, rfl⟩
    · cases h
    · rw [List.length_append] at h
      obtain ⟨h1, h2⟩ := ih (Nat.succ.inj h) fun o ho => hw o (List.mem_append_left _ ho)
      have hz := hw z (List.mem_append_right _ (.head _))
      rw [val_snoc, octs_succ, Nat.add_comm, Nat.add_mul_div_left _ _ (by decide), Nat.div_eq_of_lt hz, Nat.zero_add, Nat.add_mul_mod_self_left, Nat.mod_eq_of_lt hz, h1, Nat.pow_succ]
      exact ⟨rfl, by omega⟩
theorem octs_inj {c' : Nat} (h : c < 256 ^ l) (h' : c' < 256 ^ l) (e : octs l c = octs l c') : c = c' := by rw [← val_octs h, e, val_octs h']
end

/-! entries -/
structure En where
  l : Nat
  c : Nat
  t : List Nat
noncomputable def En.key (e : En) : List Int := [(e.l : Int), (e.c : Int)]
noncomputable def En.kv (e : En) : List Int × List Nat := (e.key, e.t)
noncomputable def En.o (e : En) : List Nat := octs e.l e.c
noncomputable def En.u (e : En) : List Nat := u16 e.t
structure En.Good (e : En) : Prop where
  l1 : e.l ≠ 0
  l4 : e.l ≤ 4
  c : e.c < 256 ^ e.l
  t : ∀ x ∈ e.t, goodC x
  t2 : e.t.length ≤ 2
noncomputable def lastO (w : List Nat) : Nat := w.getLastD 0
noncomputable def bump (w : List Nat) (k : Nat) : List Nat := w.dropLast ++ [lastO w + k]
/-- w is v, its last octet raised by k -/
noncomputable def bumpB (w v : List Nat) (k : Nat) : Bool := w.dropLast == v.dropLast && Nat.beq (lastO w) (lastO v + k)
noncomputable def cnd (a b : En) (k : Nat) : Bool := (Nat.beq b.l a.l && Nat.beq b.c (a.c + k)) && (Nat.beq (b.c / 256) (a.c / 256) && (!b.u.isEmpty && bumpB b.u a.u k))
section
variable {l c n k j o : Nat} {w v : List Nat} {a b e : En} {r E es pre : List En} {p : Nat × Nat}
theorem lastO_snoc : lastO (w ++ [o]) = o := by rw [lastO, List.getLastD_eq_getLast?, List.getLast?_concat]; rfl
theorem bump_snoc : bump (w ++ [o]) k = w ++ [o + k] := by rw [bump, lastO_snoc, List.dropLast_concat]
theorem split_last (h : w ≠ []) : w = w.dropLast ++ [lastO w] := by
  rcases snoc_or (w := w) with rfl | ⟨y, z, rfl⟩
  · exact absurd rfl h
  · rw [List.dropLast_concat, lastO_snoc]
theorem u_even : ∃ m, e.u.length = m * 2 := ⟨_, halves_len⟩
theorem bumpB_eq (h : b.u ≠ []) (hb : bumpB b.u v k = true) : v ≠ [] ∧ b.u = bump v k := by
  have h1 := eq_of_beq (and_l hb)
  have h2 := Nat.eq_of_beq_eq_true (and_r hb)
  refine ⟨fun e => ?_, by rw [bump, ← h1, ← h2]; exact split_last h⟩
  subst e
  have h3 := split_last h
  rw [h1] at h3
  obtain ⟨m, hm⟩ := @u_even b
  rw [h3] at hm
  exact absurd hm (by show 0 + 1 ≠ _; omega)
theorem cnd_of (h : cnd a b k = true) : b.l = a.l ∧ b.c = a.c + k ∧ b.c / 256 = a.c / 256 ∧ a.u ≠ [] ∧ b.u = bump a.u k := by
  have h1 := and_l h; have h2 := and_r h
  have h3 : b.u ≠ [] := fun e => by have := and_l (and_r h2); rw [e] at this; cases this
  exact ⟨Nat.eq_of_beq_eq_true (and_l h1), Nat.eq_of_beq_eq_true (and_r h1), Nat.eq_of_beq_eq_true (and_l h2), bumpB_eq h3 (and_r (and_r h2))⟩
/-- the same, said of octets -/
theorem cnd_octs (ha : a.Good) (hb : b.Good) : (b.l = a.l ∧ b.c = a.c + k ∧ b.c / 256 = a.c / 256) ↔ b.o = bump a.o k := by
  obtain ⟨la, h1⟩ := Nat.exists_eq_succ_of_ne_zero ha.l1
  obtain ⟨lb, h2⟩ := Nat.exists_eq_succ_of_ne_zero hb.l1
  have h3 := ha.c; have h4 := hb.c
  unfold En.o
  rw [h1, h2] at *
  rw [octs_succ, octs_succ, bump_snoc]
  rw [Nat.pow_succ, Nat.mul_comm] at h3 h4
  constructor
  · rintro ⟨e1, e2, e3⟩
    cases Nat.succ.inj e1
    rw [e3, show b.c % 256 = a.c % 256 + k by omega]
  · intro e
    have := List.append_inj' e rfl
    have hl := congrArg List.length this.1
    rw [octs_len, octs_len] at hl
    subst hl
    have e1 := octs_inj (Nat.div_lt_of_lt_mul h4) (Nat.div_lt_of_lt_mul h3) this.1
    have e2 : b.c % 256 = a.c % 256 + k := (List.cons.inj this.2).1
    exact ⟨rfl, by omega, e1⟩

/-! runs -/
noncomputable def ext (a : En) : Nat → List En → Nat
  | _, [] => 0
  | k, b :: r => cond (cnd a b k) (ext a (k + 1) r + 1) 0
theorem ext_le : ext a k r ≤ r.length := by
  induction r generalizing k with
  | nil => exact Nat.le_refl _
  | cons b r ih =>
    rw [ext]
    cases cnd a b k with
    | true => exact Nat.succ_le_succ ih
    | false => exact Nat.zero_le _
theorem ext_get (h : j < ext a k r) (e : r[j]? = some b) : cnd a b (k + j) = true := by
  induction r generalizing k j with
  | nil => cases e
  | cons c r ih =>
    rw [ext] at h
    cases hc : cnd a c k with
    | false => rw [hc] at h; cases h
    | true =>
      rw [hc] at h
      cases j with
      | zero => cases e; exact hc
      | succ j => rw [show k + (j + 1) = k + 1 + j from Nat.add_right_comm k j 1]; exact ih (Nat.lt_of_succ_lt_succ h) e
noncomputable def prsF : Nat → Nat → List En → List (Nat × Nat)
  | 0, _, _ => []
  | _ + 1, _, [] => []
  | n + 1, at_, a :: r => (at_, at_ + 1 + ext a 1 r) :: prsF n (at_ + 1 + ext a 1 r) (r.drop (ext a 1 r))
noncomputable def slice (E : List En) (p : Nat × Nat) : List En := (E.drop p.1).take (p.2 - p.1)
/-- what a pair says of the entries -/
structure PairOk (E : List En) (p : Nat × Nat) : Prop where
  lt : p.1 < p.2
  le : p.2 ≤ E.length
  run : ∀ (a b : En) (j : Nat), E[p.1]? = some a → p.1 + (j + 1) < p.2 → E[p.1 + (j + 1)]? = some b → cnd a b (j + 1) = true
theorem drop_more {m : Nat} (hd : E.drop k = a :: r) : E.drop (k + 1 + m) = r.drop m := by rw [Nat.add_assoc, ← List.drop_drop, hd, Nat.add_comm 1]; rfl
theorem drop_at {α : Type} {E r : List α} {a : α} (hd : E.drop k = a :: r) : E[k]? = some a ∧ ∀ j, E[k + (j + 1)]? = r[j]? := by
  constructor
  · rw [← List.head?_drop, hd]; rfl
  · intro j; rw [← List.getElem?_drop, hd]; rfl
theorem drop_len (hd : E.drop k = a :: r) : k + (r.length + 1) = E.length := by
  have h := congrArg List.length hd
  rw [List.length_drop] at h
  have : k < E.length := get_lt (drop_at hd).1
  exact (congrArg (k + ·) h.symm).trans (Nat.add_sub_cancel' (Nat.le_of_lt this))
theorem pairs_ok {at_ : Nat} (hd : E.drop at_ = r) : ∀ p ∈ prsF n at_ r, PairOk E p := by
  induction n generalizing at_ r with
  | zero => exact fun p h => nomatch h
  | succ n ih =>
    cases r with
    | nil => exact fun p h => nomatch h
    | cons a r =>
      intro p h
      cases h with
      | head =>
        refine ⟨Nat.lt_of_lt_of_le (Nat.lt_succ_self _) (Nat.le_add_right _ _), by rw [← drop_len hd, Nat.add_assoc, Nat.add_comm 1]; exact Nat.add_le_add_left (Nat.succ_le_succ ext_le) _, fun a' b j h1 h2 h3 => ?_⟩
        cases (drop_at hd).1.symm.trans h1
        rw [Nat.add_comm j 1]
        exact ext_get (Nat.lt_of_add_lt_add_left (n := at_ + 1) (by rw [Nat.add_assoc, Nat.add_comm 1 j]; exact h2)) (((drop_at hd).2 j).symm.trans h3)
      | tail _ h => exact ih (drop_more hd) p h
theorem pairs_slices {at_ : Nat} (hn : r.length ≤ n) (hd : E.drop at_ = r) : (prsF n at_ r).flatMap (slice E) = r := by
  induction n generalizing at_ r with
  | zero => cases List.length_eq_zero_iff.mp (Nat.le_zero.mp hn); rfl
  | succ n ih =>
    cases r with
    | nil => rfl
    | cons a r =>
      rw [prsF, List.flatMap_cons, ih (by rw [List.length_drop]; exact Nat.le_trans (Nat.sub_le _ _) (Nat.le_of_succ_le_succ hn)) (drop_more hd), slice, hd, Nat.add_assoc, Nat.add_sub_cancel_left, Nat.add_comm 1]
      exact congrArg (a :: ·) (List.take_append_drop _ _)
theorem pairs_len {at_ : Nat} : (prsF n at_ r).length ≤ n := by
  induction n generalizing at_ r with
  | zero => exact Nat.le_refl _
  | succ n ih =>
    cases r with
    | nil => exact Nat.zero_le _
    | cons a r => exact Nat.succ_le_succ ih

/-! sorting -/
noncomputable def insE (e : En) : List En → List En
  | [] => [e]
  | x :: r => if keyLt e.key x.key then e :: x :: r else x :: insE e r
noncomputable def sortE : List En → List En
  | [] => []
  | e :: r => insE e (sortE r)
theorem insE_key : (insE e r).map En.key = insK e.key (r.map En.key) := by
  induction r with
  | nil => rfl
  | cons x r ih =>
    show (if keyLt e.key x.key then e :: x :: r else x :: insE e r).map En.key = if keyLt e.key x.key then e.key :: x.key :: r.map En.key else x.key :: insK e.key (r.map En.key)
    cases keyLt e.key x.key with
    | true => rfl
    | false => exact congrArg (x.key :: ·) ih
theorem sortE_key : (sortE r).map En.key = sortK (r.map En.key) := by
  induction r with
  | nil => rfl
  | cons e r ih => exact insE_key.trans (congrArg _ ih)
theorem insE_perm : (insE e r).Perm (e :: r) := by
  induction r with
  | nil => exact .refl _
  | cons x r ih =>
    show (if keyLt e.key x.key then e :: x :: r else x :: insE e r).Perm _
    cases keyLt e.key x.key with
    | true => exact .refl _
    | false => exact (ih.cons x).trans (.swap _ _ _)
theorem sortE_perm : (sortE r).Perm r := by
  induction r with
  | nil => exact .refl _
  | cons e r ih => exact insE_perm.trans (ih.cons e)

/-! maps -/
noncomputable def puts (m : List (List Int × List Nat)) (es : List En) : List (List Int × List Nat) := es.foldl (fun m e => putM e.key e.t m) m
theorem putM_new {k : List Int} {v : List Nat} {m : List (List Int × List Nat)} (h : ∀ p ∈ m, p.1 ≠ k) : putM k v m = m ++ [(k, v)] := by
  induction m with
  | nil => rfl
  | cons x r ih => rw [putM, if_neg (h x (.head _)), ih fun p hp => h p (.tail _ hp)]; rfl
theorem puts_new (h : ((pre ++ es).map En.key).Nodup) : puts (pre.map En.kv) es = (pre ++ es).map En.kv := by
  induction es generalizing pre with
  | nil => rw [List.append_nil]; rfl
  | cons e es ih =>
    have h1 : putM e.key e.t (pre.map En.kv) = (pre ++ [e]).map En.kv := by
      rw [putM_new, List.map_append]; rfl
      intro p hp
      obtain ⟨x, hx, rfl⟩ := List.mem_map.mp hp
      rw [List.map_append, List.nodup_append] at h
      exact h.2.2 _ (List.mem_map_of_mem hx) _ (.head _)
    have e2 : pre ++ e :: es = (pre ++ [e]) ++ es := (List.append_assoc pre [e] es).symm
    rw [e2] at h ⊢
    rw [← ih h, ← h1]; rfl
theorem lookup_of (hn : (es.map En.key).Nodup) (he : e ∈ es) : (es.map En.kv).lookup e.key = some e.t := by
  induction es with
  | nil => cases he
  | cons x es ih =>
    have hn := List.nodup_cons.mp hn
    cases he with
    | head => exact List.lookup_cons_self
    | tail _ he =>
      rw [List.map_cons, En.kv, List.lookup_cons, beq_eq_false_iff_ne.mpr fun q => hn.1 (List.mem_map.mpr ⟨_, he, q⟩)]
      exact ih hn.2 he
end
noncomputable def keyA (e : En) : AV := .tup [.int e.l, .int e.c]
section
variable {n : Nat} {σ σ1 σ2 τ τ' : St} {i j p q k m x y : Nat} {c z len code : Nat} {d w r rest us t pre word : List Nat} {ρ ρ' : List AV} {s : MS} {e e' : ME} {o : Out} {u v : AV} {a b : En} {E : List En}
theorem beq_nat : ((x : Int) == (y : Int)) = Nat.beq x y := by
  cases h : Nat.beq x y with
  | true => rw [Nat.eq_of_beq_eq_true h]; exact beq_self_eq_true _
  | false => exact beq_eq_false_iff_ne.mpr (ofNat_ne h)
theorem cb2 {a b c d : Int} : CB (n + 1) (.tup [.int a, .int b]) (.tup [.int c, .int d]) := .tup fun j x y h1 h2 => by
  match j, h1, h2 with
  | 0, rfl, rfl => exact .int
  | 1, rfl, rfl => exact .int
theorem cut_dl {α : Type} {xs : List α} : cutL xs none (some (-1)) = xs.dropLast := by
  show (xs.drop 0).take (clipAt xs.length (-1) - 0) = _
  rw [List.drop_zero, Nat.sub_zero, List.dropLast_eq_take]
  congr 1
  cases xs.length with
  | zero => rfl
  | succ m =>
    have e : (-1 : Int) + ((m + 1 : Nat) : Int) = m := by omega
    unfold clipAt
    rw [if_pos (by decide), e, Int.min_eq_left (Int.ofNat_le.mpr (Nat.le_succ m)), Int.max_eq_right (Int.natCast_nonneg m)]; exact Int.toNat_natCast _
theorem lastO_get (h : w ≠ []) : w[w.length - 1]? = some (lastO w) := by
  rcases snoc_or (w := w) with rfl | ⟨y, z, rfl⟩
  · exact absurd rfl h
  · rw [lastO_snoc, List.length_append]; exact mid_get
theorem tk20 {x1 x2 : AV} (h : rd ρ k = some (.tup [x1, x2])) : D n (.e ρ (.sub (.loc k) (.num 0)) σ x1 σ) := .sub (.loc h) .num (.tup (le_szl rfl) (.pos (j := 0) rfl) rfl)
theorem tk21 {x1 x2 : AV} (h : rd ρ k = some (.tup [x1, x2])) : D n (.e ρ (.sub (.loc k) (.num 1)) σ x2 σ) := .sub (.loc h) .num (.tup (le_szl rfl) (.pos (j := 1) rfl) rfl)
theorem e_lastb (h : rd ρ k = some (.bytes w)) (hw : w ≠ []) (hl : w.length ≤ szl) : D n (.e ρ (.sub (.loc k) (.neg 1)) σ (.int (lastO w)) σ) := .sub (.loc h) .neg (.bytes hl .neg (lastO_get hw))
theorem runs_on (ha : a.u.length ≤ szl) (hb : b.u.length ≤ szl) : D (n + 1) (.f 34 [keyA a, .bytes a.u, keyA b, .bytes b.u, .int k] σ (.bool (cnd a b k)) σ) := by
  refine .fnV (ir := ir34) (ρ' := [keyA a, .bytes a.u, keyA b, .bytes b.u, .int k]) rfl rfl rfl rfl ?_ rfl rfl
  have t1 : ∀ {c : Bool}, (Nat.beq b.l a.l && Nat.beq b.c (a.c + k)) = (!c) → D n (.t [keyA a, .bytes a.u, keyA b, .bytes b.u, .int k] (.cmp (.loc 2) [.NotEq] [.tup [.sub (.loc 0) (.num 0), .bin .Add (.sub (.loc 0) (.num 1)) (.loc 4)]]) σ c σ) := fun h =>
    .tcmp (.loc rfl) (.cone (.tup (.cons (tk20 rfl) (.cons (.bin (tk21 rfl) (.loc rfl) .addI) .nil)) (.same rfl) (le_szl rfl)) (cmp_b (.ne (.cmp cb2)) (by
      show (!(((b.l : Int) == a.l) && (((b.c : Int) == ((a.c + k : Nat) : Int)) && true))) = _
      rw [beq_nat, beq_nat, Bool.and_true, h, Bool.not_not])))
  have t2 : ∀ {c : Bool}, Nat.beq (b.c / 256) (a.c / 256) = (!c) → D n (.t [keyA a, .bytes a.u, keyA b, .bytes b.u, .int k] (.cmp (.bin .RShift (.sub (.loc 2) (.num 1)) (.num 8)) [.NotEq] [.bin .RShift (.sub (.loc 0) (.num 1)) (.num 8)]) σ c σ) := fun h =>
    .tcmp (.bin (tk21 rfl) .num (shrN (k := 8))) (.cone (.bin (tk21 rfl) .num (shrN (k := 8))) (cmp_b (.ne (.cmp .int)) (by
      show (!(((b.c / 256 : Nat) : Int) == ((a.c / 256 : Nat) : Int))) = _
      rw [beq_nat, h, Bool.not_not])))
  have t3 : ∀ {c : Bool}, b.u.isEmpty = c → D n (.t [keyA a, .bytes a.u, keyA b, .bytes b.u, .int k] (.cmp (.loc 3) [.Eq] [.byt []]) σ c σ) := fun h => .tcmp (.loc rfl) (.cone .byt (cmp_b (.eq .byt) (by rw [← h]; cases b.u <;> rfl)))
  unfold cnd
  cases h1 : (Nat.beq b.l a.l && Nat.beq b.c (a.c + k)) with
  | false => exact .stop (.ifT (.tbop (.tbstop (t1 h1))) (.one (.ret rfl .boo))) rfl
  | true =>
    cases h2 : Nat.beq (b.c / 256) (a.c / 256) with
    | false => exact .stop (.ifT (.tbop (.tbgo (t1 h1) (.tbstop (t2 h2)))) (.one (.ret rfl .boo))) rfl
    | true =>
      cases h3 : b.u.isEmpty with
      | true => exact .stop (.ifT (.tbop (.tbgo (t1 (c := false) h1) (.tbgo (t2 (c := false) h2) (.tbstop (t3 h3))))) (.one (.ret rfl .boo))) rfl
      | false =>
        have hn : b.u ≠ [] := fun e => by rw [e] at h3; cases h3
        refine .next (.if0 (.tbop (.tbgo (t1 (c := false) h1) (.tbgo (t2 (c := false) h2) (.tbgo (t3 h3) .tbnil))))) (.one (.ret rfl (.bop ?_)))
        show D n (.bs _ _ _ _ (.bool (bumpB b.u a.u k)) _)
        have s1 : D n (.e [keyA a, .bytes a.u, keyA b, .bytes b.u, .int k] (.cmp (.slc (.loc 3) none (some (.neg 1))) [.Eq] [.slc (.loc 1) none (some (.neg 1))]) σ (.bool (b.u.dropLast == a.u.dropLast)) σ) :=
          .cmp (.slc (.loc rfl) .onil (.osome .neg) (slc_b hb cut_dl)) (.cone (.slc (.loc rfl) .onil (.osome .neg) (slc_b ha cut_dl)) (.eq .byt))
        cases h4 : b.u.dropLast == a.u.dropLast with
        | false =>
          rw [h4] at s1
          rw [bumpB, h4]
          exact .bsstop s1 .bool
        | true =>
          rw [h4] at s1
          rw [bumpB, h4]
          have hna : a.u ≠ [] := fun e => by
            have h5 := split_last hn
            rw [eq_of_beq h4, e] at h5
            obtain ⟨m, hm⟩ := @u_even b
            rw [h5] at hm
            exact absurd hm (by show 0 + 1 ≠ _; omega)
          exact .bsgo s1 .bool (.bsone (.cmp (e_lastb rfl hn hb) (.cone (.bin (e_lastb rfl hna ha) (.loc rfl) .addI) (cmp_b (.eq (.cmp .int)) (beq_nat (x := lastO b.u) (y := lastO a.u + k))))))

/-! runs_of -/
noncomputable def ks (E : List En) : List AV := E.map keyA
noncomputable def tsA (E : List En) : List AV := E.map fun e => .bytes e.u
noncomputable def pairA (p : Nat × Nat) : List AV := [.int p.1, .int p.2]
noncomputable def prs (P : List (Nat × Nat)) : List AV := P.map fun p => .tup (pairA p)
noncomputable def roT : ME := wt ((wb (nthS ir35 2)).getD 1 .stuck)
noncomputable def roB : List MS := wb ((wb (nthS ir35 2)).getD 1 .stuck)
theorem map_at {α : Type} {f : α → AV} {l : List α} {x : α} (h : l[j]? = some x) : (l.map f)[j]? = some (f x) := by rw [List.getElem?_map, h]; rfl
theorem ro_inner {q : Nat} {ra : List En} (hE : ∀ e ∈ E, e.u.length ≤ szl) (hl : E.length ≤ szl) (ha : E[q]? = some a) (h : ∀ j, E[q + 1 + (k + j)]? = ra[j]?) (hlen : q + 1 + (k + ra.length) = E.length) :
    D (n + 1) (.wh roT roB [.list (ks E), .list (tsA E), u, .int q, .int ((q + 1 + k : Nat) : Int)] σ .next [.list (ks E), .list (tsA E), u, .int q, .int ((q + 1 + (k + ext a (k + 1) ra) : Nat) : Int)] σ) := by
  have hk : (ks E).length ≤ szl := (List.length_map _).symm ▸ hl
  have ht : (tsA E).length ≤ szl := (List.length_map _).symm ▸ hl
  induction ra generalizing k with
  | nil =>
    exact .whdone (.tbop (.tbstop (.tcmp (.loc rfl) (.cone (e_lenl rfl hk) (ltF (by rw [ks, List.length_map, ← hlen]; exact Int.le_refl _))))))
  | cons b ra ih =>
    have hb := h 0
    have hs : BinR .Sub (.int ((q + 1 + k : Nat) : Int)) (.int q) (.int ((k + 1 : Nat) : Int)) := subN (by rw [Nat.add_right_comm q 1 k, Nat.add_assoc q k 1, Nat.add_comm])
    have hc := runs_on (n := n) (σ := σ) (k := k + 1) (hE a (List.mem_of_getElem? ha)) (hE b (List.mem_of_getElem? hb))
    have hlt : D (n + 1) (.t [.list (ks E), .list (tsA E), u, .int q, .int ((q + 1 + k : Nat) : Int)] (.cmp (.loc 4) [.Lt] [.bi .len [.loc 0]]) σ true σ) := .tcmp (.loc rfl) (.cone (e_lenl rfl hk) (ltT (Int.ofNat_lt.mpr (by rw [ks, List.length_map, ← hlen]; exact Nat.add_lt_add_left (Nat.lt_add_of_pos_right (Nat.succ_pos _)) _))))
    have hcall : ∀ {c : Bool}, cnd a b (k + 1) = c → D (n + 1) (.t [.list (ks E), .list (tsA E), u, .int q, .int ((q + 1 + k : Nat) : Int)] (.call 34 [.sub (.loc 0) (.loc 3), .sub (.loc 1) (.loc 3), .sub (.loc 0) (.loc 4), .sub (.loc 1) (.loc 4), .bin .Sub (.loc 4) (.loc 3)]) σ c σ) := fun e =>
      .tgen rfl (.call (.cons (.sub (.loc rfl) (.loc rfl) (.list hk (.pos rfl) (map_at ha))) (.cons (.sub (.loc rfl) (.loc rfl) (.list ht (.pos rfl) (map_at ha))) (.cons (.sub (.loc rfl) (.loc rfl) (.list hk (.pos rfl) (map_at hb))) (.cons (.sub (.loc rfl) (.loc rfl) (.list ht (.pos rfl) (map_at hb))) (.cons (.bin (.loc rfl) (.loc rfl) hs) .nil))))) hc) (e ▸ .bool)
    rw [ext]
    cases e : cnd a b (k + 1) with
    | false => exact .whdone (.tbop (.tbgo hlt (.tbstop (hcall e))))
    | true =>
      have q2 := ih (k := k + 1) (fun j => (congrArg (E[·]?) (congrArg (q + 1 + ·) (Nat.add_right_comm k 1 j))).trans (h (j + 1))) ((congrArg (q + 1 + ·) (Nat.add_right_comm k 1 _)).trans hlen)
      rw [Nat.add_right_comm k 1] at q2
      exact .whgo (.tbop (.tbgo hlt (.tbgo (hcall e) .tbnil))) (.one (.asg rfl (.bin (.loc rfl) .num .addI))) rfl q2
noncomputable def pl (P : List (Nat × Nat)) : OObj := .list (prs P)
theorem ro_loop {N q : Nat} {P : List (Nat × Nat)} {y : AV} (hE : ∀ e ∈ E, e.u.length ≤ szl) (hl : E.length < szl) (hN : (E.drop q).length ≤ N) (hq : q ≤ E.length) (hP : P.length ≤ q) :
    ∃ y4, D (n + 1) (.wh (wt (nthS ir35 2)) (wb (nthS ir35 2)) [.list (ks E), .list (tsA E), .own σ.length, .int q, y] (σ ++ [pl P]) .next [.list (ks E), .list (tsA E), .own σ.length, .int E.length, y4] (σ ++ [pl (P ++ prsF N q (E.drop q))])) := by
  have hk : (ks E).length = E.length := List.length_map _
  have hks : (ks E).length ≤ szl := hk ▸ Nat.le_of_lt hl
  induction N generalizing q P y with
  | zero =>
    have h0 := Nat.le_antisymm hq (List.drop_eq_nil_iff.mp (List.length_eq_zero_iff.mp (Nat.le_zero.mp hN)))
    subst h0
    rw [prsF, List.append_nil]
    exact ⟨y, .whdone (.tcmp (.loc rfl) (.cone (e_lenl rfl hks) (ltF (by rw [hk]; exact Int.le_refl _))))⟩
  | succ N ih =>
    cases hr : E.drop q with
    | nil =>
      have h0 := Nat.le_antisymm hq (List.drop_eq_nil_iff.mp hr)
      subst h0
      rw [prsF, List.append_nil]
      exact ⟨y, .whdone (.tcmp (.loc rfl) (.cone (e_lenl rfl hks) (ltF (by rw [hk]; exact Int.le_refl _))))⟩
    | cons a r =>
      have hin := ro_inner (n := n) (σ := σ ++ [pl P]) (u := .own σ.length) (k := 0) hE (Nat.le_of_lt hl) (drop_at hr).1 (fun j => (congrArg (E[·]?) (by rw [Nat.zero_add, Nat.add_assoc, Nat.add_comm 1])).trans ((drop_at hr).2 j)) (by rw [Nat.zero_add, ← drop_len hr, Nat.add_assoc, Nat.add_comm 1])
      rw [Nat.zero_add, Nat.zero_add, Nat.add_zero] at hin
      have hle : q + 1 + ext a 1 r ≤ E.length := by rw [← drop_len hr, Nat.add_assoc, Nat.add_comm 1]; exact Nat.add_le_add_left (Nat.succ_le_succ ext_le) _
      have hd := drop_more (m := ext a 1 r) hr
      obtain ⟨y4, k⟩ := ih (q := q + 1 + ext a 1 r) (P := P ++ [(q, q + 1 + ext a 1 r)]) (y := .int ((q + 1 + ext a 1 r : Nat) : Int)) (by rw [hd, List.length_drop]; rw [hr] at hN; exact Nat.le_trans (Nat.sub_le _ _) (Nat.le_of_succ_le_succ hN)) hle (by rw [List.length_append]; exact Nat.le_trans (Nat.add_le_add_right hP 1) (Nat.le_add_right _ _))
      rw [hd, List.append_assoc] at k
      refine ⟨y4, .whgo (.tcmp (.loc rfl) (.cone (e_lenl rfl hks) (ltT (Int.ofNat_lt.mpr (hk ▸ get_lt (drop_at hr).1))))) (.next (.asg rfl (.bin (.loc rfl) .num .addI)) (.next (.whl hin) (.next (own_app rfl (x := .tup (pairA (q, q + 1 + ext a 1 r))) (.tup (.cons (.loc rfl) (.cons (.loc rfl) .nil)) (.same rfl) (le_szl rfl)) rfl ?_ ?_) (.one (.asg rfl (.loc rfl)))))) rfl k⟩
      · rw [prs, List.length_map]; exact Nat.lt_of_le_of_lt (Nat.le_trans hP hq) hl
      · exact congrArg OObj.list (List.map_append (f := fun p => AV.tup (pairA p)) (l₁ := P) (l₂ := [(q, q + 1 + ext a 1 r)])).symm
theorem runs_of (hE : ∀ e ∈ E, e.u.length ≤ szl) (hl : E.length < szl) : D (n + 2) (.f 35 [.list (ks E), .list (tsA E)] σ (.list (prs (prsF E.length 0 E))) σ) := by
  obtain ⟨y4, k⟩ := ro_loop (n := n) (σ := σ) (N := E.length) (q := 0) (P := []) (y := .undef) hE hl (Nat.le_refl _) (Nat.zero_le _) (Nat.le_refl _)
  exact .fnL (ir := ir35) (ρ := [.list (ks E), .list (tsA E), .undef, .undef, .undef]) rfl rfl rfl rfl (.next (.asg rfl (.newl .nil rfl (Nat.zero_le _))) (.next (.asg rfl .num) (.next (.whl k) (.one (.ret rfl (.loc rfl)))))) rfl (own_get (l := [])) (Nat.le_refl _) own_take
end
structure Sp where
  lo : List Nat
  hi : List Nat
structure Sp.Good (s : Sp) : Prop where
  l1 : s.lo.length ≠ 0
  l4 : s.lo.length ≤ 4
  eq : s.hi.length = s.lo.length
  lo : ∀ o ∈ s.lo, o < 256
  hi : ∀ o ∈ s.hi, o < 256
  le : ∀ (j a b : Nat), s.lo[j]? = some a → s.hi[j]? = some b → a ≤ b
noncomputable def spA (s : Sp) : List AV := [.int s.lo.length, .int (valF 0 s.lo), .int (valF 0 s.hi)]
noncomputable def sps (S : List Sp) : List AV := S.map fun s => .tup (spA s)
noncomputable def spRow (s : Sp) : List Nat := hexT s.lo ++ [32] ++ hexT s.hi
noncomputable def at' (E : List En) (j : Nat) : En := E.getD j ⟨0, 0, []⟩
noncomputable def sRow (E : List En) (p : Nat × Nat) : List Nat := hexT (at' E p.1).o ++ [32] ++ hexT (at' E p.1).u
noncomputable def rRow (E : List En) (p : Nat × Nat) : List Nat := hexT (at' E p.1).o ++ [32] ++ hexT (at' E (p.2 - 1)).o ++ [32] ++ hexT (at' E p.1).u
noncomputable def isS (p : Nat × Nat) : Bool := Nat.beq p.2 (p.1 + 1)
noncomputable def sRows (E : List En) (P : List (Nat × Nat)) : List (List Nat) := P.flatMap fun p => cond (isS p) [sRow E p] []
noncomputable def rRows (E : List En) (P : List (Nat × Nat)) : List (List Nat) := P.flatMap fun p => cond (isS p) [] [rRow E p]
section
variable {n : Nat} {σ σ1 σ2 τ τ' : St} {i j p q k m x y l : Nat} {c z len code : Nat} {d w r rest us t pre word : List Nat} {ρ ρ' : List AV} {s : MS} {e e' el ec : ME} {o : Out} {u v : AV} {a b : En} {E : List En} {S : List Sp}
theorem at_get (h : j < E.length) : E[j]? = some (at' E j) := by
  unfold at'
  rw [List.getD_eq_getElem?_getD, List.getElem?_eq_getElem h]; rfl
theorem at_mem (h : j < E.length) : at' E j ∈ E := List.mem_of_getElem? (at_get h)
theorem En.Good.u_len (h : a.Good) : a.u.length ≤ 8 := Nat.le_trans u16_len (Nat.mul_le_mul_right 4 h.t2)
theorem En.Good.o_len (h : a.Good) : a.o.length ≤ 8 := Nat.le_trans (Nat.le_of_eq octs_len) (Nat.le_trans h.l4 (by decide))
theorem hexT_le (h : w.length ≤ 8) : (hexT w).length ≤ 18 := by rw [hexT_len, halves_len]; exact Nat.add_le_add_right (Nat.mul_le_mul_right 2 h) 2
/-- a loop over pairs that adds up -/
theorem fo_accT {α : Type} {is_ : List Nat} {f : α → List AV} {b : List MS} (S : List α → St) (P : List AV → Prop) (h2 : 2 ≤ is_.length) (hl : ∀ x, (f x).length = is_.length) {all : List α} (step : ∀ pre x post ρ, all = pre ++ x :: post → P ρ → ∃ ρ', P ρ' ∧ D n (.ss b (setAll ρ is_ (f x)) (S pre) .next ρ' (S (pre ++ [x])))) {xs pre : List α} (h : all = pre ++ xs) (hρ : P ρ) :
    ∃ ρ', P ρ' ∧ D n (.fo is_ b (xs.map fun x => .tup (f x)) ρ (S pre) .next ρ' (S all)) := by
  induction xs generalizing pre ρ with
  | nil => rw [h, List.append_nil]; exact ⟨ρ, hρ, .fonil⟩
  | cons x xs ih =>
    obtain ⟨ρ1, h1, k1⟩ := step pre x xs ρ h hρ
    obtain ⟨ρ2, h2, k2⟩ := ih (pre := pre ++ [x]) (h.trans (List.append_assoc pre [x] xs).symm) h1
    exact ⟨ρ2, h2, .fogo (.tup (hl x) ‹_›) k1 rfl k2⟩
theorem e_hexO (h1 : D (n + 1) (.e ρ el σ (.int l) σ)) (h2 : D (n + 1) (.e ρ ec σ (.int c) σ)) (hl : l ≤ 8) (e : octs l c = w) : D (n + 1) (.e ρ (.call 33 [.call 23 [el, ec]]) σ (.str (hexT w)) σ) :=
  e ▸ .call (.cons (.call (.cons h1 (.cons h2 .nil)) (code_octets (Nat.lt_of_le_of_lt hl (by decide)))) .nil) (hex_text octs_lt (by rw [octs_len]; exact Nat.lt_of_le_of_lt hl (by decide)))
theorem addS' {u v : List Nat} {a b : Nat} (h1 : u.length ≤ a) (h2 : v.length ≤ b) (h : Nat.ble (a + b) 100000 = true) : BinR .Add (.str u) (.str v) (.str (u ++ v)) := .addS (Nat.le_trans (Nat.add_le_add h1 h2) (le_szl h))
theorem len_app {α : Type} {u v : List α} {a b : Nat} (h1 : u.length ≤ a) (h2 : v.length ≤ b) : (u ++ v).length ≤ a + b := by rw [List.length_append]; exact Nat.add_le_add h1 h2
theorem wc_spaces {c0 y2 y3 y4 : AV} {R : List AV} (hS : ∀ s ∈ S, s.Good) (hl : S.length ≤ 1000) :
    ∃ ρ', (∃ z2 z3 z4, ρ' = c0 :: .own σ.length :: z2 :: z3 :: z4 :: R) ∧ D (n + 1) (.fo [2, 3, 4] (wb (nthS ir37 1)) (sps S) (c0 :: .own σ.length :: y2 :: y3 :: y4 :: R) (σ ++ [sl []]) .next ρ' (σ ++ [sl (S.map spRow)])) := by
  refine fo_accT (n := n + 1) (is_ := [2, 3, 4]) (f := spA) (b := wb (nthS ir37 1)) (all := S) (xs := S) (pre := []) (fun pre => σ ++ [sl (pre.map spRow)]) (fun ρ => ∃ z2 z3 z4, ρ = c0 :: .own σ.length :: z2 :: z3 :: z4 :: R) (by decide) (fun _ => rfl) (fun pre s post ρ h hρ => ?_) rfl ⟨_, _, _, rfl⟩
  obtain ⟨z2, z3, z4, rfl⟩ := hρ
  have hs := hS s (mem_mid h)
  have g1 : s.lo.length ≤ 8 := Nat.le_trans hs.l4 (by decide)
  have l1 := hexT_le g1
  have l2 := hexT_le (w := s.hi) (hs.eq ▸ g1)
  rw [List.map_append]
  exact ⟨_, ⟨_, _, _, rfl⟩, .one (app_sl rfl (.bin (.bin (e_hexO (.loc rfl) (.loc rfl) g1 (octs_val rfl hs.lo).1) .str (addS' l1 (Nat.le_refl 1) rfl)) (e_hexO (.loc rfl) (.loc rfl) g1 (octs_val hs.eq hs.hi).1) (addS' (len_app l1 (Nat.le_refl 1)) l2 rfl)) (by rw [List.length_map]; exact Nat.lt_of_lt_of_le (len_mid h) (Nat.le_trans hl (le_szl rfl))))⟩
theorem two_get0 {X Y : OObj} {l : St} : (σ ++ X :: Y :: l)[σ.length + 1]? = some Y := by rw [List.getElem?_append_right (Nat.le_add_right _ _), Nat.add_sub_cancel_left]; rfl
theorem two_set0 {X Y Z : OObj} : (σ ++ [X, Y]).set σ.length Z = σ ++ [Z, Y] := by rw [List.set_append_right _ _ (Nat.le_refl _), Nat.sub_self]; rfl
theorem two_set1 {X Y Z : OObj} : (σ ++ [X, Y]).set (σ.length + 1) Z = σ ++ [X, Z] := by rw [List.set_append_right _ _ (Nat.le_add_right _ _), Nat.add_sub_cancel_left]; rfl
theorem rows_le {f : Nat × Nat → List (List Nat)} (hf : ∀ p, (f p).length ≤ 1) {P : List (Nat × Nat)} : (P.flatMap f).length ≤ P.length := by
  induction P with
  | nil => exact Nat.le_refl _
  | cons p P ih => rw [List.flatMap_cons, List.length_append, Nat.add_comm]; exact Nat.add_le_add ih (hf p)
theorem sR_len {P : List (Nat × Nat)} : (sRows E P).length ≤ P.length := rows_le fun p => by cases isS p <;> exact Nat.le_of_ble_eq_true rfl
theorem rR_len {P : List (Nat × Nat)} : (rRows E P).length ≤ P.length := rows_le fun p => by cases isS p <;> exact Nat.le_of_ble_eq_true rfl
theorem sR_app {P : List (Nat × Nat)} {p : Nat × Nat} : sRows E (P ++ [p]) = sRows E P ++ cond (isS p) [sRow E p] [] := by
  unfold sRows; rw [List.flatMap_append, List.flatMap_singleton]
theorem rR_app {P : List (Nat × Nat)} {p : Nat × Nat} : rRows E (P ++ [p]) = rRows E P ++ cond (isS p) [] [rRow E p] := by
  unfold rRows; rw [List.flatMap_append, List.flatMap_singleton]
theorem e_key (h : rd ρ k = some (.list (ks E))) (hi : D n (.e ρ e σ (.int j) σ)) (hj : j < E.length) (hl : E.length ≤ szl) : D n (.e ρ (.sub (.sub (.loc k) e) (.num 0)) σ (.int (at' E j).l) σ) ∧ D n (.e ρ (.sub (.sub (.loc k) e) (.num 1)) σ (.int (at' E j).c) σ) :=
  have q : D n (.e ρ (.sub (.loc k) e) σ (keyA (at' E j)) σ) := .sub (.loc h) hi (.list ((List.length_map _).symm ▸ hl) (.pos rfl) (map_at (at_get hj)))
  ⟨.sub q .num (.tup (le_szl rfl) (.pos (j := 0) rfl) rfl), .sub q .num (.tup (le_szl rfl) (.pos (j := 1) rfl) rfl)⟩
theorem wc_rows {c0 c1 y2 y3 y4 y9 y10 y11 y12 y13 : AV} {P : List (Nat × Nat)} (hE : ∀ e ∈ E, e.Good) (hl : E.length ≤ szl) (hP : ∀ p ∈ P, PairOk E p) (hPl : P.length ≤ szl) :
    ∃ ρ', (∃ z9 z10 z11 z12, ρ' = [c0, c1, y2, y3, y4, .list (ks E), .list (tsA E), .own σ.length, .own (σ.length + 1), z9, z10, z11, z12, y13]) ∧
      D (n + 1) (.fo [9, 10] (wb (nthS ir37 6)) (prs P) [c0, c1, y2, y3, y4, .list (ks E), .list (tsA E), .own σ.length, .own (σ.length + 1), y9, y10, y11, y12, y13] (σ ++ [sl [], sl []]) .next ρ' (σ ++ [sl (sRows E P), sl (rRows E P)])) := by
  refine fo_accT (n := n + 1) (is_ := [9, 10]) (f := pairA) (b := wb (nthS ir37 6)) (all := P) (xs := P) (pre := []) (fun pre => σ ++ [sl (sRows E pre), sl (rRows E pre)]) (fun ρ => ∃ z9 z10 z11 z12, ρ = [c0, c1, y2, y3, y4, .list (ks E), .list (tsA E), .own σ.length, .own (σ.length + 1), z9, z10, z11, z12, y13]) (Nat.le_refl 2) (fun _ => rfl) (fun pre p post ρ h hρ => ?_) rfl ⟨_, _, _, _, rfl⟩
  obtain ⟨z9, z10, z11, z12, rfl⟩ := hρ
  have hp := hP p (mem_mid h)
  have hlen := Nat.lt_of_lt_of_le (len_mid h) hPl
  have h1 : p.1 < E.length := Nat.lt_of_lt_of_le hp.lt hp.le
  have h2 : p.2 - 1 < E.length := Nat.lt_of_lt_of_le (Nat.sub_lt (Nat.lt_of_le_of_lt (Nat.zero_le _) hp.lt) Nat.one_pos) hp.le
  have ga := hE _ (at_mem h1)
  have gz := hE _ (at_mem h2)
  have la := hexT_le ga.o_len
  have lz := hexT_le gz.o_len
  have lu := hexT_le ga.u_len
  rw [sR_app, rR_app]
  have hX : ((sRows E pre).map AV.str).length < szl := by rw [List.length_map]; exact Nat.lt_of_le_of_lt sR_len hlen
  have hY : ((rRows E pre).map AV.str).length < szl := by rw [List.length_map]; exact Nat.lt_of_le_of_lt rR_len hlen
  generalize sRows E pre = X at *
  generalize rRows E pre = Y at *
  have ht : ∀ {ρ : List AV}, rd ρ 6 = some (.list (tsA E)) → rd ρ 9 = some (.int p.1) → D (n + 1) (.e ρ (.call 33 [.sub (.loc 6) (.loc 9)]) (σ ++ [sl X, sl Y]) (.str (hexT (at' E p.1).u)) (σ ++ [sl X, sl Y])) := fun r1 r2 =>
    .call (.cons (.sub (.loc r1) (.loc r2) (.list ((List.length_map _).symm ▸ hl) (.pos rfl) (map_at (at_get h1)))) .nil) (hex_text (u16_lt ga.t) (Nat.lt_of_le_of_lt ga.u_len (by decide)))
  have hk := e_key (n := n + 1) (σ := σ ++ [sl X, sl Y]) (ρ := [c0, c1, y2, y3, y4, .list (ks E), .list (tsA E), .own σ.length, .own (σ.length + 1), .int p.1, .int p.2, z11, z12, y13]) (k := 5) (e := .loc 9) rfl (.loc rfl) h1 hl
  have s11 : D (n + 1) (.s (.asg 11 (.bin .Add (.call 33 [.call 23 [.sub (.sub (.loc 5) (.loc 9)) (.num 0), .sub (.sub (.loc 5) (.loc 9)) (.num 1)]]) (.str [32]))) [c0, c1, y2, y3, y4, .list (ks E), .list (tsA E), .own σ.length, .own (σ.length + 1), .int p.1, .int p.2, z11, z12, y13] (σ ++ [sl X, sl Y]) .next
    [c0, c1, y2, y3, y4, .list (ks E), .list (tsA E), .own σ.length, .own (σ.length + 1), .int p.1, .int p.2, .str (hexT (at' E p.1).o ++ [32]), z12, y13] (σ ++ [sl X, sl Y])) := .asg rfl (.bin (e_hexO hk.1 hk.2 (Nat.le_trans ga.l4 (by decide)) rfl) .str (addS' la (Nat.le_refl 1) rfl))
  have b2 := len_app la (Nat.le_refl [32].length)
  cases hs : isS p with
  | true =>
    have e2 : (p.2 : Int) = (p.1 : Int) + 1 := congrArg Int.ofNat (Nat.eq_of_beq_eq_true hs)
    rw [cond, cond, List.append_nil]
    have q := two_set0 (σ := σ) (X := sl X) (Y := sl Y) (Z := sl (X ++ [sRow E p]))
    exact ⟨_, ⟨_, _, _, _, rfl⟩, .next s11 (.one (.ifT (.tcmp (.loc rfl) (.cone (.bin (.loc rfl) .num .addI) (eqT e2))) (.one (.app (xs := X.map .str) rfl (own_get (l := [sl Y])) (.bin (.loc rfl) (ht rfl rfl) (addS' b2 lu rfl)) rfl hX (sl_app ▸ q)))))⟩
  | false =>
    have e2 : (p.2 : Int) ≠ (p.1 : Int) + 1 := fun e => Nat.ne_of_beq_eq_false hs (Int.ofNat.inj e)
    rw [cond, cond, List.append_nil]
    have q := two_set1 (σ := σ) (X := sl X) (Y := sl Y) (Z := sl (Y ++ [rRow E p]))
    have hk2 := e_key (n := n + 1) (σ := σ ++ [sl X, sl Y]) (ρ := [c0, c1, y2, y3, y4, .list (ks E), .list (tsA E), .own σ.length, .own (σ.length + 1), .int p.1, .int p.2, .str (hexT (at' E p.1).o ++ [32]), z12, y13]) (k := 5) (e := .bin .Sub (.loc 10) (.num 1)) (j := p.2 - 1) rfl (.bin (.loc rfl) .num (subN (b := 1) (Nat.sub_add_cancel (Nat.lt_of_le_of_lt (Nat.zero_le _) hp.lt)))) h2 hl
    have b3 := len_app b2 lz
    have b4 := len_app b3 (Nat.le_refl [32].length)
    exact ⟨_, ⟨_, _, _, _, rfl⟩, .next s11 (.one (.ifF (.tcmp (.loc rfl) (.cone (.bin (.loc rfl) .num .addI) (eqF e2))) (.next (.asg rfl (.call (.cons hk2.1 (.cons hk2.2 .nil)) (code_octets (Nat.lt_of_le_of_lt gz.l4 (by decide)))))
      (.one (.app (xs := Y.map .str) rfl two_get0 (.bin (.bin (.bin (.loc rfl) (.call (.cons (.loc rfl) .nil) (hex_text octs_lt (Nat.lt_of_le_of_lt gz.o_len (by decide)))) (addS' b2 lz rfl)) .str (addS' b3 (Nat.le_refl 1) rfl)) (ht rfl rfl) (addS' b4 lu rfl)) rfl hY (sl_app ▸ q))))))⟩
end
noncomputable def hd3 : List (List Nat) := [[47, 67, 73, 68, 73, 110, 105, 116, 32, 47, 80, 114, 111, 99, 83, 101, 116, 32, 102, 105, 110, 100, 114, 101, 115, 111, 117, 114, 99, 101, 32, 98, 101, 103, 105, 110], [49, 50, 32, 100, 105, 99, 116, 32, 98, 101, 103, 105, 110], [98, 101, 103, 105, 110, 99, 109, 97, 112]]
noncomputable def hd2 : List (List Nat) := [[47, 67, 77, 97, 112, 78, 97, 109, 101, 32, 47, 65, 100, 111, 98, 101, 45, 73, 100, 101, 110, 116, 105, 116, 121, 45, 85, 67, 83, 32, 100, 101, 102], [47, 67, 77, 97, 112, 84, 121, 112, 101, 32, 50, 32, 100, 101, 102]]
noncomputable def tl4 : List (List Nat) := [[101, 110, 100, 99, 109, 97, 112], [67, 77, 97, 112, 78, 97, 109, 101, 32, 99, 117, 114, 114, 101, 110, 116, 100, 105, 99, 116, 32, 47, 67, 77, 97, 112, 32, 100, 101, 102, 105, 110, 101, 114, 101, 115, 111, 117, 114, 99, 101, 32, 112, 111, 112], [101, 110, 100], [101, 110, 100]]
noncomputable def wSp : List Nat := [99, 111, 100, 101, 115, 112, 97, 99, 101, 114, 97, 110, 103, 101]
noncomputable def wCh : List Nat := [98, 102, 99, 104, 97, 114]
noncomputable def wRg : List Nat := [98, 102, 114, 97, 110, 103, 101]
noncomputable def unl (ls : List (List Nat)) : List Nat := ls.flatMap fun l => l ++ [10]
noncomputable def prsE (E : List En) : List (Nat × Nat) := prsF E.length 0 E
noncomputable def lines (S : List Sp) (E : List En) : List (List Nat) := hd3 ++ hd2 ++ parts wSp (S.map spRow) ++ parts wCh (sRows E (prsE E)) ++ parts wRg (rRows E (prsE E)) ++ tl4
noncomputable def cmI (S : List Sp) (kvs : List (List Int × List Nat)) : AV := .inst .cmap [(.spaces, .list (sps S)), (.chars, .map kvs)]
/-- a short line of plain signs -/
structure Ln (m : Nat) (l : List Nat) : Prop where
  len : l.length ≤ m
  ch : ∀ c ∈ l, c < 128 ∧ c ≠ 10
noncomputable def lnB (m : Nat) (l : List Nat) : Bool := Nat.ble l.length m && l.all fun c => Nat.ble c 127 && !Nat.beq c 10
section
variable {a b l w : List Nat} {n m k : Nat} {ls rows : List (List Nat)} {s : Sp} {E : List En} {S : List Sp} {p : Nat × Nat}
theorem ln_b (h : lnB m l = true) : Ln m l := ⟨Nat.le_of_ble_eq_true (and_l h), fun c hc => by
  have q := List.all_eq_true.mp (and_r h) c hc
  exact ⟨Nat.lt_succ_of_le (Nat.le_of_ble_eq_true (and_l q)), Nat.ne_of_beq_eq_false (not_f (and_r q))⟩⟩
theorem ln_all (h : ls.all (lnB m) = true) : ∀ l ∈ ls, Ln m l := fun l hl => ln_b (List.all_eq_true.mp h l hl)
theorem Ln.cat (ha : Ln n a) (hb : Ln m b) : Ln (n + m) (a ++ b) := ⟨len_app ha.len hb.len, fun c hc => (List.mem_append.mp hc).elim (ha.ch c) (hb.ch c)⟩
theorem Ln.le (h : Ln n a) (hm : Nat.ble n m = true) : Ln m a := ⟨Nat.le_trans h.len (Nat.le_of_ble_eq_true hm), h.ch⟩
theorem hexD_ok : ∀ k, k < 16 → hexD k < 128 ∧ hexD k ≠ 10 := by decide
theorem hexT_ok (hw : ∀ o ∈ w, o < 256) (h : w.length ≤ 8) : Ln 18 (hexT w) := ⟨hexT_le h, fun c hc => by
  cases hc with
  | head => decide
  | tail _ hc =>
    rcases List.mem_append.mp hc with h | h
    · obtain ⟨k, hk, rfl⟩ := List.mem_map.mp h
      exact hexD_ok k (halves_lt hw k hk)
    · cases List.mem_singleton.mp h; decide⟩
theorem sp_ok : Ln 1 [32] := ln_b rfl
theorem spRow_ok (h : s.Good) : Ln 80 (spRow s) :=
  have g1 : s.lo.length ≤ 8 := Nat.le_trans h.l4 (by decide)
  (((hexT_ok h.lo g1).cat sp_ok).cat (hexT_ok h.hi (h.eq ▸ g1))).le rfl
theorem pair_a (hE : ∀ e ∈ E, e.Good) (hp : PairOk E p) : (at' E p.1).Good ∧ (at' E (p.2 - 1)).Good :=
  ⟨hE _ (at_mem (Nat.lt_of_lt_of_le hp.lt hp.le)), hE _ (at_mem (Nat.lt_of_lt_of_le (Nat.sub_lt (Nat.lt_of_le_of_lt (Nat.zero_le _) hp.lt) Nat.one_pos) hp.le))⟩
theorem sRow_ok (hE : ∀ e ∈ E, e.Good) (hp : PairOk E p) : Ln 80 (sRow E p) :=
  have ha := (pair_a hE hp).1
  (((hexT_ok octs_lt ha.o_len).cat sp_ok).cat (hexT_ok (u16_lt ha.t) ha.u_len)).le rfl
theorem rRow_ok (hE : ∀ e ∈ E, e.Good) (hp : PairOk E p) : Ln 80 (rRow E p) :=
  have ha := (pair_a hE hp).1
  (((((hexT_ok octs_lt ha.o_len).cat sp_ok).cat (hexT_ok octs_lt (pair_a hE hp).2.o_len)).cat sp_ok).cat (hexT_ok (u16_lt ha.t) ha.u_len)).le rfl
theorem dec_ok (h : n < 1000) : Ln 3 (dec n) := ⟨dec_len h, fun c hc => by
  have q := List.all_eq_true.mp (and_l (and_r (dec_small n h))) c hc
  exact ⟨Nat.lt_of_le_of_lt (Nat.le_of_ble_eq_true (and_r q)) (by decide), fun e => by rw [e] at q; cases q⟩⟩
theorem upTo_ok (hw : Ln 20 w) (hr : ∀ l ∈ rows, Ln 80 l) : ∀ l ∈ upTo w rows m, Ln 80 l := by
  induction m with
  | zero => exact fun l h => nomatch h
  | succ m ih =>
    rw [upTo]
    refine List.forall_mem_append.mpr ⟨ih, fun l hl => ?_⟩
    cases hl with
    | head => exact (((dec_ok (Nat.lt_of_le_of_lt pt_len (by decide))).cat (ln_b (m := 6) (l := bgn) rfl)).cat hw).le rfl
    | tail _ hl =>
      rcases List.mem_append.mp hl with h | h
      · exact hr l (List.mem_of_mem_drop (List.mem_of_mem_take h))
      · cases List.mem_singleton.mp h
        exact ((ln_b (m := 3) (l := ens) rfl).cat hw).le rfl
theorem parts_len (h : rows.length ≤ 100) : (parts w rows).length ≤ 102 :=
  have q : (rows.length + 99) / 100 < 2 := Nat.div_lt_of_lt_mul (Nat.lt_of_le_of_lt (Nat.add_le_add_right h 99) (by decide))
  Nat.le_trans up_len (Nat.mul_le_mul_right 102 (Nat.le_of_lt_succ q))
theorem rows_ok {f : Nat × Nat → List (List Nat)} {P : List (Nat × Nat)} (h : ∀ p ∈ P, ∀ l ∈ f p, Ln 80 l) : ∀ l ∈ P.flatMap f, Ln 80 l := fun l hl =>
  let ⟨p, hp, h2⟩ := List.mem_flatMap.mp hl
  h p hp l h2
theorem lines_ok (hS : ∀ s ∈ S, s.Good) (hE : ∀ e ∈ E, e.Good) : ∀ l ∈ lines S E, Ln 80 l := by
  have hp : ∀ p ∈ prsE E, PairOk E p := pairs_ok rfl
  refine List.forall_mem_append.mpr ⟨List.forall_mem_append.mpr ⟨List.forall_mem_append.mpr ⟨List.forall_mem_append.mpr ⟨ln_all (ls := hd3 ++ hd2) rfl, upTo_ok (ln_b rfl) fun l hl => ?_⟩, upTo_ok (ln_b rfl) (rows_ok fun p h l hl => ?_)⟩, upTo_ok (ln_b rfl) (rows_ok fun p h l hl => ?_)⟩, ln_all (ls := tl4) rfl⟩
  · obtain ⟨s, hs, rfl⟩ := List.mem_map.mp hl
    exact spRow_ok (hS s hs)
  · cases hi : isS p with
    | true => rw [hi] at hl; cases List.mem_singleton.mp hl; exact sRow_ok hE (hp p h)
    | false => rw [hi] at hl; cases hl
  · cases hi : isS p with
    | true => rw [hi] at hl; cases hl
    | false => rw [hi] at hl; cases List.mem_singleton.mp hl; exact rRow_ok hE (hp p h)
theorem lines_len (hS : S.length ≤ 100) (hE : E.length < 64) : (lines S E).length ≤ 400 := by
  have hp : (prsE E).length ≤ 100 := Nat.le_trans pairs_len (Nat.le_trans (Nat.le_of_lt hE) (by decide))
  have h2 := parts_len (w := wSp) (rows := S.map spRow) (by rw [List.length_map]; exact hS)
  have h3 := parts_len (w := wCh) (Nat.le_trans (sR_len (E := E)) hp)
  have h4 := parts_len (w := wRg) (Nat.le_trans (rR_len (E := E)) hp)
  exact Nat.le_trans (len_app (len_app (len_app (len_app (Nat.le_refl (hd3 ++ hd2).length) h2) h3) h4) (Nat.le_refl tl4.length)) (show (hd3 ++ hd2).length + 102 + 102 + 102 + tl4.length ≤ 400 from Nat.le_of_ble_eq_true rfl)
theorem unl_len (h : ∀ l ∈ ls, Ln 80 l) : (unl ls).length ≤ ls.length * 81 := by
  induction ls with
  | nil => exact Nat.le_refl _
  | cons l ls ih =>
    rw [unl, List.flatMap_cons, List.length_append, List.length_cons, Nat.succ_mul, Nat.add_comm]
    exact Nat.add_le_add (ih fun x hx => h x (.tail _ hx)) (len_app (v := [10]) (b := 1) (h l (.head _)).len (Nat.le_refl 1))
theorem unl_lt (h : ∀ l ∈ ls, Ln 80 l) : ∀ c ∈ unl ls, c < 128 := fun c hc => by
  obtain ⟨l, hl, hc⟩ := List.mem_flatMap.mp hc
  rcases List.mem_append.mp hc with h1 | h1
  · exact ((h l hl).ch c h1).1
  · cases List.mem_singleton.mp h1; decide
theorem data_len (hS : ∀ s ∈ S, s.Good) (hE : ∀ e ∈ E, e.Good) (hSl : S.length ≤ 100) (hEl : E.length < 64) : (unl (lines S E)).length ≤ 40000 :=
  Nat.le_trans (unl_len (lines_ok hS hE)) (Nat.le_trans (Nat.mul_le_mul_right 81 (lines_len hSl hEl)) (by decide))
theorem join_unl {l : List Nat} {ls : List (List Nat)} : joinT [10] (l :: ls) ++ [10] = unl (l :: ls) := by
  induction ls generalizing l with
  | nil => exact (List.append_nil _).symm
  | cons m ls ih => rw [joinT, List.append_assoc, ih]; rfl
theorem sum_len : (ls.map (·.length)).sum + ls.length * 1 = (unl ls).length := by
  induction ls with
  | nil => rfl
  | cons l ls ih =>
    have e : (unl (l :: ls)).length = (l.length + 1) + (unl ls).length := by rw [unl, List.flatMap_cons, List.length_append, List.length_append]; rfl
    rw [e, ← ih, List.map_cons, List.sum_cons, List.length_cons]
    omega
end
section
variable {n : Nat} {σ τ l : St} {j k : Nat} {ρ : List AV} {e m : AV} {x : ME} {E es : List En} {S : List Sp} {L M rows ws : List (List Nat)} {vs : List AV} {xs : List ME} {w : List Nat} {X : OObj}
theorem newlN (h : D n (.es ρ xs (τ ++ l) vs (τ ++ l))) (hf : frozens vs = true) (hl : vs.length ≤ szl) : D n (.e ρ (.newl xs) (τ ++ l) (.own (τ.length + l.length)) (τ ++ (l ++ [.list vs]))) := by
  have q := D.newl h hf hl
  rwa [List.length_append, List.append_assoc] at q
theorem getN (h : l[j]? = some X) : (τ ++ l)[τ.length + j]? = some X := by rw [List.getElem?_append_right (Nat.le_add_right _ _), Nat.add_sub_cancel_left]; exact h
theorem setN : (τ ++ l).set (τ.length + j) X = τ ++ l.set j X := by rw [List.set_append_right _ _ (Nat.le_add_right _ _), Nat.add_sub_cancel_left]
theorem extN {Y Z : OObj} (h : rd ρ k = some (.own (τ.length + 2))) (ha : D n (.e ρ x (τ ++ [Y, Z, sl L]) (.list (sa M)) (τ ++ [Y, Z, sl L]))) (hl : L.length + M.length ≤ 1000) : D n (.s (.exp (.lm .extend (.loc k) [x])) ρ (τ ++ [Y, Z, sl L]) .next ρ (τ ++ [Y, Z, sl (L ++ M)])) := by
  have g : (τ ++ [Y, Z, sl L])[τ.length + 2]? = some (.list (sa L)) := getN (j := 2) rfl
  have q : D n (.s (.exp (.lm .extend (.loc k) [x])) ρ (τ ++ [Y, Z, sl L]) .next ρ ((τ ++ [Y, Z, sl L]).set (τ.length + 2) (.list (sa L ++ sa M)))) := .exp (.lmE (.loc h) (.extend g) (.cons ha .nil) (.extend g fr_sa (by rw [sa_len, sa_len]; exact Nat.le_trans hl (le_szl rfl))))
  rw [setN, ← sa_app] at q
  exact q
theorem e_parts (h : rd ρ k = some e) (hr : rowsAt τ e rows) (hw : w.length ≤ 100) (hl : rows.length < 400000) : D (n + 1) (.e ρ (.call 36 [.loc k, .str w]) τ (.list (sa (parts w rows))) τ) := .call (.cons (.loc h) (.cons .str .nil)) (part_lines hw hl hr)
theorem es_lit : D n (.es ρ (ws.map .str) τ (sa ws) τ) := by
  induction ws with
  | nil => exact .nil
  | cons w ws ih => exact .cons .str ih
theorem sorted_ok' (hl : es.length < 64) : BiR .sorted [.map (es.map En.kv)] (.list (ks (sortE es))) := by
  have q : BiR .sorted [.map (es.map En.kv)] _ := .sorted (by rw [List.length_map]; exact hl) (by
    rw [List.all_map]; exact List.all_eq_true.mpr fun _ _ => rfl)
  rwa [show (es.map En.kv).map (·.1) = es.map En.key from List.map_map, ← sortE_key, List.map_map] at q
theorem wc_texts (hE : ∀ e ∈ E, e.Good) {kvs : List (List Int × List Nat)} (h : ∀ e ∈ E, kvs.lookup e.key = some e.t) : D (n + 1) (.cl (.call 21 [.sub (.att (.loc 1) .chars) (.loc 0)]) [] 1 [cmI S kvs] (ks E) τ (tsA E) τ) :=
  cl_ix ((List.length_map _).trans (List.length_map _).symm) fun j x y h1 h2 => by
    rw [ks, List.getElem?_map] at h1
    rw [tsA, List.getElem?_map] at h2
    obtain ⟨e, he, rfl⟩ := Option.map_eq_some_iff.mp h1
    rw [he] at h2
    cases h2
    have hm := List.mem_of_getElem? he
    exact .call (.cons (.sub (.att (.loc rfl) (.inst rfl)) (.loc rfl) (.map (h e hm))) .nil) (utf16_octets (hE e hm).t (Nat.lt_of_le_of_lt (hE e hm).t2 (by decide)))
theorem encN (h : ∀ c ∈ w, c < 128) (hl : w.length ≤ szl) : LmR .encode w [.str [97, 115, 99, 105, 105]] (.bytes w) := .encode (List.all_eq_true.mpr fun c hc => decide_eq_true (h c hc)) hl
theorem write_cmap (hS : ∀ s ∈ S, s.Good) (hE : ∀ e ∈ es, e.Good) (hSl : S.length ≤ 100) (hEl : es.length < 64) (hn : (es.map En.key).Nodup) : D (n + 3) (.f 37 [cmI S (es.map En.kv)] σ (.bytes (unl (lines S (sortE es)))) σ) := by
  have hperm := sortE_perm (r := es)
  have hE' : ∀ e ∈ sortE es, e.Good := fun e he => hE e (hperm.mem_iff.mp he)
  have hlen := hperm.length_eq
  have hsort := sorted_ok' hEl
  have hmem : ∀ e ∈ sortE es, (es.map En.kv).lookup e.key = some e.t := fun e he => lookup_of hn (hperm.mem_iff.mp he)
  generalize sortE es = E at *
  rw [← hlen] at hEl
  have hlo := lines_ok hS hE'
  have hdl := data_len hS hE' hSl hEl
  have hdl2 : (unl (lines S E)).length ≤ szl := Nat.le_trans hdl (le_szl rfl)
  have hz : E.length < szl := Nat.lt_of_lt_of_le hEl (le_szl rfl)
  have hpl : (prsE E).length ≤ 64 := Nat.le_trans pairs_len (Nat.le_of_lt hEl)
  obtain ⟨_, ⟨z2, z3, z4, rfl⟩, k2⟩ := wc_spaces (n := n + 1) (σ := σ) (c0 := cmI S (es.map En.kv)) (y2 := .undef) (y3 := .undef) (y4 := .undef) (R := [.undef, .undef, .undef, .undef, .undef, .undef, .undef, .undef, .undef]) hS (Nat.le_trans hSl (by decide))
  have q0 : ∀ l, (σ ++ [sl (S.map spRow)] ++ l)[σ.length]? = some (sl (S.map spRow)) := fun l => by rw [List.append_assoc]; exact own_get
  have qt : ∀ l, (σ ++ [sl (S.map spRow)] ++ l).take σ.length = σ := fun l => by rw [List.append_assoc]; exact List.take_left' rfl
  have hSP : (S.map spRow).length ≤ 100 := by rw [List.length_map]; exact hSl
  have h2 := parts_len (w := wSp) hSP
  have h3 := parts_len (w := wCh) (Nat.le_trans (sR_len (E := E)) (Nat.le_trans hpl (by decide)))
  have h4 := parts_len (w := wRg) (Nat.le_trans (rR_len (E := E)) (Nat.le_trans hpl (by decide)))
  have l3 := Nat.lt_of_le_of_lt (sR_len (E := E) (P := prsE E)) (Nat.lt_of_le_of_lt hpl (by decide : 64 < 400000))
  have l4 := Nat.lt_of_le_of_lt (rR_len (E := E) (P := prsE E)) (Nat.lt_of_le_of_lt hpl (by decide : 64 < 400000))
  generalize hτ : σ ++ [sl (S.map spRow)] = τ at *
  obtain ⟨_, ⟨z9, z10, z11, z12, rfl⟩, k7⟩ := wc_rows (n := n + 1) (σ := τ) (E := E) (P := prsE E) (c0 := cmI S (es.map En.kv)) (c1 := .own σ.length) (y2 := z2) (y3 := z3) (y4 := z4) (y9 := .undef) (y10 := .undef) (y11 := .undef) (y12 := .undef) (y13 := .undef) hE' (Nat.le_of_lt hz) (pairs_ok rfl) (Nat.le_trans hpl (le_szl rfl))
  have hro := runs_of (n := n) (σ := τ ++ [sl [], sl []]) (E := E) (fun e he => Nat.le_trans (hE' e he).u_len (le_szl rfl)) hz
  have hlines : lines S E = hd3 ++ hd2 ++ parts wSp (S.map spRow) ++ parts wCh (sRows E (prsE E)) ++ parts wRg (rRows E (prsE E)) ++ tl4 := rfl
  have hju : joinT [10] (lines S E) ++ [10] = unl (lines S E) := join_unl
  have hsum := sum_len (ls := lines S E)
  have r1 : ∀ L, rowsAt (τ ++ [sl (sRows E (prsE E)), sl (rRows E (prsE E)), sl L]) (.own σ.length) (S.map spRow) := fun L => .inr ⟨_, rfl, q0 _⟩
  have r2 : ∀ L, rowsAt (τ ++ [sl (sRows E (prsE E)), sl (rRows E (prsE E)), sl L]) (.own τ.length) (sRows E (prsE E)) := fun L => .inr ⟨_, rfl, getN (j := 0) rfl⟩
  have r3 : ∀ L, rowsAt (τ ++ [sl (sRows E (prsE E)), sl (rRows E (prsE E)), sl L]) (.own (τ.length + 1)) (rRows E (prsE E)) := fun L => .inr ⟨_, rfl, getN (j := 1) rfl⟩
  generalize sRows E (prsE E) = A at *
  generalize rRows E (prsE E) = B at *
  generalize S.map spRow = SP at *
  have b1 : (hd3 ++ hd2).length ≤ 5 := Nat.le_refl 5
  have b2 := len_app b1 h2
  have b3 := len_app b2 h3
  have b4 := len_app b3 h4
  have e13 : D (n + 2) (.e [cmI S (es.map En.kv), .own σ.length, z2, z3, z4, .list (ks E), .list (tsA E), .own τ.length, .own (τ.length + 1), z9, z10, z11, z12, .own (τ.length + 2)] (.bin .Add (.lm .join (.str [10]) [.loc 13]) (.str [10])) (τ ++ [sl A, sl B, sl (lines S E)]) (.str (unl (lines S E))) (τ ++ [sl A, sl B, sl (lines S E)])) := by
    rw [← hju]
    have d : dr (τ ++ [sl A, sl B, sl (lines S E)]) (.own (τ.length + 2)) = .list ((lines S E).map .str) := dr_own (getN (j := 2) rfl)
    exact .bin (x := .str (joinT [10] (lines S E))) (.lmS .str (.cons (.loc rfl) .nil) (by
      rw [List.map_cons, d]; exact .join (hsum ▸ hdl2))) .str (.addS (a := joinT [10] (lines S E)) (b := [10]) (by rw [← List.length_append, hju]; exact hdl2))
  refine .fnT (ir := ir37) (ρ' := [cmI S (es.map En.kv), .own σ.length, z2, z3, z4, .list (ks E), .list (tsA E), .own τ.length, .own (τ.length + 1), z9, z10, z11, z12, .own (τ.length + 2)]) (ρ := [cmI S (es.map En.kv), .undef, .undef, .undef, .undef, .undef, .undef, .undef, .undef, .undef, .undef, .undef, .undef, .undef]) rfl rfl rfl rfl (.next (.asg rfl (.newl .nil rfl (Nat.zero_le _))) (.next (.for_ (.att (.loc rfl) (.inst rfl)) .list (by rw [sps, List.length_map]; exact Nat.le_trans hSl (le_szl rfl)) k2)
    (.next (.asg rfl (.bi (.cons (.att (.loc rfl) (.inst rfl)) .nil) hsort)) (.next (.asgc (.loc rfl) .list (by rw [ks, List.length_map]; exact Nat.le_of_lt hz) (wc_texts hE' hmem)) ?_)))) rfl (qt [sl A, sl B, sl (lines S E)])
  refine .next (.asg rfl (.newl .nil rfl (Nat.zero_le _))) (.next (.asg rfl (newlN (l := [.list []]) .nil rfl (Nat.zero_le _))) (.next (.for_ (.call (.cons (.loc rfl) (.cons (.loc rfl) .nil)) hro) .list (by rw [prs, List.length_map]; exact Nat.le_trans hpl (le_szl rfl)) k7) (.next (.asg rfl (newlN (l := [sl A, sl B]) (es_lit (ws := hd3)) fr_sa (le_szl rfl))) ?_)))
  refine .next (extN rfl (.lst (es_lit (ws := hd2)) (le_szl rfl)) (Nat.le_of_ble_eq_true rfl)) (.next (extN rfl (e_parts (w := wSp) rfl (r1 _) (Nat.le_of_ble_eq_true rfl) (Nat.lt_of_le_of_lt hSP (by decide))) (Nat.le_trans (Nat.add_le_add b1 h2) (Nat.le_of_ble_eq_true rfl)))
    (.next (extN rfl (e_parts (w := wCh) rfl (r2 _) (Nat.le_of_ble_eq_true rfl) l3) (Nat.le_trans (Nat.add_le_add b2 h3) (Nat.le_of_ble_eq_true rfl))) (.next (extN rfl (e_parts (w := wRg) rfl (r3 _) (Nat.le_of_ble_eq_true rfl) l4) (Nat.le_trans (Nat.add_le_add b3 h4) (Nat.le_of_ble_eq_true rfl)))
      (.next (extN rfl (.lst (es_lit (ws := tl4)) (le_szl rfl)) (Nat.le_trans (Nat.add_le_add b4 (Nat.le_refl tl4.length)) (Nat.le_of_ble_eq_true rfl))) (.one (.ret rfl (.lmS (hlines ▸ e13) (.cons .str .nil) (encN (unl_lt hlo) hdl2))))))))
end
noncomputable def rowA (e : En) : AV := .tup [.list (ia e.o), .list (ia e.u)]
noncomputable def rws (E : List En) : List AV := E.map rowA
noncomputable def lrT : ME := wt ((wb (nthS ir46 4)).getD 2 .stuck)
noncomputable def lrB : List MS := wb ((wb (nthS ir46 4)).getD 2 .stuck)
section
variable {n : Nat} {σ τ l : St} {j k : Nat} {ρ : List AV} {m u0 u2 u3 : AV} {e : ME} {E es : List En} {x y u v w : List Nat} {a b : En}
theorem beqN {a b : Nat} : Nat.beq a b = (a == b) := by
  cases h : Nat.beq a b with
  | true => rw [Nat.eq_of_beq_eq_true h, beq_self_eq_true]
  | false => exact (beq_eq_false_iff_ne.mpr (Nat.ne_of_beq_eq_false h)).symm
theorem eqbs_ia : eqbs (ia x) (ia y) = (x == y) := by
  induction x generalizing y with
  | nil => cases y <;> rfl
  | cons a x ih =>
    cases y with
    | nil => rfl
    | cons b y =>
      show (((a : Int) == (b : Int)) && eqbs (ia x) (ia y)) = _
      rw [ih, List.cons_beq_cons, beq_nat, beqN]
theorem cb_ia : CB (n + 1) (.list (ia x)) (.list (ia y)) := .list fun _ j a b h1 h2 => by
  rw [ia, List.getElem?_map] at h1 h2
  obtain ⟨_, _, rfl⟩ := Option.map_eq_some_iff.mp h1
  obtain ⟨_, _, rfl⟩ := Option.map_eq_some_iff.mp h2
  exact .int
theorem cb_row : CB (n + 2) (.tup [.list (ia x), .list (ia y)]) (.tup [.list (ia u), .list (ia v)]) := .tup fun j a b h1 h2 => by
  match j, h1, h2 with
  | 0, rfl, rfl => exact cb_ia
  | 1, rfl, rfl => exact cb_ia
theorem En.Good.o_ne (h : a.Good) : a.o ≠ [] := fun q => h.l1 (octs_len.symm.trans (congrArg List.length q))
theorem cnd_law (ha : a.Good) (hb : b.Good) (k : Nat) : cnd a b k = (!a.u.isEmpty && (b.o == bump a.o k && b.u == bump a.u k)) := by
  rw [Bool.eq_iff_iff]
  constructor
  · intro h
    obtain ⟨h1, h2, h3, h4, h5⟩ := cnd_of h
    rw [(cnd_octs ha hb).mp ⟨h1, h2, h3⟩, h5, beq_self_eq_true, beq_self_eq_true]
    cases e : a.u with
    | nil => exact absurd e h4
    | cons c r => rfl
  · intro h
    have h2 := and_r h
    obtain ⟨g1, g2, g3⟩ := (cnd_octs ha hb).mpr (eq_of_beq (and_l h2))
    have g4 := eq_of_beq (and_r h2)
    unfold cnd bumpB
    rw [g1, g3, g2, g4, bump, List.dropLast_concat, lastO_snoc, beq_self_eq_true, Nat.beq_refl, Nat.beq_refl, Nat.beq_refl, Nat.beq_refl]
    cases a.u.dropLast <;> rfl
theorem e_lastl (h : rd ρ k = some (.list (ia w))) (hw : w ≠ []) (hl : w.length ≤ szl) : D n (.e ρ (.sub (.loc k) (.neg 1)) σ (.int (lastO w)) σ) :=
  .sub (.loc h) .neg (.list (ia_len ▸ hl) .neg (by rw [ia_len]; exact il_get (lastO_get hw)))
theorem e_dl (h : rd ρ k = some (.list (ia w))) (hl : w.length ≤ szl) : D n (.e ρ (.slc (.loc k) none (some (.neg 1))) σ (.list (ia w.dropLast)) σ) :=
  .slc (.loc h) .onil (.osome .neg) (slc_l (ia_len ▸ hl) (cut_dl.trans List.map_dropLast.symm))
theorem e_bump (h : rd ρ k = some (.list (ia w))) (hl : w.length ≤ 8) (he : D n (.e ρ e σ (.int ((lastO w + j : Nat) : Int)) σ)) : D n (.e ρ (.bin .Add (.slc (.loc k) none (some (.neg 1))) (.lst [e])) σ (.list (ia (bump w j))) σ) := by
  have q : BinR .Add (.list (ia w.dropLast)) (.list (ia [lastO w + j])) (.list (ia w.dropLast ++ ia [lastO w + j])) := .addL (by
    rw [ia_len, List.length_dropLast]; exact Nat.le_trans (Nat.add_le_add_right (Nat.le_trans (Nat.sub_le _ _) hl) 1) (le_szl rfl))
  rw [← ia_app] at q
  exact .bin (e_dl h (Nat.le_trans hl (le_szl rfl))) (.lst (.cons he .nil) (le_szl rfl)) q
theorem rws_len : (rws E).length = E.length := List.length_map _
theorem lr_inner {q : Nat} {ra : List En} (hE : ∀ e ∈ E, e.Good) (hl : E.length ≤ szl) (ha : E[q]? = some a) (h : ∀ j, E[q + (k + 1 + j)]? = ra[j]?) (hlen : q + (k + 1 + ra.length) = E.length) :
    D n (.wh lrT lrB [u0, .list (rws E), u2, u3, .int q, .list (ia a.o), .list (ia a.u), .int ((k + 1 : Nat) : Int)] σ .next [u0, .list (rws E), u2, u3, .int q, .list (ia a.o), .list (ia a.u), .int ((k + 1 + ext a (k + 1) ra : Nat) : Int)] σ) := by
  have hk : (rws E).length ≤ szl := rws_len ▸ hl
  have hga := hE a (List.mem_of_getElem? ha)
  induction ra generalizing k with
  | nil =>
    exact .whdone (.tbop (.tbstop (.tcmp (.bin (.loc rfl) (.loc rfl) .addI) (.cone (e_lenl rfl hk) (ltF (by rw [rws_len, ← hlen]; exact Int.le_refl _))))))
  | cons b ra ih =>
    have hb := h 0
    have hgb := hE b (List.mem_of_getElem? hb)
    have hlt : D n (.t [u0, .list (rws E), u2, u3, .int q, .list (ia a.o), .list (ia a.u), .int ((k + 1 : Nat) : Int)] (.cmp (.bin .Add (.loc 4) (.loc 7)) [.Lt] [.bi .len [.loc 1]]) σ true σ) := .tcmp (.bin (.loc rfl) (.loc rfl) .addI) (.cone (e_lenl rfl hk) (ltT (Int.ofNat_lt.mpr (by rw [rws_len, ← hlen]; exact Nat.add_lt_add_left (Nat.lt_add_of_pos_right (Nat.succ_pos _)) _))))
    have hu : TruR (.list (ia a.u)) (!(ia a.u).isEmpty) := .list (by rw [ia_len]; exact Nat.le_trans hga.u_len (le_szl rfl))
    rw [show (ia a.u).isEmpty = a.u.isEmpty from List.isEmpty_map] at hu
    have hc := cnd_law hga hgb (k + 1)
    rw [ext]
    cases hemp : a.u.isEmpty with
    | true =>
      rw [hemp] at hu hc
      rw [hc]
      exact .whdone (.tbop (.tbgo hlt (.tbstop (.tgen rfl (.loc rfl) hu))))
    | false =>
      rw [hemp] at hu hc
      have hune : a.u ≠ [] := fun e => by rw [e] at hemp; cases hemp
      have ht : ∀ {c : Bool}, cnd a b (k + 1) = c → D n (.t [u0, .list (rws E), u2, u3, .int q, .list (ia a.o), .list (ia a.u), .int ((k + 1 : Nat) : Int)] (.cmp (.sub (.loc 1) (.bin .Add (.loc 4) (.loc 7))) [.Eq] [.tup [.bin .Add (.slc (.loc 5) none (some (.neg 1))) (.lst [.bin .Add (.sub (.loc 5) (.neg 1)) (.loc 7)]), .bin .Add (.slc (.loc 6) none (some (.neg 1))) (.lst [.bin .Add (.sub (.loc 6) (.neg 1)) (.loc 7)])]]) σ c σ) := fun e =>
        .tcmp (.sub (.loc rfl) (.bin (.loc rfl) (.loc rfl) .addI) (.list hk (.pos (j := q + (k + 1)) rfl) (map_at hb))) (.cone (.tup (.cons (e_bump (j := k + 1) rfl hga.o_len (.bin (e_lastl rfl hga.o_ne (Nat.le_trans hga.o_len (le_szl rfl))) (.loc rfl) .addI)) (.cons (e_bump (j := k + 1) rfl hga.u_len (.bin (e_lastl rfl hune (Nat.le_trans hga.u_len (le_szl rfl))) (.loc rfl) .addI)) .nil))
          (.same (by show (frozens (ia _) && (frozens (ia _) && true)) = true; rw [fr_ia, fr_ia]; rfl)) (le_szl rfl)) (cmp_b (.eq (.cmp cb_row)) (by
            rw [← e, hc]
            show (eqbs (ia b.o) (ia _) && (eqbs (ia b.u) (ia _) && true)) = _
            rw [eqbs_ia, eqbs_ia, Bool.and_true]; rfl)))
      cases e : cnd a b (k + 1) with
      | false => exact .whdone (.tbop (.tbgo hlt (.tbgo (.tgen rfl (.loc rfl) hu) (.tbstop (ht e)))))
      | true =>
        have q2 := ih (k := k + 1) (fun j => (congrArg (E[·]?) (congrArg (q + ·) (Nat.add_right_comm (k + 1) 1 j))).trans (h (j + 1))) ((congrArg (q + ·) (Nat.add_right_comm (k + 1) 1 _)).trans hlen)
        rw [Nat.add_right_comm (k + 1) 1] at q2
        exact .whgo (.tbop (.tbgo hlt (.tbgo (.tgen rfl (.loc rfl) hu) (.tbgo (ht e) .tbnil)))) (.one (.asg rfl (.bin (.loc rfl) .num .addI))) rfl q2
end
section
variable {n : Nat} {σ τ l : St} {j k q : Nat} {ρ : List AV} {m u0 u2 u3 y5 y6 y7 : AV} {e : ME} {E es r : List En} {x y u v w : List Nat} {a b : En} {X Y : List (List Nat)}
theorem e_lhex (h : D (n + 1) (.e ρ e σ (.list (ia w)) σ)) (hw : ∀ o ∈ w, o < 256) (hl : w.length ≤ 8) : D (n + 1) (.e ρ (.call 43 [e]) σ (.str (hexT w)) σ) := .call (.cons h .nil) (law_hex hw (Nat.lt_of_le_of_lt hl (by decide)))
/-- the last key of a run -/
theorem run_last (hE : ∀ e ∈ E, e.Good) (hd : E.drop q = a :: r) (h : j + 1 ≤ ext a 1 r) : (at' E (q + (j + 1))).o = bump a.o (j + 1) := by
  obtain ⟨b, hj⟩ : ∃ b, r[j]? = some b := ⟨_, List.getElem?_eq_getElem (Nat.lt_of_lt_of_le h ext_le)⟩
  have hc := ext_get h hj
  have hb := ((drop_at hd).2 j).trans hj
  have e : at' E (q + (j + 1)) = b := Option.some.inj ((at_get (get_lt hb)).symm.trans hb)
  obtain ⟨h1, h2, h3, -, -⟩ := cnd_of hc
  rw [Nat.add_comm 1] at h2
  rw [e]
  exact (cnd_octs (hE _ (List.mem_of_getElem? (drop_at hd).1)) (hE _ (List.mem_of_getElem? hb))).mp ⟨h1, h2, h3⟩
theorem lr_step (hE : ∀ e ∈ E, e.Good) (hl : E.length < szl) (hd : E.drop q = a :: r) (hX : X.length < szl) (hY : Y.length < szl) :
    ∃ z5 z6 z7, D (n + 1) (.ss (wb (nthS ir46 4)) [u0, .list (rws E), .own τ.length, .own (τ.length + 1), .int q, y5, y6, y7] (τ ++ [sl X, sl Y]) .next [u0, .list (rws E), .own τ.length, .own (τ.length + 1), .int ((q + 1 + ext a 1 r : Nat) : Int), z5, z6, z7] (τ ++ [sl (X ++ cond (isS (q, q + 1 + ext a 1 r)) [sRow E (q, q + 1 + ext a 1 r)] []), sl (Y ++ cond (isS (q, q + 1 + ext a 1 r)) [] [rRow E (q, q + 1 + ext a 1 r)])])) := by
  have ha := (drop_at hd).1
  have hga := hE a (List.mem_of_getElem? ha)
  have ea : at' E q = a := Option.some.inj ((at_get (get_lt ha)).symm.trans ha)
  have hin := lr_inner (n := n + 1) (σ := τ ++ [sl X, sl Y]) (u0 := u0) (u2 := .own τ.length) (u3 := .own (τ.length + 1)) (k := 0) hE (Nat.le_of_lt hl) ha (fun j => (congrArg (E[·]?) (by rw [Nat.zero_add, Nat.add_comm 1])).trans ((drop_at hd).2 j)) (by rw [Nat.zero_add, ← drop_len hd, Nat.add_comm 1])
  rw [Nat.zero_add] at hin
  have hXs : (X.map AV.str).length < szl := by rw [List.length_map]; exact hX
  have hYs : (Y.map AV.str).length < szl := by rw [List.length_map]; exact hY
  have lo := hexT_le hga.o_len
  have lu := hexT_le hga.u_len
  have b2 := len_app lo (Nat.le_refl [32].length)
  have hrl := run_last hE hd (j := ext a 1 r - 1)
  generalize hx : ext a 1 r = x at *
  refine ⟨.list (ia a.o), .list (ia a.u), .int ((1 + x : Nat) : Int), .next (.unp (.sub (.loc rfl) (.loc rfl) (.list (rws_len ▸ Nat.le_of_lt hl) (.pos rfl) (map_at (f := rowA) ha))) rfl) (.next (.asg rfl .num) (.next (.whl hin) ?_))⟩
  have s4 : ∀ {σ : St}, D (n + 1) (.s (.asg 4 (.bin .Add (.loc 4) (.loc 7))) [u0, .list (rws E), .own τ.length, .own (τ.length + 1), .int q, .list (ia a.o), .list (ia a.u), .int ((1 + x : Nat) : Int)] σ .next [u0, .list (rws E), .own τ.length, .own (τ.length + 1), .int ((q + 1 + x : Nat) : Int), .list (ia a.o), .list (ia a.u), .int ((1 + x : Nat) : Int)] σ) := fun {σ} => by
    rw [Nat.add_assoc q 1 x]
    exact .asg rfl (.bin (.loc rfl) (.loc rfl) .addI)
  have ht : ∀ {σ : St}, D (n + 1) (.e [u0, .list (rws E), .own τ.length, .own (τ.length + 1), .int q, .list (ia a.o), .list (ia a.u), .int ((1 + x : Nat) : Int)] (.bin .Add (.call 43 [.loc 5]) (.str [32])) σ (.str (hexT a.o ++ [32])) σ) := .bin (e_lhex (.loc rfl) octs_lt hga.o_len) .str (addS' lo (Nat.le_refl 1) rfl)
  have hu : ∀ {σ : St}, D (n + 1) (.e [u0, .list (rws E), .own τ.length, .own (τ.length + 1), .int q, .list (ia a.o), .list (ia a.u), .int ((1 + x : Nat) : Int)] (.call 43 [.loc 6]) σ (.str (hexT a.u)) σ) := e_lhex (.loc rfl) (u16_lt hga.t) hga.u_len
  cases x with
  | zero =>
    have e1 : isS (q, q + 1 + 0) = true := Nat.beq_refl _
    have e2 : sRow E (q, q + 1 + 0) = hexT a.o ++ [32] ++ hexT a.u := by unfold sRow; rw [ea]
    rw [e1, cond, cond, List.append_nil, e2]
    have z := two_set0 (σ := τ) (X := sl X) (Y := sl Y) (Z := sl (X ++ [hexT a.o ++ [32] ++ hexT a.u]))
    exact .next (.ifT (.tcmp (.loc rfl) (.cone .num (eqT rfl))) (.one (.app (xs := X.map .str) rfl (own_get (l := [sl Y])) (.bin ht hu (addS' b2 lu rfl)) rfl hXs (sl_app ▸ z)))) (.one s4)
  | succ j =>
    have e1 : isS (q, q + 1 + (j + 1)) = false := by
      cases h : isS (q, q + 1 + (j + 1)) with
      | false => rfl
      | true => exact absurd (Nat.eq_of_beq_eq_true h) (Nat.ne_of_gt (Nat.lt_add_of_pos_right (Nat.succ_pos j)))
    have hz : (at' E (q + (j + 1))).o = bump a.o (j + 1) := hrl (Nat.le_refl _)
    have gz := (at_mem (E := E) (j := q + (j + 1)) (by
      have h1 := @ext_le 1 a r
      rw [hx] at h1
      rw [← drop_len hd]; exact Nat.add_lt_add_left (Nat.lt_succ_of_le h1) _))
    have gzo := (hE _ gz).o_len
    rw [hz] at gzo
    have hlt : ∀ o ∈ bump a.o (j + 1), o < 256 := hz ▸ octs_lt
    have e2 : rRow E (q, q + 1 + (j + 1)) = hexT a.o ++ [32] ++ hexT (bump a.o (j + 1)) ++ [32] ++ hexT a.u := by
      unfold rRow
      show hexT (at' E q).o ++ [32] ++ hexT (at' E (q + 1 + (j + 1) - 1)).o ++ [32] ++ hexT (at' E q).u = _
      rw [ea, Nat.add_right_comm q 1, Nat.add_sub_cancel, hz]
    rw [e1, cond, cond, List.append_nil, e2]
    have z := two_set1 (σ := τ) (X := sl X) (Y := sl Y) (Z := sl (Y ++ [hexT a.o ++ [32] ++ hexT (bump a.o (j + 1)) ++ [32] ++ hexT a.u]))
    have lz := hexT_le gzo
    have b3 := len_app b2 lz
    have b4 := len_app b3 (Nat.le_refl [32].length)
    exact .next (.ifF (.tcmp (.loc rfl) (.cone .num (eqN (b := 1) (Nat.ne_of_gt (Nat.lt_add_of_pos_right (Nat.succ_pos j)))))) (.one (.app (xs := Y.map .str) rfl two_get0 (.bin (.bin (.bin ht (e_lhex (e_bump (j := j + 1) rfl hga.o_len (.bin (.bin (e_lastl rfl hga.o_ne (Nat.le_trans hga.o_len (le_szl rfl))) (.loc rfl) .addI) .num (subN (b := 1) (by rw [Nat.add_comm 1 (j + 1)]; rfl)))) hlt gzo) (addS' b2 lz rfl)) .str (addS' b3 (Nat.le_refl 1) rfl)) hu (addS' b4 lu rfl)) rfl hYs (sl_app ▸ z)))) (.one s4)
end
section
variable {n N : Nat} {σ τ l : St} {j k q : Nat} {ρ : List AV} {m u0 u2 u3 y5 y6 y7 : AV} {e : ME} {E es r : List En} {x y u v w : List Nat} {a b : En} {X Y : List (List Nat)} {P : List (Nat × Nat)}
theorem dr_ownm {kvs : List (List Int × List Nat)} (h : σ[j]? = some (.map kvs)) : dr σ (.own j) = .map kvs := congrArg drO h
theorem lr_loop (hE : ∀ e ∈ E, e.Good) (hl : E.length < szl) (hN : (E.drop q).length ≤ N) (hq : q ≤ E.length) (hP : P.length ≤ q) :
    ∃ z5 z6 z7, D (n + 1) (.wh (wt (nthS ir46 4)) (wb (nthS ir46 4)) [u0, .list (rws E), .own τ.length, .own (τ.length + 1), .int q, y5, y6, y7] (τ ++ [sl (sRows E P), sl (rRows E P)]) .next [u0, .list (rws E), .own τ.length, .own (τ.length + 1), .int E.length, z5, z6, z7] (τ ++ [sl (sRows E (P ++ prsF N q (E.drop q))), sl (rRows E (P ++ prsF N q (E.drop q)))])) := by
  have hks : (rws E).length ≤ szl := rws_len ▸ Nat.le_of_lt hl
  have hdone : q = E.length → D (n + 1) (.wh (wt (nthS ir46 4)) (wb (nthS ir46 4)) [u0, .list (rws E), .own τ.length, .own (τ.length + 1), .int q, y5, y6, y7] (τ ++ [sl (sRows E P), sl (rRows E P)]) .next [u0, .list (rws E), .own τ.length, .own (τ.length + 1), .int E.length, y5, y6, y7] (τ ++ [sl (sRows E P), sl (rRows E P)])) := fun e => by
    subst e
    exact .whdone (.tcmp (.loc rfl) (.cone (e_lenl rfl hks) (ltF (by rw [rws_len]; exact Int.le_refl _))))
  induction N generalizing q P y5 y6 y7 with
  | zero =>
    have h0 := Nat.le_antisymm hq (List.drop_eq_nil_iff.mp (List.length_eq_zero_iff.mp (Nat.le_zero.mp hN)))
    rw [prsF, List.append_nil]
    exact ⟨y5, y6, y7, hdone h0⟩
  | succ N ih =>
    cases hr : E.drop q with
    | nil =>
      have h0 := Nat.le_antisymm hq (List.drop_eq_nil_iff.mp hr)
      rw [prsF, List.append_nil]
      exact ⟨y5, y6, y7, hdone h0⟩
    | cons a r =>
      have hlt := get_lt (drop_at hr).1
      have hPl : P.length < szl := Nat.lt_of_le_of_lt (Nat.le_trans hP hq) hl
      obtain ⟨z5, z6, z7, k1⟩ := lr_step (n := n) (u0 := u0) (y5 := y5) (y6 := y6) (y7 := y7) (τ := τ) hE hl hr (Nat.lt_of_le_of_lt (sR_len (E := E) (P := P)) hPl) (Nat.lt_of_le_of_lt (rR_len (E := E) (P := P)) hPl)
      rw [← sR_app, ← rR_app] at k1
      have hle : q + 1 + ext a 1 r ≤ E.length := by rw [← drop_len hr, Nat.add_assoc, Nat.add_comm 1]; exact Nat.add_le_add_left (Nat.succ_le_succ ext_le) _
      have hd := drop_more (m := ext a 1 r) hr
      obtain ⟨w5, w6, w7, k⟩ := ih (q := q + 1 + ext a 1 r) (P := P ++ [(q, q + 1 + ext a 1 r)]) (y5 := z5) (y6 := z6) (y7 := z7) (by rw [hd, List.length_drop]; rw [hr] at hN; exact Nat.le_trans (Nat.sub_le _ _) (Nat.le_of_succ_le_succ hN)) hle (by rw [List.length_append]; exact Nat.le_trans (Nat.add_le_add_right hP 1) (Nat.le_add_right _ _)) (fun e => by
        rw [e]
        exact .whdone (.tcmp (.loc rfl) (.cone (e_lenl rfl hks) (ltF (by rw [rws_len]; exact Int.le_refl _)))))
      rw [hd, List.append_assoc] at k
      exact ⟨w5, w6, w7, .whgo (.tcmp (.loc rfl) (.cone (e_lenl rfl hks) (ltT (Int.ofNat_lt.mpr (rws_len ▸ hlt))))) k1 rfl k⟩
theorem lr_texts (hE : ∀ e ∈ E, e.Good) {kvs : List (List Int × List Nat)} (hj : τ[j]? = some (.map kvs)) (h : ∀ e ∈ E, kvs.lookup e.key = some e.t) : D (n + 1) (.cl (.tup [.call 45 [.loc 0], .call 44 [.sub (.loc 1) (.loc 0)]]) [] 1 [.own j] (ks E) τ (rws E) τ) :=
  cl_ix ((List.length_map _).trans (List.length_map _).symm) fun i x y h1 h2 => by
    rw [ks, List.getElem?_map] at h1
    rw [rws, List.getElem?_map] at h2
    obtain ⟨e, he, rfl⟩ := Option.map_eq_some_iff.mp h1
    rw [he] at h2
    cases h2
    have hm := List.mem_of_getElem? he
    have hg := hE e hm
    exact .tup (.cons (.call (.cons (.loc rfl) .nil) (law_key hg.l4)) (.cons (.call (.cons (.sub (.loc rfl) (.loc rfl) (by rw [dr_ownm hj]; exact .map (h e hm))) .nil) (law_target hg.t (Nat.lt_of_le_of_lt hg.t2 (by decide)))) .nil)) (.same (by show (frozens (ia _) && (frozens (ia _) && true)) = true; rw [fr_ia, fr_ia]; rfl)) (le_szl rfl)
theorem law_rows (hE : ∀ e ∈ es, e.Good) (hEl : es.length < 64) (hn : (es.map En.key).Nodup) (hj : σ[j]? = some (.map (es.map En.kv))) :
    D (n + 2) (.f 46 [.own j] σ (.tup [.list (sa (sRows (sortE es) (prsE (sortE es)))), .list (sa (rRows (sortE es) (prsE (sortE es))))]) σ) := by
  have hperm := sortE_perm (r := es)
  have hE' : ∀ e ∈ sortE es, e.Good := fun e he => hE e (hperm.mem_iff.mp he)
  have hlen := hperm.length_eq
  have hsort := sorted_ok' hEl
  have hmem : ∀ e ∈ sortE es, (es.map En.kv).lookup e.key = some e.t := fun e he => lookup_of hn (hperm.mem_iff.mp he)
  generalize sortE es = E at *
  rw [← hlen] at hEl
  have hz : E.length < szl := Nat.lt_of_lt_of_le hEl (le_szl rfl)
  obtain ⟨z5, z6, z7, k⟩ := lr_loop (n := n) (N := E.length) (q := 0) (P := []) (τ := σ) (u0 := .own j) (y5 := .undef) (y6 := .undef) (y7 := .undef) hE' hz (Nat.le_refl _) (Nat.zero_le _) (Nat.le_refl _)
  have z1 := two_set0 (σ := σ) (X := sl (sRows E (prsE E))) (Y := sl (rRows E (prsE E))) (Z := .dead)
  have z2 := two_set1 (σ := σ) (X := .dead) (Y := sl (rRows E (prsE E))) (Z := .dead)
  refine .fnT (ir := ir46) (ρ := [.own j, .undef, .undef, .undef, .undef, .undef, .undef, .undef]) (ρ' := [.own j, .list (rws E), .own σ.length, .own (σ.length + 1), .int E.length, z5, z6, z7]) (σ1 := σ ++ [.dead, .dead]) rfl rfl rfl rfl
    (.next (.asgc (.bi (.cons (.loc rfl) .nil) (by rw [List.map_cons, dr_ownm hj]; exact hsort)) .list (by rw [ks, List.length_map]; exact Nat.le_of_lt hz) (lr_texts hE' hj hmem)) (.next (.asg rfl (.newl .nil rfl (Nat.zero_le _))) (.next (.asg rfl (newlN (l := [.list []]) .nil rfl (Nat.zero_le _))) (.next (.asg rfl .num) (.next (.whl k) (.one (.ret rfl (.tup (.cons (.loc rfl) (.cons (.loc rfl) .nil)) (.cons (.list own_get) (.cons (.list ?_) ?_)) (le_szl rfl)))))))))
    (by show (frozens (sa _) && (frozens (sa _) && true)) = true; rw [fr_sa, fr_sa]; rfl) (List.take_left' rfl)
  · exact z1 ▸ two_get0
  · show FrzsR (((σ ++ [sl (sRows E (prsE E)), sl (rRows E (prsE E))]).set σ.length .dead).set (σ.length + 1) .dead) [] [] _
    rw [z1, z2]; exact .same rfl
end
noncomputable def hexTk (w : List Nat) (a : Int) : AV := .tup [.str [104, 101, 120], .bytes w, .int a]
noncomputable def wordTk (w : List Nat) (a : Int) : AV := .tup [.str [119, 111, 114, 100], .bytes w, .int a]
/-- a word that is no number -/
noncomputable def isWord : List Nat → Bool
  | [] => false
  | c :: r => (c :: r).all isReg && (!isDig c && (!Nat.beq c 43 && (!Nat.beq c 45 && !Nat.beq c 46)))
noncomputable def spT (rest : List Nat) : List Sp → List Nat
  | [] => (ens ++ wSp) ++ rest
  | s :: S => hexT s.lo ++ ([32] ++ (hexT s.hi ++ ([10] ++ spT rest S)))
inductive SpSt (rest d : List Nat) (p : Nat) : AV → List Sp → Prop
  | done {a} (h : Dr d p rest) : SpSt rest d p (wordTk (ens ++ wSp) a) []
  | more {a s S} (h : Dr d p ([32] ++ (hexT s.hi ++ ([10] ++ spT rest S)))) : SpSt rest d p (hexTk s.lo a) (s :: S)
noncomputable def spl (S : List Sp) : OObj := .list (sps S)
section
variable {n : Nat} {σ τ : St} {i j k p q : Nat} {ρ : List AV} {x tok y3 y4 : AV} {e elt : ME} {d w ws rest : List Nat} {S Ds : List Sp} {s : Sp} {xs cap : List AV} {ifs : List ME}
theorem ws_b (h : ws.all isWh = true) : whs ws := List.all_eq_true.mp h
theorem nt_w (hi : i < σ.length) (hd : d.length ≤ szl) (h : Dr d p (ws ++ (w ++ rest))) (hws : whs ws) (hr : stopsR rest = true) (hw : isWord w = true) : ∃ a q, D (n + 4) (.f 18 [.cur .cursor i] (C σ i d p) (wordTk w a) (C σ i d q)) ∧ Dr d q rest := by
  cases w with
  | nil => cases hw
  | cons c r =>
    have h1 := and_r hw; have h2 := and_r h1; have h3 := and_r h2
    exact nt_word hi hd h hws hr (List.all_eq_true.mp (and_l hw)) (not_f (and_l h1)) (Nat.ne_of_beq_eq_false (not_f (and_l h2))) (Nat.ne_of_beq_eq_false (not_f (and_l h3))) (Nat.ne_of_beq_eq_false (not_f (and_r h3)))
theorem sp_next (hi : i < σ.length) (hd : d.length ≤ szl) (hr : stopsR rest = true) (hS : ∀ s ∈ S, s.Good) (h : Dr d p (ws ++ spT rest S)) (hws : whs ws) : ∃ tok q, D (n + 4) (.f 18 [.cur .cursor i] (C σ i d p) tok (C σ i d q)) ∧ SpSt rest d q tok S := by
  cases S with
  | nil => obtain ⟨a, q, h1, h2⟩ := nt_w (n := n) hi hd h hws hr (w := ens ++ wSp) rfl; exact ⟨_, q, h1, .done h2⟩
  | cons s S =>
    have hs := hS s (.head _)
    obtain ⟨a, q, h1, h2⟩ := nt_hex (n := n) hi hd h hws hs.lo (Nat.lt_of_le_of_lt hs.l4 (by decide)); exact ⟨_, q, h1, .more h2⟩
theorem C_getj {X : OObj} (hj : j ≠ i) (h : j < σ.length) : (C (σ.set j X) i d p)[j]? = some X := (C_get hj).trans (get_set h)
theorem app_J {X : OObj} (h : rd ρ k = some (.own j)) (hj : j ≠ i) (hjl : j < σ.length) (ha : D n (.e ρ e (C (σ.set j (.list xs)) i d p) x (C (σ.set j (.list xs)) i d p))) (hf : frozen x = true) (hl : xs.length < szl) (hX : .list (xs ++ [x]) = X) : D n (.s (.exp (.lm .append (.loc k) [e])) ρ (C (σ.set j (.list xs)) i d p) .next ρ (C (σ.set j X) i d p)) :=
  .app h (C_getj hj hjl) ha hf hl (by rw [C_set hj, List.set_set, hX])
theorem cl_none (h : ∀ (j : Nat) (x : AV), xs[j]? = some x → D n (.ts (x :: cap) ifs τ false τ)) : D n (.cl elt ifs 1 cap xs τ [] τ) := by
  induction xs with
  | nil => exact .clnil
  | cons x xs ih => exact .clno .one (h 0 x rfl) (ih fun j => h (j + 1))
theorem e_tok (hi : i < σ.length) (h : rd ρ k = some (.cur .cursor i)) (h3 : D n (.f 18 [.cur .cursor i] (C σ i d p) x (C σ i d q))) : D n (.e ρ (.call 18 [.loc k]) (C σ i d p) x (C σ i d q)) := .call (.cons (.loc h) .nil) h3
theorem rsp_loop (hj : j ≠ i) (hi : i < σ.length) (hjl : j < σ.length) (hd : d.length ≤ szl) (hr : stopsR rest = true) (hS : ∀ s ∈ S, s.Good) (hl : Ds.length + S.length < szl) (h : SpSt rest d p tok S) :
    ∃ tok' z3 z4 q, D (n + 4) (.wh (wt (nthS ir28 1)) (wb (nthS ir28 1)) [.cur .cursor i, .own j, tok, y3, y4] (C (σ.set j (spl Ds)) i d p) .next [.cur .cursor i, .own j, tok', z3, z4] (C (σ.set j (spl (Ds ++ S))) i d q)) ∧ Dr d q rest := by
  have hi' : ∀ {X : OObj}, i < (σ.set j X).length := List.length_set.symm ▸ hi
  induction S generalizing Ds p tok y3 y4 with
  | nil =>
    cases h with
    | done h =>
      rw [List.append_nil]
      exact ⟨_, y3, y4, p, .whdone (.tnt (b := true) (.tgen rfl (.call (.cons (.loc rfl) (.cons .byt .nil)) (part_end_word (w := ens ++ wSp))) .bool)), h⟩
  | cons s S ih =>
    cases h with
    | more h =>
      rename_i a
      have hs := hS s (.head _)
      have e4 : Nat.ble s.lo.length 4 = true := Nat.ble_eq_true_of_le hs.l4
      have hlo : s.lo.length ≤ szl := Nat.le_trans hs.l4 (le_szl rfl)
      have hhi : s.hi.length ≤ szl := hs.eq ▸ hlo
      obtain ⟨a2, q2, n2, d2⟩ := nt_hex (n := n) (hi' (X := spl Ds)) hd h (ws_b (ws := [32]) rfl) hs.hi (Nat.lt_of_le_of_lt (hs.eq ▸ hs.l4) (by decide))
      obtain ⟨tok3, q3, n3, st3⟩ := sp_next (n := n) (hi' (X := spl (Ds ++ [s]))) hd hr (fun x hx => hS x (.tail _ hx)) d2 (ws_b (ws := [10]) rfl)
      have ea : Ds ++ s :: S = (Ds ++ [s]) ++ S := (List.append_assoc Ds [s] S).symm
      obtain ⟨tok', z3, z4, q, k, dq⟩ := ih (Ds := Ds ++ [s]) (y3 := .bytes s.lo) (y4 := .bytes s.hi) (fun x hx => hS x (.tail _ hx)) (by rw [← List.length_append, ← ea, List.length_append]; exact hl) st3
      rw [← ea] at k
      refine ⟨tok', z3, z4, q, .whgo (.tnt (b := false) (.tgen rfl (.call (.cons (.loc rfl) (.cons .byt .nil)) part_end_hex) .bool)) (.next (.asg rfl (.call (.cons (.loc rfl) .nil) (code_in hs.l1 e4))) (.next (.asg rfl (.call (.cons (e_tok hi' rfl n2) .nil) (code_in (hs.eq ▸ hs.l1) (hs.eq ▸ e4))))
        (.next (.if0 (.tbop (.tbgo (.tcmp (e_len rfl hlo) (.cone (e_len rfl hhi) (neF (congrArg Int.ofNat hs.eq.symm)))) (.tbgo (.tgen rfl (.comp (.bi (.cons (e_len rfl hlo) .nil) .rng1) (it_rng1 (Nat.lt_of_le_of_lt hs.l4 (by decide))) (by rw [List.length_map, List.length_range]; exact hlo) (cl_none fun i' x hx => ?_)) (.list (Nat.zero_le _))) .tbnil))))
          (.next (app_J (X := spl (Ds ++ [s])) (x := .tup (spA s)) rfl hj hjl (.tup (.cons (e_len rfl hlo) (.cons (.call (.cons (.loc rfl) .nil) (code_of hlo)) (.cons (.call (.cons (.loc rfl) .nil) (code_of hhi)) .nil))) (.same rfl) (le_szl rfl)) rfl (by rw [sps, List.length_map]; exact Nat.lt_of_le_of_lt (Nat.le_add_right _ _) hl) (congrArg OObj.list (List.map_append (f := fun s => AV.tup (spA s)) (l₁ := Ds) (l₂ := [s])).symm)) (.one (.asg rfl (e_tok hi' rfl n3))))))) rfl k, dq⟩
      rw [List.getElem?_map] at hx
      obtain ⟨b, hb, rfl⟩ := Option.map_eq_some_iff.mp hx
      have hlt := get_lt hb
      rw [List.length_range] at hlt
      rw [List.getElem?_range hlt] at hb
      cases hb
      have g1 := List.getElem?_eq_getElem hlt
      have g2 := List.getElem?_eq_getElem (l := s.hi) (i := i') (hs.eq.symm ▸ hlt)
      exact .tsstop (.tcmp (.sub (.loc rfl) (.loc rfl) (.bytes hlo (.pos rfl) g1)) (.cone (.sub (.loc rfl) (.loc rfl) (.bytes hhi (.pos rfl) g2)) (gtF (Int.ofNat_le.mpr (hs.le _ _ _ g1 g2)))))
theorem read_spaces (hj : j ≠ i) (hi : i < σ.length) (hjl : j < σ.length) (hd : d.length ≤ szl) (hr : stopsR rest = true) (hS : ∀ s ∈ S, s.Good) (hl : Ds.length + S.length < szl) (h : Dr d p (ws ++ spT rest S)) (hws : whs ws) :
    ∃ q, D (n + 5) (.f 28 [.cur .cursor i, .own j] (C (σ.set j (spl Ds)) i d p) .none (C (σ.set j (spl (Ds ++ S))) i d q)) ∧ Dr d q rest := by
  have hi' : ∀ {X : OObj}, i < (σ.set j X).length := List.length_set.symm ▸ hi
  obtain ⟨tok, q1, n1, st⟩ := sp_next (n := n) (hi' (X := spl Ds)) hd hr hS h hws
  obtain ⟨tok', z3, z4, q, k, dq⟩ := rsp_loop (n := n) (y3 := .undef) (y4 := .undef) hj hi hjl hd hr hS hl st
  exact ⟨q, .fnO (ir := ir28) (ρ := [.cur .cursor i, .own j, .undef, .undef, .undef]) rfl rfl rfl rfl (.next (.asg rfl (e_tok hi' rfl n1)) (.one (.whl k))) rfl rfl (by rw [C_len, C_len, List.length_set, List.length_set]), dq⟩
end
noncomputable def chT (w1 w2 rest : List Nat) : List En → List Nat
  | [] => (ens ++ wCh) ++ rest
  | e :: es => hexT e.o ++ (w1 ++ (hexT e.u ++ (w2 ++ chT w1 w2 rest es)))
inductive ChSt (w1 w2 rest d : List Nat) (p : Nat) : AV → List En → Prop
  | done {a} (h : Dr d p rest) : ChSt w1 w2 rest d p (wordTk (ens ++ wCh) a) []
  | more {a e es} (h : Dr d p (w1 ++ (hexT e.u ++ (w2 ++ chT w1 w2 rest es)))) : ChSt w1 w2 rest d p (hexTk e.o a) (e :: es)
section
variable {n : Nat} {σ τ : St} {i j k p q : Nat} {ρ : List AV} {x tok y3 y4 : AV} {e eo ei : ME} {d w w1 w2 ws rest t : List Nat} {S es : List En} {s : En} {m : List (List Int × List Nat)} {kk : List Int}
theorem En.Good.val_o (h : s.Good) : valF 0 s.o = s.c := val_octs h.c
theorem putM_len {v : List Nat} : (putM kk v m).length ≤ m.length + 1 := by
  induction m with
  | nil => exact Nat.le_refl _
  | cons b r ih =>
    show (if b.1 = kk then (kk, v) :: r else b :: putM kk v r).length ≤ _
    split
    · exact Nat.le_succ _
    · exact Nat.succ_le_succ ih
theorem seti_J (hj : j ≠ i) (hjl : j < σ.length) (hl : m.length < szl) : SetiR (C (σ.set j (.map m)) i d p) (.str t) (.own j) (.tup (kk.map .int)) (C (σ.set j (.map (putM kk t m))) i d p) := by
  have q : SetiR (C (σ.set j (.map m)) i d p) (.str t) (.own j) (.tup (kk.map .int)) _ := .map (C_getj hj hjl) hl
  rwa [C_set hj, List.set_set] at q
theorem ch_next (hi : i < σ.length) (hd : d.length ≤ szl) (hr : stopsR rest = true) (hS : ∀ s ∈ S, s.Good) (h : Dr d p (ws ++ chT w1 w2 rest S)) (hws : whs ws) : ∃ tok q, D (n + 4) (.f 18 [.cur .cursor i] (C σ i d p) tok (C σ i d q)) ∧ ChSt w1 w2 rest d q tok S := by
  cases S with
  | nil => obtain ⟨a, q, h1, h2⟩ := nt_w (n := n) hi hd h hws hr (w := ens ++ wCh) rfl; exact ⟨_, q, h1, .done h2⟩
  | cons s S => obtain ⟨a, q, h1, h2⟩ := nt_hex (n := n) hi hd h hws octs_lt (Nat.lt_of_le_of_lt (hS s (.head _)).o_len (by decide)); exact ⟨_, q, h1, .more h2⟩
theorem rch_loop (hw1 : whs w1) (hw2 : whs w2) (hj : j ≠ i) (hi : i < σ.length) (hjl : j < σ.length) (hd : d.length ≤ szl) (hr : stopsR rest = true) (hS : ∀ s ∈ S, s.Good) (hl : m.length + S.length < szl) (h : ChSt w1 w2 rest d p tok S) :
    ∃ tok' z3 q, D (n + 4) (.wh (wt (nthS ir29 1)) (wb (nthS ir29 1)) [.cur .cursor i, .own j, tok, y3] (C (σ.set j (.map m)) i d p) .next [.cur .cursor i, .own j, tok', z3] (C (σ.set j (.map (puts m S))) i d q)) ∧ Dr d q rest := by
  have hi' : ∀ {X : OObj}, i < (σ.set j X).length := List.length_set.symm ▸ hi
  induction S generalizing m p tok y3 with
  | nil =>
    cases h with
    | done h => exact ⟨_, y3, p, .whdone (.tnt (b := true) (.tgen rfl (.call (.cons (.loc rfl) (.cons .byt .nil)) (part_end_word (w := ens ++ wCh))) .bool)), h⟩
  | cons s S ih =>
    cases h with
    | more h =>
      have hs := hS s (.head _)
      have ol : s.o.length = s.l := octs_len
      have hlo : s.o.length ≤ szl := Nat.le_trans hs.o_len (le_szl rfl)
      obtain ⟨a2, q2, n2, d2⟩ := nt_hex (n := n) (hi' (X := .map m)) hd h hw1 (u16_lt hs.t) (Nat.lt_of_le_of_lt hs.u_len (by decide))
      obtain ⟨tok3, q3, n3, st3⟩ := ch_next (n := n) (hi' (X := .map (putM s.key s.t m))) hd hr (fun x hx => hS x (.tail _ hx)) d2 hw2
      obtain ⟨tok', z3, q, k, dq⟩ := ih (m := putM s.key s.t m) (y3 := .bytes s.o) (fun x hx => hS x (.tail _ hx)) (Nat.lt_of_le_of_lt (Nat.le_trans (Nat.add_le_add_right putM_len _) (Nat.le_of_eq (Nat.add_right_comm _ 1 _))) hl) st3
      have hv := code_of (n := n + 3) (σ := C (σ.set j (.map m)) i d q2) hlo
      rw [hs.val_o] at hv
      have hln := e_len (n := n + 4) (σ := C (σ.set j (.map m)) i d q2) (ρ := [.cur .cursor i, .own j, hexTk s.o 0, .bytes s.o]) (k := 3) rfl hlo
      exact ⟨tok', z3, q, .whgo (.tnt (b := false) (.tgen rfl (.call (.cons (.loc rfl) (.cons .byt .nil)) part_end_hex) .bool)) (.next (.asg rfl (.call (.cons (.loc rfl) .nil) (code_in (ol ▸ hs.l1) (Nat.ble_eq_true_of_le (ol ▸ hs.l4)))))
        (.next (.seti (.call (.cons (e_tok hi' rfl n2) .nil) (text_in (n := n + 1) hs.t (Nat.lt_of_le_of_lt hs.t2 (by decide)))) (.loc rfl) (.tup (ws := s.key.map .int) (.cons (e_len (w := s.o) rfl hlo) (.cons (.call (.cons (.loc rfl) .nil) hv) .nil)) (ol ▸ .same rfl) (le_szl rfl)) (seti_J (kk := s.key) hj hjl (Nat.lt_of_le_of_lt (Nat.le_add_right _ _) hl))) (.one (.asg rfl (e_tok hi' rfl n3))))) rfl k, dq⟩
theorem read_chars (hw1 : whs w1) (hw2 : whs w2) (hj : j ≠ i) (hi : i < σ.length) (hjl : j < σ.length) (hd : d.length ≤ szl) (hr : stopsR rest = true) (hS : ∀ s ∈ S, s.Good) (hl : m.length + S.length < szl) (h : Dr d p (ws ++ chT w1 w2 rest S)) (hws : whs ws) :
    ∃ q, D (n + 5) (.f 29 [.cur .cursor i, .own j] (C (σ.set j (.map m)) i d p) .none (C (σ.set j (.map (puts m S))) i d q)) ∧ Dr d q rest := by
  have hi' : ∀ {X : OObj}, i < (σ.set j X).length := List.length_set.symm ▸ hi
  obtain ⟨tok, q1, n1, st⟩ := ch_next (n := n) (hi' (X := .map m)) hd hr hS h hws
  obtain ⟨tok', z3, q, k, dq⟩ := rch_loop (n := n) (y3 := .undef) hw1 hw2 hj hi hjl hd hr hS hl st
  exact ⟨q, .fnO (ir := ir29) (ρ := [.cur .cursor i, .own j, .undef, .undef]) rfl rfl rfl rfl (.next (.asg rfl (e_tok hi' rfl n1)) (.one (.whl k))) rfl rfl (by rw [C_len, C_len, List.length_set, List.length_set]), dq⟩
end
noncomputable def hdE (g : List En) : En := at' g 0
noncomputable def lsE (g : List En) : En := at' g (g.length - 1)
/-- a run of two or more -/
structure Rg (g : List En) : Prop where
  two : 2 ≤ g.length
  good : ∀ e ∈ g, e.Good
  run : ∀ (b : En) (k : Nat), g[k + 1]? = some b → cnd (hdE g) b (k + 1) = true
/-- what one entry of a run says -/
structure Of (a b : En) (k : Nat) : Prop where
  l : b.l = a.l
  c : b.c = a.c + k
  c2 : b.c / 256 = a.c / 256
  o : b.o = bump a.o k
  u : b.u = bump a.u k
section
variable {n : Nat} {σ τ : St} {i j k p q : Nat} {ρ : List AV} {g : List En} {w : List Nat} {a : Int}
theorem bump_zero (h : w ≠ []) : bump w 0 = w := (split_last h).symm
theorem Rg.pos (h : Rg g) : 0 < g.length := Nat.lt_of_lt_of_le (by decide) h.two
theorem Rg.hd (h : Rg g) : (hdE g).Good ∧ (hdE g).u ≠ [] := ⟨h.good _ (at_mem h.pos), (cnd_of (h.run _ 0 (at_get (Nat.lt_of_lt_of_le (by decide) h.two)))).2.2.2.1⟩
theorem Rg.get (h : Rg g) (hk : k < g.length) : Of (hdE g) (at' g k) k := by
  cases k with
  | zero => exact ⟨rfl, rfl, rfl, (bump_zero h.hd.1.o_ne).symm, (bump_zero h.hd.2).symm⟩
  | succ k =>
    obtain ⟨h1, h2, h3, -, h5⟩ := cnd_of (h.run _ k (at_get hk))
    exact ⟨h1, h2, h3, (cnd_octs h.hd.1 (h.good _ (at_mem hk))).mp ⟨h1, h2, h3⟩, h5⟩
theorem lastO_bump : lastO (bump w k) = lastO w + k := lastO_snoc
theorem Rg.last (h : Rg g) (hk : k < g.length) : lastO (hdE g).u + k < 256 := by
  have h1 := (h.get hk).u
  have h2 := u16_lt (h.good _ (at_mem hk)).t
  rw [show u16 (at' g k).t = bump (hdE g).u k from h1] at h2
  exact h2 _ (List.mem_append_right _ (.head _))
theorem texts_that_run (h : Rg g) (hl : g.length < 1000000) : D (n + 4) (.f 30 [hexTk (hdE g).u a, .int g.length] σ (.list (sa (g.map En.t))) σ) := by
  obtain ⟨h0, hne⟩ := h.hd
  have husz : (hdE g).u.length ≤ szl := Nat.le_trans h0.u_len (le_szl rfl)
  have hlast := h.last (k := g.length - 1) (Nat.sub_lt h.pos Nat.one_pos)
  have hg : ((lastO (hdE g).u : Nat) : Int) + (g.length : Int) - 1 ≤ 255 := by have := h.pos; omega
  have e0 : ((hdE g).u == []) = false := by
    cases e : (hdE g).u with
    | nil => exact absurd e hne
    | cons c r => rfl
  refine .fnV (ir := ir30) (ρ := [hexTk (hdE g).u a, .int g.length, .undef]) rfl rfl rfl rfl (.next (.asg rfl (.call (.cons (.loc rfl) .nil) string_in)) (.next (.if0 (.tbop (.tbgo (.tcmp (.loc rfl) (.cone .num (gtT (Int.ofNat_lt.mpr h.two)))) (.tbstop (.tbop (.tbgo (.tcmp (.loc rfl) (.cone .byt (cmp_b (.eq .byt) e0))) (.tbgo (.tcmp (.bin (.bin (e_lastb rfl hne husz) (.loc rfl) .addI) .num .sub) (.cone .num (gtF hg))) .tbnil))))))) 
    (.next (.if0 (.tcmp (.loc rfl) (.cone .byt (cmp_b (.eq .byt) e0)))) (.one (.ret rfl (.comp (.bi (.cons (.loc rfl) .nil) .rng1) (it_rng1 (Nat.lt_trans hl (by decide))) (by rw [List.length_map, List.length_range]; exact sz7 hl) (cl_ix (by rw [sa_len, List.length_map, List.length_map, List.length_range]) fun j x y h1 h2 => ?_))))))) fr_sa rfl
  rw [sa, List.getElem?_map, List.getElem?_map] at h2
  rw [List.getElem?_map] at h1
  obtain ⟨t, h3, rfl⟩ := Option.map_eq_some_iff.mp h2
  obtain ⟨b, h4, rfl⟩ := Option.map_eq_some_iff.mp h3
  have hj := get_lt h4
  rw [List.getElem?_range hj] at h1
  cases h1
  have eb : at' g j = b := Option.some.inj ((at_get hj).symm.trans h4)
  have hu := (h.get hj).u
  have hgb := h.good _ (at_mem hj)
  rw [eb] at hu hgb
  have ht := text_in (n := n) (σ := σ) (v := .int a) hgb.t (Nat.lt_of_le_of_lt hgb.t2 (by decide))
  rw [show u16 b.t = bump (hdE g).u j from hu] at ht
  have q1 : BiR .bytes [.list (ia [lastO (hdE g).u + j])] (.bytes [lastO (hdE g).u + j]) := .bytes (fun c hc => by cases List.mem_singleton.mp hc; exact h.last hj) (le_szl rfl)
  exact .call (.cons (.tup (.cons .str (.cons (.bin (.slc (.loc rfl) .onil (.osome .neg) (slc_b husz cut_dl)) (.bi (.cons (.lst (.cons (.bin (e_lastb rfl hne husz) (.loc rfl) .addI) .nil) (le_szl rfl)) .nil) q1) (.addB (by rw [List.length_dropLast]; exact Nat.le_trans (Nat.add_le_add_right (Nat.le_trans (Nat.sub_le _ _) h0.u_len) 1) (le_szl rfl)))) (.cons (.sub (.loc rfl) .num (.tup (le_szl rfl) (.pos (j := 2) rfl) rfl)) .nil))) (.same rfl) (le_szl rfl)) .nil) ht
end
noncomputable def rgT (rest : List Nat) : List (List En) → List Nat
  | [] => (ens ++ wRg) ++ rest
  | g :: gs => hexT (hdE g).o ++ ([32] ++ (hexT (lsE g).o ++ ([32] ++ (hexT (hdE g).u ++ ([10] ++ rgT rest gs)))))
inductive RgSt (rest d : List Nat) (p : Nat) : AV → List (List En) → Prop
  | done {a} (h : Dr d p rest) : RgSt rest d p (wordTk (ens ++ wRg) a) []
  | more {a g gs} (h : Dr d p ([32] ++ (hexT (lsE g).o ++ ([32] ++ (hexT (hdE g).u ++ ([10] ++ rgT rest gs)))))) : RgSt rest d p (hexTk (hdE g).o a) (g :: gs)
noncomputable def rrF : List MS := wb ((wb (nthS ir31 1)).getD 6 .stuck)
section
variable {n : Nat} {σ τ : St} {i j k p q : Nat} {ρ : List AV} {c0 tok x3 x4 x5 x6 x7 x8 : AV} {g es fs : List En} {e : En} {m : List (List Int × List Nat)} {d ws rest : List Nat} {S : List (List En)}
theorem puts_snoc : puts m (es ++ [e]) = putM e.key e.t (puts m es) := List.foldl_append
theorem puts_app : puts m (es ++ fs) = puts (puts m es) fs := List.foldl_append
theorem puts_len : (puts m es).length ≤ m.length + es.length := by
  induction es generalizing m with
  | nil => exact Nat.le_refl _
  | cons e es ih => exact Nat.le_trans (ih (m := putM e.key e.t m)) (Nat.le_trans (Nat.add_le_add_right putM_len _) (Nat.le_of_eq (Nat.add_right_comm _ 1 _)))
theorem rg_next (hi : i < σ.length) (hd : d.length ≤ szl) (hr : stopsR rest = true) (hS : ∀ g ∈ S, Rg g) (h : Dr d p (ws ++ rgT rest S)) (hws : whs ws) : ∃ tok q, D (n + 4) (.f 18 [.cur .cursor i] (C σ i d p) tok (C σ i d q)) ∧ RgSt rest d q tok S := by
  cases S with
  | nil => obtain ⟨a, q, h1, h2⟩ := nt_w (n := n) hi hd h hws hr (w := ens ++ wRg) rfl; exact ⟨_, q, h1, .done h2⟩
  | cons s S => obtain ⟨a, q, h1, h2⟩ := nt_hex (n := n) hi hd h hws octs_lt (Nat.lt_of_le_of_lt (hS s (.head _)).hd.1.o_len (by decide)); exact ⟨_, q, h1, .more h2⟩
theorem rr_inner (hj : j ≠ i) (hjl : j < σ.length) (hg : Rg g) (hgl : g.length ≤ szl) (hml : m.length + g.length < szl) :
    ∃ ρ', (∃ y8, ρ' = [c0, .own j, tok, .bytes (hdE g).o, x4, x5, x6, .list (sa (g.map En.t)), y8]) ∧ D (n + 1) (.fo [8] rrF ((List.range g.length).map fun (k : Nat) => .int (k : Int)) [c0, .own j, tok, .bytes (hdE g).o, x4, x5, x6, .list (sa (g.map En.t)), x8] (C (σ.set j (.map m)) i d p) .next ρ' (C (σ.set j (.map (puts m g))) i d p)) := by
  have h0 := hg.hd.1
  have ol : (hdE g).o.length = (hdE g).l := octs_len
  have hlo : (hdE g).o.length ≤ szl := Nat.le_trans h0.o_len (le_szl rfl)
  have q := fo_acc (n := n + 1) (i := 8) (b := rrF) (f := fun (k : Nat) => .int (k : Int)) (all := List.range g.length) (xs := List.range g.length) (pre := []) (ρ := [c0, .own j, tok, .bytes (hdE g).o, x4, x5, x6, .list (sa (g.map En.t)), x8]) (fun pre => C (σ.set j (.map (puts m (g.take pre.length)))) i d p) (fun ρ => ∃ y8, ρ = [c0, .own j, tok, .bytes (hdE g).o, x4, x5, x6, .list (sa (g.map En.t)), y8]) (fun pre k post ρ h hρ => by
    obtain ⟨y8, rfl⟩ := hρ
    obtain ⟨rfl, hk⟩ := rng_at h
    rw [List.length_append]
    generalize pre.length = k at *
    have o := hg.get hk
    have et : g.take (k + [k].length) = g.take k ++ [at' g k] := by
      show g.take (k + 1) = _
      rw [List.take_add_one, at_get hk]; rfl
    rw [et, puts_snoc]
    have hv := code_of (n := n) (σ := C (σ.set j (.map (puts m (g.take k)))) i d p) hlo
    rw [h0.val_o] at hv
    have key : (at' g k).key = [((hdE g).o.length : Int), ((hdE g).c : Int) + (k : Int)] := by unfold En.key; rw [o.l, o.c, ol]; rfl
    rw [key]
    have hz : (sa (g.map En.t)).length ≤ szl := by rw [sa_len, List.length_map]; exact hgl
    exact ⟨_, ⟨.int k, rfl⟩, .one (.seti (.sub (.loc rfl) (.loc rfl) (.list hz (.pos rfl) (map_at (f := AV.str) (by rw [List.getElem?_map, at_get hk]; rfl)))) (.loc rfl) (.tup (ws := [((hdE g).o.length : Int), ((hdE g).c : Int) + (k : Int)].map .int) (.cons (e_len rfl hlo) (.cons (.bin (.call (.cons (.loc rfl) .nil) hv) (.loc rfl) .addI) .nil)) (.same rfl) (le_szl rfl)) (seti_J hj hjl (Nat.lt_of_le_of_lt puts_len (Nat.lt_of_le_of_lt (Nat.add_le_add_left (List.length_take_le' _ _) _) hml))))⟩) rfl ⟨_, rfl⟩
  rw [List.length_range, List.take_length] at q
  exact q
end
section
variable {n : Nat} {σ τ : St} {i j k p q : Nat} {ρ : List AV} {c0 tok x3 x4 x5 x6 x7 x8 : AV} {g es fs : List En} {e : En} {m : List (List Int × List Nat)} {d ws rest : List Nat} {S : List (List En)}
theorem bytF {u v : List Nat} (h : u = v) : CmpR .NotEq (.bytes u) (.bytes v) false := cmp_b (.ne .byt) (by rw [h, beq_self_eq_true]; rfl)
theorem Rg.ls (h : Rg g) : Of (hdE g) (lsE g) (g.length - 1) ∧ (lsE g).Good :=
  have hk := Nat.sub_lt h.pos Nat.one_pos
  ⟨h.get hk, h.good _ (at_mem hk)⟩
theorem rrg_loop (hj : j ≠ i) (hi : i < σ.length) (hjl : j < σ.length) (hd : d.length ≤ szl) (hr : stopsR rest = true) (hS : ∀ g ∈ S, Rg g) (hl : m.length + S.flatten.length < 1000000) (h : RgSt rest d p tok S) :
    ∃ tok' z3 z4 z5 z6 z7 z8 q, D (n + 5) (.wh (wt (nthS ir31 1)) (wb (nthS ir31 1)) [.cur .cursor i, .own j, tok, x3, x4, x5, x6, x7, x8] (C (σ.set j (.map m)) i d p) .next [.cur .cursor i, .own j, tok', z3, z4, z5, z6, z7, z8] (C (σ.set j (.map (puts m S.flatten))) i d q)) ∧ Dr d q rest := by
  have hi' : ∀ {X : OObj}, i < (σ.set j X).length := List.length_set.symm ▸ hi
  induction S generalizing m p tok x3 x4 x5 x6 x7 x8 with
  | nil =>
    cases h with
    | done h => exact ⟨_, x3, x4, x5, x6, x7, x8, p, .whdone (.tnt (b := true) (.tgen rfl (.call (.cons (.loc rfl) (.cons .byt .nil)) (part_end_word (w := ens ++ wRg))) .bool)), h⟩
  | cons g S ih =>
    cases h with
    | more h =>
      rename_i a1
      have hg := hS g (.head _)
      obtain ⟨h0, hne⟩ := hg.hd
      obtain ⟨ol, hz⟩ := hg.ls
      rw [List.flatten_cons, List.length_append] at hl
      have l1 : (hdE g).o.length = (hdE g).l := octs_len
      have l2 : (lsE g).o.length = (hdE g).o.length := octs_len.trans (ol.l.trans l1.symm)
      have g1 : (hdE g).o.length ≠ 0 := l1 ▸ h0.l1
      have g2 : Nat.ble (hdE g).o.length 4 = true := Nat.ble_eq_true_of_le (l1 ▸ h0.l4)
      have hlo : (hdE g).o.length ≤ szl := Nat.le_trans h0.o_len (le_szl rfl)
      have hls : (lsE g).o.length ≤ szl := l2 ▸ hlo
      have ez : (lsE g).o.dropLast = (hdE g).o.dropLast := by rw [ol.o, bump, List.dropLast_concat]
      have el : lastO (lsE g).o = lastO (hdE g).o + (g.length - 1) := by rw [ol.o, lastO_bump]
      have hgl : g.length < 1000000 := Nat.lt_of_le_of_lt (Nat.le_trans (Nat.le_add_right _ _) (Nat.le_add_left _ _)) hl
      obtain ⟨a2, q2, n2, d2⟩ := nt_hex (n := n + 1) (hi' (X := .map m)) hd h (ws_b (ws := [32]) rfl) octs_lt (Nat.lt_of_le_of_lt hz.o_len (by decide))
      obtain ⟨a3, q3, n3, d3⟩ := nt_hex (n := n + 1) (hi' (X := .map m)) hd d2 (ws_b (ws := [32]) rfl) (u16_lt h0.t) (Nat.lt_of_le_of_lt h0.u_len (by decide))
      obtain ⟨tok4, q4, n4, st4⟩ := rg_next (n := n + 1) (hi' (X := .map (puts m g))) hd hr (fun x hx => hS x (.tail _ hx)) d3 (ws_b (ws := [10]) rfl)
      obtain ⟨_, ⟨y8, rfl⟩, kf⟩ := rr_inner (n := n + 4) (c0 := .cur .cursor i) (tok := hexTk (hdE g).o a1) (x4 := .bytes (lsE g).o) (x5 := .int g.length) (x6 := hexTk (hdE g).u a3) (x8 := x8) (d := d) (p := q3) hj hjl hg (sz7 hgl) (Nat.lt_of_lt_of_le (Nat.lt_of_le_of_lt (by rw [← Nat.add_assoc]; exact Nat.le_add_right _ _) hl) (by unfold szl; decide))
      obtain ⟨tok', z3, z4, z5, z6, z7, z8, q, k, dq⟩ := ih (m := puts m g) (x3 := .bytes (hdE g).o) (x4 := .bytes (lsE g).o) (x5 := .int g.length) (x6 := hexTk (hdE g).u a3) (x7 := .list (sa (g.map En.t))) (x8 := y8) (fun x hx => hS x (.tail _ hx)) (Nat.lt_of_le_of_lt (by rw [← Nat.add_assoc]; exact Nat.add_le_add_right puts_len _) hl) st4
      rw [← puts_app, ← List.flatten_cons] at k
      have e5 : ((g.length - 1 : Nat) : Int) + 1 = g.length := congrArg Int.ofNat (Nat.sub_add_cancel hg.pos)
      have hm5 : D (n + 5) (.e [.cur .cursor i, .own j, hexTk (hdE g).o a1, .bytes (hdE g).o, .bytes (lsE g).o, x5, x6, x7, x8] (.bin .Add (.bin .Sub (.sub (.loc 4) (.neg 1)) (.sub (.loc 3) (.neg 1))) (.num 1)) (C (σ.set j (.map m)) i d q2) (.int g.length) (C (σ.set j (.map m)) i d q2)) := by
        rw [← e5]
        exact .bin (.bin (e_lastb rfl hz.o_ne hls) (e_lastb rfl h0.o_ne hlo) (subN (by rw [el, Nat.add_comm]))) .num .addI
      exact ⟨tok', z3, z4, z5, z6, z7, z8, q, .whgo (.tnt (b := false) (.tgen rfl (.call (.cons (.loc rfl) (.cons .byt .nil)) part_end_hex) .bool)) (.next (.asg rfl (.call (.cons (.loc rfl) .nil) (code_in g1 g2))) (.next (.asg rfl (.call (.cons (e_tok hi' rfl n2) .nil) (code_in (l2 ▸ g1) (l2 ▸ g2))))
        (.next (.if0 (.tbop (.tbgo (.tcmp (e_len rfl hlo) (.cone (e_len rfl hls) (neF (congrArg Int.ofNat l2.symm)))) (.tbgo (.tcmp (.slc (.loc rfl) .onil (.osome .neg) (slc_b hlo cut_dl)) (.cone (.slc (.loc rfl) .onil (.osome .neg) (slc_b hls cut_dl)) (bytF ez.symm))) (.tbgo (.tcmp (e_lastb rfl h0.o_ne hlo) (.cone (e_lastb rfl hz.o_ne hls) (gtF (Int.ofNat_le.mpr (el ▸ Nat.le_add_right _ _))))) .tbnil)))))
          (.next (.asg rfl hm5) (.next (.asg rfl (e_tok hi' rfl n3)) (.next (.ifF (.tbop (.tbstop (.tcmp (tk0 rfl) (.cone .str (cmp_b (.eq (.cmp .str)) rfl))))) (.one (.asg rfl (.call (.cons (.loc rfl) (.cons (.loc rfl) .nil)) (texts_that_run hg hgl)))))
            (.next (.for_ (.bi (.cons (.loc rfl) .nil) .rng1) (it_rng1 (Nat.lt_trans hgl (by decide))) (by rw [List.length_map, List.length_range]; exact sz7 hgl) kf) (.one (.asg rfl (e_tok hi' rfl n4)))))))))) rfl k, dq⟩
theorem read_ranges (hj : j ≠ i) (hi : i < σ.length) (hjl : j < σ.length) (hd : d.length ≤ szl) (hr : stopsR rest = true) (hS : ∀ g ∈ S, Rg g) (hl : m.length + S.flatten.length < 1000000) (h : Dr d p (ws ++ rgT rest S)) (hws : whs ws) :
    ∃ q, D (n + 6) (.f 31 [.cur .cursor i, .own j] (C (σ.set j (.map m)) i d p) .none (C (σ.set j (.map (puts m S.flatten))) i d q)) ∧ Dr d q rest := by
  have hi' : ∀ {X : OObj}, i < (σ.set j X).length := List.length_set.symm ▸ hi
  obtain ⟨tok, q1, n1, st⟩ := rg_next (n := n + 1) (hi' (X := .map m)) hd hr hS h hws
  obtain ⟨tok', z3, z4, z5, z6, z7, z8, q, k, dq⟩ := rrg_loop (n := n) (x3 := .undef) (x4 := .undef) (x5 := .undef) (x6 := .undef) (x7 := .undef) (x8 := .undef) hj hi hjl hd hr hS hl st
  exact ⟨q, .fnO (ir := ir31) (ρ := [.cur .cursor i, .own j, .undef, .undef, .undef, .undef, .undef, .undef, .undef]) rfl rfl rfl rfl (.next (.asg rfl (e_tok hi' rfl n1)) (.one (.whl k))) rfl rfl (by rw [C_len, C_len, List.length_set, List.length_set]), dq⟩
end
section
variable {n : Nat} {σ τ : St} {i j k p q : Nat} {ρ : List AV} {v : AV} {e : ME} {c : Cls} {a : Atr} {fl fl' : List (Atr × AV)} {d : List Nat} {xs : List AV} {m : List (List Int × List Nat)}
/-! the two constructors -/
theorem seta_O (h : rd ρ k = some (.cur c σ.length)) (he : D n (.e ρ e (σ ++ [.inst c fl]) v (σ ++ [.inst c fl]))) (hf : frozen v = true) (hl : fl.length ≤ 8) (hp : putF a v fl = fl') : D n (.s (.seta (.loc k) a e) ρ (σ ++ [.inst c fl]) .next ρ (σ ++ [.inst c fl'])) := by
  have q : SetaR (σ ++ [.inst c fl]) a v (.cur c σ.length) _ := .mk own_get hf hl
  rw [own_set, hp] at q
  exact .seta he (.loc h) q
theorem len_snoc {X Y : OObj} : (σ ++ [X]).length = (σ ++ [Y]).length := by rw [List.length_append, List.length_append]; rfl
theorem cmap_init (hx : frozens xs = true) : D (n + 1) (.f 0 [.cur .cmap σ.length, .list xs, .map m] (σ ++ [.inst .cmap []]) .none (σ ++ [.inst .cmap [(.spaces, .list xs), (.chars, .map m)]])) :=
  .fnO (ir := ir0) (ρ := [.cur .cmap σ.length, .list xs, .map m]) rfl rfl rfl rfl (.next (seta_O (fl' := [(.spaces, .list xs)]) rfl (.loc rfl) hx (Nat.zero_le _) rfl) (.one (seta_O rfl (.loc rfl) rfl (Nat.le_of_ble_eq_true rfl) rfl))) rfl rfl len_snoc
theorem cursor_init (hd : d.length ≤ szl) : D (n + 1) (.f 1 [.cur .cursor σ.length, .bytes d] (σ ++ [.inst .cursor []]) .none (σ ++ [cu d 0])) :=
  .fnO (ir := ir1) (ρ := [.cur .cursor σ.length, .bytes d, .int 0, .int (-1)]) rfl rfl rfl rfl (.next (seta_O (fl' := [(.data, .bytes d)]) rfl (.loc rfl) rfl (Nat.zero_le _) rfl) (.next (seta_O (fl' := [(.data, .bytes d), (.at_, .int 0)]) rfl (.loc rfl) rfl (Nat.le_of_ble_eq_true rfl) rfl)
    (.one (seta_O (fl' := [(.data, .bytes d), (.at_, .int 0), (.end_, .int d.length)]) rfl (.itT (.tcmp (.loc rfl) (.cone .num (ltT (Int.negSucc_lt_zero 0)))) (e_len rfl hd)) rfl (Nat.le_of_ble_eq_true rfl) rfl)))) rfl rfl len_snoc
end
noncomputable def Bs (σ : St) (d : List Nat) (sp : List AV) (m : List (List Int × List Nat)) : St := σ ++ [cu d 0, .list sp, .map m]
noncomputable def rcR (σ : St) (d : List Nat) (tok : AV) : List AV := [.bytes d, .cur .cursor σ.length, .own (σ.length + 1), .own (σ.length + 2), tok]
/-- the rest r, read on from a store, ends so -/
noncomputable def Rdg (n : Nat) (σ : St) (d r : List Nat) (sp : List AV) (m : List (List Int × List Nat)) (sp' : List AV) (m' : List (List Int × List Nat)) : Prop :=
  ∀ p, Dr d p r → ∃ tok q, D (n + 7) (.f 18 [.cur .cursor σ.length] (C (Bs σ d sp m) σ.length d p) tok (C (Bs σ d sp m) σ.length d q)) ∧ ∃ tok' q',
    D (n + 7) (.wh (wt (nthS ir32 4)) (wb (nthS ir32 4)) (rcR σ d tok) (C (Bs σ d sp m) σ.length d q) .next (rcR σ d tok') (C (Bs σ d sp' m') σ.length d q'))
section
variable {n : Nat} {σ τ : St} {k p q : Nat} {ρ : List AV} {v tok : AV} {d r rest w u X ws : List Nat} {sp sp' : List AV} {m m' : List (List Int × List Nat)} {b : Bool} {a : Int}
theorem Bs_len : σ.length < (Bs σ d sp m).length := by rw [Bs, List.length_append]; exact Nat.lt_add_of_pos_right (Nat.succ_pos 2)
theorem t_end (h : rd ρ 4 = some (.tup [.str w, v, .int a])) (hw : (!(w == [101, 110, 100])) = b) : D n (.t ρ (.cmp (.sub (.loc 4) (.num 0)) [.NotEq] [.str [101, 110, 100]]) τ b τ) := .tcmp (tk0 h) (.cone .str (cmp_b (.ne (.cmp .str)) hw))
theorem t_no (h : rd ρ 4 = some (.tup [.str w, v, .int a])) (hw : (w == [119, 111, 114, 100]) = false) : D n (.t ρ (.bop true [.cmp (.sub (.loc 4) (.num 0)) [.Eq] [.str [119, 111, 114, 100]], .cmp (.sub (.loc 4) (.num 1)) [.Eq] [.byt X]]) τ false τ) := .tbop (.tbstop (.tcmp (tk0 h) (.cone .str (cmp_b (.eq (.cmp .str)) hw))))
theorem t_word (h : rd ρ 4 = some (wordTk u a)) (hw : (u == X) = b) : D n (.t ρ (.bop true [.cmp (.sub (.loc 4) (.num 0)) [.Eq] [.str [119, 111, 114, 100]], .cmp (.sub (.loc 4) (.num 1)) [.Eq] [.byt X]]) τ b τ) := by
  have g : D n (.t ρ (.cmp (.sub (.loc 4) (.num 0)) [.Eq] [.str [119, 111, 114, 100]]) τ true τ) := .tcmp (tk0 h) (.cone .str (cmp_b (.eq (.cmp .str)) rfl))
  have g2 : D n (.t ρ (.cmp (.sub (.loc 4) (.num 1)) [.Eq] [.byt X]) τ b τ) := .tcmp (tk1 h) (.cone .byt (cmp_b (.eq .byt) hw))
  cases b with
  | true => exact .tbop (.tbgo g (.tbgo g2 .tbnil))
  | false => exact .tbop (.tbgo g (.tbstop g2))
theorem res_end (hd : d.length ≤ szl) (hws : whs ws) : Rdg n σ d ws sp m sp m := fun p hp =>
  let ⟨a, q, h1⟩ := nt_end (n := n + 3) (σ := Bs σ d sp m) (i := σ.length) Bs_len hd hp hws
  ⟨_, q, h1, _, q, .whdone (t_end rfl rfl)⟩
/-- a token that begins no section -/
theorem res_skip {r r1 : List Nat} (hw : (w == [101, 110, 100]) = false) (hn : ∀ p, Dr d p r → ∃ v a q, D (n + 7) (.f 18 [.cur .cursor σ.length] (C (Bs σ d sp m) σ.length d p) (.tup [.str w, v, .int a]) (C (Bs σ d sp m) σ.length d q)) ∧ Dr d q r1 ∧
      ∀ {ρ : List AV} {τ : St} {X : List Nat}, X = bgn.drop 1 ++ wSp ∨ X = bgn.drop 1 ++ wCh ∨ X = bgn.drop 1 ++ wRg → rd ρ 4 = some (.tup [.str w, v, .int a]) → D (n + 7) (.t ρ (.bop true [.cmp (.sub (.loc 4) (.num 0)) [.Eq] [.str [119, 111, 114, 100]], .cmp (.sub (.loc 4) (.num 1)) [.Eq] [.byt X]]) τ false τ))
    (hres : Rdg n σ d r1 sp m sp' m') : Rdg n σ d r sp m sp' m' := fun p hp => by
  obtain ⟨v, a, q, h1, h2, ht⟩ := hn p hp
  obtain ⟨tok2, q2, h3, tok', q', h4⟩ := hres q h2
  exact ⟨_, q, h1, tok', q', .whgo (t_end rfl (congrArg not hw)) (.next (.ifF (ht (.inl rfl) rfl) (.one (.ifF (ht (.inr (.inl rfl)) rfl) (.one (.if0 (ht (.inr (.inr rfl)) rfl)))))) (.one (.asg rfl (e_tok Bs_len rfl h3)))) rfl h4⟩
theorem res_name (hd : d.length ≤ szl) (hws : whs ws) (hr : stopsR rest = true) (hw : ∀ x ∈ w, isReg x = true ∧ x ≠ 35 ∧ x ≠ 0 ∧ x < 1114112) (hl : w.length < szl) (hres : Rdg n σ d rest sp m sp' m') : Rdg n σ d (ws ++ 47 :: (w ++ rest)) sp m sp' m' :=
  res_skip rfl (fun p hp => let ⟨a, q, h1, h2⟩ := nt_name (n := n + 3) Bs_len hd hp hws hr hw hl; ⟨_, a, q, h1, h2, fun _ h => t_no h rfl⟩) hres
theorem res_word (hd : d.length ≤ szl) (hws : whs ws) (hr : stopsR rest = true) (hw : isWord w = true) (h1 : (w == bgn.drop 1 ++ wSp) = false) (h2 : (w == bgn.drop 1 ++ wCh) = false) (h3 : (w == bgn.drop 1 ++ wRg) = false) (hres : Rdg n σ d rest sp m sp' m') : Rdg n σ d (ws ++ (w ++ rest)) sp m sp' m' :=
  res_skip rfl (fun p hp => let ⟨a, q, g1, g2⟩ := nt_w (n := n + 3) Bs_len hd hp hws hr hw; ⟨_, a, q, g1, g2, fun hX h => by
    rcases hX with rfl | rfl | rfl
    · exact t_word h h1
    · exact t_word h h2
    · exact t_word h h3⟩) hres
theorem res_int (hd : d.length ≤ szl) (hws : whs ws) (hr : stopsR rest = true) (hw : ∀ x ∈ w, isDig x = true) (hn : w ≠ []) (hl : Nat.ble w.length 40 = true) (hres : Rdg n σ d rest sp m sp' m') : Rdg n σ d (ws ++ (w ++ rest)) sp m sp' m' :=
  res_skip rfl (fun p hp => let ⟨v, a, q, h1, h2⟩ := nt_int (n := n + 3) Bs_len hd hp hws hr hw hn hl; ⟨_, a, q, h1, h2, fun _ h => t_no h rfl⟩) hres
end
noncomputable def rcI : MS := (wb (nthS ir32 4)).getD 0 .stuck
section
variable {n : Nat} {σ τ : St} {k p q : Nat} {d r r1 r2 rest w ws : List Nat} {sp sp' sp1 : List AV} {m m' m1 : List (List Int × List Nat)}
/-- a section -/
theorem res_sec (hd : d.length ≤ szl) (hws : whs ws) (hr : stopsR r1 = true) (hw : isWord w = true)
    (hb : ∀ (a : Int) q, Dr d q r1 → ∃ q2, D (n + 7) (.s rcI (rcR σ d (wordTk w a)) (C (Bs σ d sp m) σ.length d q) .next (rcR σ d (wordTk w a)) (C (Bs σ d sp1 m1) σ.length d q2)) ∧ Dr d q2 r2)
    (hres : Rdg n σ d r2 sp1 m1 sp' m') : Rdg n σ d (ws ++ (w ++ r1)) sp m sp' m' := fun p hp => by
  obtain ⟨a, q, h1, h2⟩ := nt_w (n := n + 3) (σ := Bs σ d sp m) (i := σ.length) Bs_len hd hp hws hr hw
  obtain ⟨q2, h3, h4⟩ := hb a q h2
  obtain ⟨tok2, q3, h5, tok', q', h6⟩ := hres q2 h4
  exact ⟨_, q, h1, tok', q', .whgo (t_end (w := [119, 111, 114, 100]) rfl rfl) (.next h3 (.one (.asg rfl (e_tok Bs_len rfl h5)))) rfl h6⟩
theorem Bs_set1 {xs : List AV} : (Bs σ d sp m).set (σ.length + 1) (.list xs) = Bs σ d xs m := setN
theorem Bs_set2 : (Bs σ d sp m).set (σ.length + 2) (.map m1) = Bs σ d sp m1 := setN
theorem Bs_lt (h : k < 3) : σ.length + k < (Bs σ d sp m).length := by rw [Bs, List.length_append]; exact Nat.add_lt_add_left h _
theorem ne_add (h : k ≠ 0) : σ.length + k ≠ σ.length := fun e => h (Nat.add_left_cancel (e.trans (Nat.add_zero _).symm))
theorem res_spaces {S Ds : List Sp} {c : List Nat} (hd : d.length ≤ szl) (hws : whs ws) (hr : stopsR rest = true) (hS : ∀ s ∈ S, s.Good) (hl : Ds.length + S.length < szl) (hc : whs c) (hr1 : stopsR (c ++ spT rest S) = true)
    (hres : Rdg n σ d rest (sps (Ds ++ S)) m sp' m') : Rdg n σ d (ws ++ ((bgn.drop 1 ++ wSp) ++ (c ++ spT rest S))) (sps Ds) m sp' m' :=
  res_sec hd hws hr1 rfl (fun a q h => by
    obtain ⟨q2, h1, h2⟩ := read_spaces (n := n + 2) (σ := Bs σ d (sps Ds) m) (i := σ.length) (j := σ.length + 1) (Ds := Ds) (ne_add (by decide)) Bs_len (Bs_lt (by decide)) hd hr hS hl h hc
    rw [spl, spl, Bs_set1, Bs_set1] at h1
    exact ⟨q2, .ifT (t_word rfl rfl) (.one (.exp (.call (.cons (.loc rfl) (.cons (.loc rfl) .nil)) h1))), h2⟩) hres
theorem res_chars {S : List En} {c w1 w2 : List Nat} (hd : d.length ≤ szl) (hws : whs ws) (hr : stopsR rest = true) (hS : ∀ s ∈ S, s.Good) (hl : m.length + S.length < szl) (hc : whs c) (hw1 : whs w1) (hw2 : whs w2) (hr1 : stopsR (c ++ chT w1 w2 rest S) = true)
    (hres : Rdg n σ d rest sp (puts m S) sp' m') : Rdg n σ d (ws ++ ((bgn.drop 1 ++ wCh) ++ (c ++ chT w1 w2 rest S))) sp m sp' m' :=
  res_sec hd hws hr1 rfl (fun a q h => by
    obtain ⟨q2, h1, h2⟩ := read_chars (n := n + 2) (σ := Bs σ d sp m) (i := σ.length) (j := σ.length + 2) (m := m) hw1 hw2 (ne_add (by decide)) Bs_len (Bs_lt (by decide)) hd hr hS hl h hc
    rw [Bs_set2, Bs_set2] at h1
    exact ⟨q2, .ifF (t_word rfl rfl) (.one (.ifT (t_word rfl rfl) (.one (.exp (.call (.cons (.loc rfl) (.cons (.loc rfl) .nil)) h1))))), h2⟩) hres
theorem res_ranges {S : List (List En)} {c : List Nat} (hd : d.length ≤ szl) (hws : whs ws) (hr : stopsR rest = true) (hS : ∀ g ∈ S, Rg g) (hl : m.length + S.flatten.length < 1000000) (hc : whs c) (hr1 : stopsR (c ++ rgT rest S) = true)
    (hres : Rdg n σ d rest sp (puts m S.flatten) sp' m') : Rdg n σ d (ws ++ ((bgn.drop 1 ++ wRg) ++ (c ++ rgT rest S))) sp m sp' m' :=
  res_sec hd hws hr1 rfl (fun a q h => by
    obtain ⟨q2, h1, h2⟩ := read_ranges (n := n + 1) (σ := Bs σ d sp m) (i := σ.length) (j := σ.length + 2) (m := m) (ne_add (by decide)) Bs_len (Bs_lt (by decide)) hd hr hS hl h hc
    rw [Bs_set2, Bs_set2] at h1
    exact ⟨q2, .ifF (t_word rfl rfl) (.one (.ifF (t_word rfl rfl) (.one (.ifT (t_word rfl rfl) (.one (.exp (.call (.cons (.loc rfl) (.cons (.loc rfl) .nil)) h1))))))), h2⟩) hres
end
/-! runs of tokens that are passed over -/
inductive It where
  | nm (w : List Nat) | wd (w : List Nat) | nt (w : List Nat)
noncomputable def It.tx : It → List Nat
  | .nm w => 47 :: w | .wd w => w | .nt w => w
noncomputable def It.okB : It → Bool
  | .nm w => (w.all fun x => isReg x && (!Nat.beq x 35 && (!Nat.beq x 0 && Nat.ble x 1114111))) && Nat.ble w.length 100
  | .wd w => isWord w && (!(w == bgn.drop 1 ++ wSp) && (!(w == bgn.drop 1 ++ wCh) && !(w == bgn.drop 1 ++ wRg)))
  | .nt w => w.all isDig && (!w.isEmpty && Nat.ble w.length 40)
noncomputable def itB (t : It × Nat) : Bool := t.1.okB && isWh t.2
noncomputable def itT (l : List (It × Nat)) (r : List Nat) : List Nat := l.foldr (fun t r => t.1.tx ++ t.2 :: r) r
noncomputable def hdI : List (It × Nat) := [(.nm [67, 73, 68, 73, 110, 105, 116], 32), (.nm [80, 114, 111, 99, 83, 101, 116], 32), (.wd [102, 105, 110, 100, 114, 101, 115, 111, 117, 114, 99, 101], 32), (.wd [98, 101, 103, 105, 110], 10),
  (.nt [49, 50], 32), (.wd [100, 105, 99, 116], 32), (.wd [98, 101, 103, 105, 110], 10), (.wd [98, 101, 103, 105, 110, 99, 109, 97, 112], 10),
  (.nm [67, 77, 97, 112, 78, 97, 109, 101], 32), (.nm [65, 100, 111, 98, 101, 45, 73, 100, 101, 110, 116, 105, 116, 121, 45, 85, 67, 83], 32), (.wd [100, 101, 102], 10), (.nm [67, 77, 97, 112, 84, 121, 112, 101], 32), (.nt [50], 32), (.wd [100, 101, 102], 10)]
noncomputable def tlI : List (It × Nat) := [(.wd [101, 110, 100, 99, 109, 97, 112], 10), (.wd [67, 77, 97, 112, 78, 97, 109, 101], 32), (.wd [99, 117, 114, 114, 101, 110, 116, 100, 105, 99, 116], 32), (.nm [67, 77, 97, 112], 32), (.wd [100, 101, 102, 105, 110, 101, 114, 101, 115, 111, 117, 114, 99, 101], 32), (.wd [112, 111, 112], 10), (.wd [101, 110, 100], 10), (.wd [101, 110, 100], 10)]
noncomputable def chRow (e : En) : List Nat := hexT e.o ++ [32] ++ hexT e.u
noncomputable def rgRow (g : List En) : List Nat := hexT (hdE g).o ++ [32] ++ hexT (lsE g).o ++ [32] ++ hexT (hdE g).u
section
variable {n : Nat} {σ τ : St} {a k p q : Nat} {d r r1 r2 rest w ws T : List Nat} {sp sp' sp1 : List AV} {m m' m1 : List (List Int × List Nat)} {l : List (It × Nat)} {t : It} {A B rows : List (List Nat)} {S : List Sp} {es : List En} {gs : List (List En)}
theorem hd_text : unl (hd3 ++ hd2) ++ r = itT hdI r := rfl
theorem tl_text : unl tl4 ++ r = itT tlI r := rfl
theorem hd_ok : hdI.all itB = true := by decide +kernel
theorem tl_ok : tlI.all itB = true := by decide +kernel
theorem stops_wh (h : isWh a = true) : stopsR (a :: r) = true := by
  show (!(!isWh a && !isDel a)) = true
  rw [h]; rfl
theorem wh1 (h : isWh a = true) : whs [a] := fun c hc => by cases List.mem_singleton.mp hc; exact h
theorem res_item (hd : d.length ≤ szl) (ht : t.okB = true) (hws : whs ws) (hr : stopsR rest = true) (hres : Rdg n σ d rest sp m sp' m') : Rdg n σ d (ws ++ (t.tx ++ rest)) sp m sp' m' := by
  cases t with
  | nm w => exact res_name hd hws hr (fun x hx => by
      have h := List.all_eq_true.mp (and_l ht) x hx
      have h2 := and_r h; have h3 := and_r h2
      exact ⟨and_l h, Nat.ne_of_beq_eq_false (not_f (and_l h2)), Nat.ne_of_beq_eq_false (not_f (and_l h3)), Nat.lt_succ_of_le (Nat.le_of_ble_eq_true (and_r h3))⟩) (Nat.lt_of_le_of_lt (Nat.le_of_ble_eq_true (and_r ht)) (Nat.lt_of_lt_of_le (by decide : 100 < 1000) (le_szl rfl))) hres
  | wd w => exact res_word hd hws hr (and_l ht) (not_f (and_l (and_r ht))) (not_f (and_l (and_r (and_r ht)))) (not_f (and_r (and_r (and_r ht)))) hres
  | nt w => exact res_int hd hws hr (List.all_eq_true.mp (and_l ht)) (fun e => by subst e; cases (ht : (true && (false && true)) = true)) (and_r (and_r ht)) hres
theorem res_items (hd : d.length ≤ szl) (ht : l.all itB = true) (hws : whs ws) (hres : ∀ ws', whs ws' → Rdg n σ d (ws' ++ rest) sp m sp' m') : Rdg n σ d (ws ++ itT l rest) sp m sp' m' := by
  induction l generalizing ws with
  | nil => exact hres ws hws
  | cons t l ih =>
    have h1 := and_l ht
    exact res_item hd (and_l h1) hws (stops_wh (and_r h1)) (ih (and_r ht) (ws := [t.2]) (wh1 (and_r h1)))

theorem unl_app : unl (A ++ B) = unl A ++ unl B := List.flatMap_append
theorem unl_cons : unl (w :: A) = w ++ ([10] ++ unl A) := List.append_assoc w [10] _
theorem parts_one (h1 : rows ≠ []) (h2 : rows.length ≤ 100) : parts w rows = blk w rows := by
  have h3 := List.length_pos_iff.mpr h1
  have e : (rows.length + 99) / 100 = 1 := Nat.div_eq_of_lt_le (Nat.add_le_add_right h3 99) (Nat.lt_of_le_of_lt (Nat.add_le_add_right h2 99) (by decide))
  rw [parts, e]
  show blk w (pt rows 0) = _
  exact congrArg (blk w) (List.take_of_length_le h2)
theorem blk_text : unl (blk w rows) ++ r = dec rows.length ++ ([32] ++ ((bgn.drop 1 ++ w) ++ ([10] ++ (unl rows ++ ((ens ++ w) ++ ([10] ++ r)))))) := by
  rw [blk, unl_cons, unl_app, show unl [ens ++ w] = (ens ++ w) ++ [10] from List.append_nil _]
  simp only [List.append_assoc]; rfl
/-- a part: none, or one -/
theorem sec (hd : d.length ≤ szl) (hl : rows.length ≤ 100) (hT : unl rows ++ ((ens ++ w) ++ ([10] ++ r)) = T) (h0 : rows = [] → ∀ ws, whs ws → Rdg n σ d (ws ++ r) sp m sp' m') (h1 : Rdg n σ d ([32] ++ ((bgn.drop 1 ++ w) ++ ([10] ++ T))) sp m sp' m') (hws : whs ws) : Rdg n σ d (ws ++ (unl (parts w rows) ++ r)) sp m sp' m' := by
  cases hr : rows with
  | nil => exact h0 hr ws hws
  | cons x xs =>
    rw [← hr, parts_one (by rw [hr]; exact List.cons_ne_nil _ _) hl, blk_text, hT]
    have q := dec_small rows.length (Nat.lt_of_le_of_lt hl (by decide))
    exact res_int hd hws (stops_wh rfl) (List.all_eq_true.mp (and_l (and_r q))) (fun e => by rw [e] at q; cases q) (Nat.ble_eq_true_of_le (Nat.le_trans (Nat.le_of_ble_eq_true (and_l q)) (by decide))) h1
theorem sp_text : unl (S.map spRow) ++ ((ens ++ wSp) ++ r) = spT r S := by
  induction S with
  | nil => rfl
  | cons s S ih => rw [spT, ← ih, List.map_cons, unl_cons, spRow]; simp only [List.append_assoc]
theorem ch_text : unl (es.map chRow) ++ ((ens ++ wCh) ++ r) = chT [32] [10] r es := by
  induction es with
  | nil => rfl
  | cons s S ih => rw [chT, ← ih, List.map_cons, unl_cons, chRow]; simp only [List.append_assoc]
theorem rg_text : unl (gs.map rgRow) ++ ((ens ++ wRg) ++ r) = rgT r gs := by
  induction gs with
  | nil => rfl
  | cons s S ih => rw [rgT, ← ih, List.map_cons, unl_cons, rgRow]; simp only [List.append_assoc]
theorem wh10 : whs [10] := wh1 rfl
theorem wh32 : whs [32] := wh1 rfl
theorem sec_sp (hd : d.length ≤ szl) (hS : ∀ s ∈ S, s.Good) (hl : S.length ≤ 100) (hres : ∀ ws, whs ws → Rdg n σ d (ws ++ r) (sps S) m sp' m') (hws : whs ws) :
    Rdg n σ d (ws ++ (unl (parts wSp (S.map spRow)) ++ r)) [] m sp' m' :=
  sec hd (by rw [List.length_map]; exact hl) sp_text (fun e => by cases List.map_eq_nil_iff.mp e; exact hres)
    (res_spaces (Ds := []) hd wh32 (stops_wh rfl) hS (Nat.lt_of_le_of_lt (Nat.le_of_eq (Nat.zero_add _)) (Nat.lt_of_le_of_lt hl (Nat.lt_of_lt_of_le (by decide : 100 < 1000) (le_szl rfl)))) wh10 (stops_wh rfl) (hres [10] wh10)) hws
theorem sec_ch (hd : d.length ≤ szl) (hS : ∀ s ∈ es, s.Good) (hl : es.length ≤ 100) (hm : m.length + es.length < 1000) (hres : ∀ ws, whs ws → Rdg n σ d (ws ++ r) sp (puts m es) sp' m') (hws : whs ws) :
    Rdg n σ d (ws ++ (unl (parts wCh (es.map chRow)) ++ r)) sp m sp' m' :=
  sec hd (by rw [List.length_map]; exact hl) ch_text (fun e => by cases List.map_eq_nil_iff.mp e; exact hres)
    (res_chars hd wh32 (stops_wh rfl) hS (Nat.lt_of_lt_of_le hm (le_szl rfl)) wh10 wh32 wh10 (stops_wh rfl) (hres [10] wh10)) hws
theorem sec_rg (hd : d.length ≤ szl) (hS : ∀ g ∈ gs, Rg g) (hl : gs.length ≤ 100) (hm : m.length + gs.flatten.length < 1000) (hres : ∀ ws, whs ws → Rdg n σ d (ws ++ r) sp (puts m gs.flatten) sp' m') (hws : whs ws) :
    Rdg n σ d (ws ++ (unl (parts wRg (gs.map rgRow)) ++ r)) sp m sp' m' :=
  sec hd (by rw [List.length_map]; exact hl) rg_text (fun e => by cases List.map_eq_nil_iff.mp e; exact hres)
    (res_ranges hd wh32 (stops_wh rfl) hS (Nat.lt_trans hm (by decide)) wh10 (stops_wh rfl) (hres [10] wh10)) hws
end
noncomputable def sgP (E : List En) (P : List (Nat × Nat)) : List En := P.flatMap fun p => cond (isS p) [at' E p.1] []
noncomputable def rgP (E : List En) (P : List (Nat × Nat)) : List (List En) := P.flatMap fun p => cond (isS p) [] [slice E p]
noncomputable def back (E : List En) : List En := sgP E (prsE E) ++ (rgP E (prsE E)).flatten
section
variable {E : List En} {p : Nat × Nat} {k : Nat} {P : List (Nat × Nat)} {e : En} {g : List En}
theorem slice_get (hk : k < p.2 - p.1) : (slice E p)[k]? = E[p.1 + k]? := by rw [slice, List.getElem?_take, if_pos hk, List.getElem?_drop]
theorem slice_len (h : PairOk E p) : (slice E p).length = p.2 - p.1 := by
  rw [slice, List.length_take, List.length_drop]
  exact Nat.min_eq_left (Nat.sub_le_sub_right h.le _)
theorem slice_at (hk : k < p.2 - p.1) : at' (slice E p) k = at' E (p.1 + k) := by
  unfold at'
  rw [List.getD_eq_getElem?_getD, List.getD_eq_getElem?_getD, slice_get hk]
theorem slice_sub (he : e ∈ slice E p) : e ∈ E := List.mem_of_mem_drop (List.mem_of_mem_take he)
theorem PairOk.pos (h : PairOk E p) : 0 < p.2 - p.1 := Nat.sub_pos_of_lt h.lt
theorem slice_hd (h : PairOk E p) : hdE (slice E p) = at' E p.1 := slice_at h.pos
theorem slice_ls (h : PairOk E p) : lsE (slice E p) = at' E (p.2 - 1) := by
  rw [lsE, slice_len h, slice_at (Nat.sub_lt h.pos Nat.one_pos)]
  exact congrArg (at' E) ((Nat.add_sub_assoc h.pos p.1).symm.trans (congrArg (· - 1) (Nat.add_sub_cancel' (Nat.le_of_lt h.lt))))
theorem slice_one (h : PairOk E p) (hs : isS p = true) : slice E p = [at' E p.1] := by
  have e : p.2 - p.1 = 1 := by rw [Nat.eq_of_beq_eq_true hs, Nat.add_sub_cancel_left]
  obtain ⟨x, hx⟩ := List.length_eq_one_iff.mp ((slice_len h).trans e)
  rw [← slice_hd h, hx]; rfl
theorem slice_rg (hE : ∀ e ∈ E, e.Good) (h : PairOk E p) (hs : isS p = false) : Rg (slice E p) := by
  have h0 := Nat.ne_of_beq_eq_false hs
  refine ⟨by rw [slice_len h]; exact Nat.le_sub_of_add_le' (Nat.lt_of_le_of_ne h.lt (Ne.symm h0)), fun e he => hE e (slice_sub he), fun b k hb => ?_⟩
  have hk := get_lt hb
  rw [slice_len h] at hk
  rw [slice_get hk] at hb
  rw [slice_hd h]
  exact h.run _ b k (at_get (Nat.lt_of_lt_of_le h.lt h.le)) (Nat.add_lt_of_lt_sub' hk) hb
theorem sRows_eq : sRows E P = (sgP E P).map chRow := by
  unfold sRows sgP
  rw [List.map_flatMap]
  exact congrArg (P.flatMap ·) (funext fun p => by cases isS p <;> rfl)
theorem rRows_eq (hP : ∀ p ∈ P, PairOk E p) : rRows E P = (rgP E P).map rgRow := by
  induction P with
  | nil => rfl
  | cons p P ih =>
    have h := hP p (.head _)
    show cond (isS p) [] [rRow E p] ++ rRows E P = (cond (isS p) [] [slice E p] ++ rgP E P).map rgRow
    rw [ih fun q hq => hP q (.tail _ hq), List.map_append]
    cases isS p with
    | true => rfl
    | false =>
      show [rRow E p] ++ _ = [rgRow (slice E p)] ++ _
      rw [rgRow, slice_hd h, slice_ls h]; rfl
theorem back_of (hP : ∀ p ∈ P, PairOk E p) : (sgP E P ++ (rgP E P).flatten).Perm (P.flatMap (slice E)) := by
  induction P with
  | nil => exact .refl _
  | cons p P ih =>
    have q := ih fun q hq => hP q (.tail _ hq)
    show ((cond (isS p) [at' E p.1] [] ++ sgP E P) ++ (cond (isS p) [] [slice E p] ++ rgP E P).flatten).Perm (slice E p ++ P.flatMap (slice E))
    cases hs : isS p with
    | true => rw [slice_one (hP p (.head _)) hs]; exact q.cons _
    | false => exact (List.perm_append_comm_assoc (sgP E P) (slice E p) (rgP E P).flatten).trans (q.append_left _)
theorem back_perm : (back E).Perm E := by
  have h := back_of (E := E) (P := prsE E) (pairs_ok rfl)
  rwa [prsE, pairs_slices (E := E) (at_ := 0) (r := E) (Nat.le_refl _) rfl] at h
theorem sgP_good (hE : ∀ e ∈ E, e.Good) (hP : ∀ p ∈ P, PairOk E p) : ∀ e ∈ sgP E P, e.Good := fun e he => by
  obtain ⟨p, hp, h⟩ := List.mem_flatMap.mp he
  cases hs : isS p with
  | true => rw [hs] at h; cases List.mem_singleton.mp h; exact (pair_a hE (hP p hp)).1
  | false => rw [hs] at h; cases h
theorem rgP_good (hE : ∀ e ∈ E, e.Good) (hP : ∀ p ∈ P, PairOk E p) : ∀ g ∈ rgP E P, Rg g := fun e he => by
  obtain ⟨p, hp, h⟩ := List.mem_flatMap.mp he
  cases hs : isS p with
  | true => rw [hs] at h; cases h
  | false => rw [hs] at h; cases List.mem_singleton.mp h; exact slice_rg hE (hP p hp) hs
theorem sgP_len : (sgP E P).length ≤ P.length := by
  have h := sR_len (E := E) (P := P)
  rwa [sRows_eq, List.length_map] at h
theorem rgP_len : (rgP E P).length ≤ P.length := by
  induction P with
  | nil => exact Nat.le_refl _
  | cons p P ih =>
    show (cond (isS p) [] [slice E p] ++ rgP E P).length ≤ P.length + 1
    rw [List.length_append, Nat.add_comm]
    exact Nat.add_le_add ih (by cases isS p <;> exact Nat.le_of_ble_eq_true rfl)
theorem puts_back (hn : (E.map En.key).Nodup) : puts (puts [] (sgP E (prsE E))) (rgP E (prsE E)).flatten = (back E).map En.kv := by
  rw [← puts_app]
  exact puts_new (pre := []) ((back_perm.map En.key).nodup_iff.mpr hn)
end
section
variable {n : Nat} {σ : St} {d ex : List Nat} {S : List Sp} {E : List En} {sp' : List AV} {m' : List (List Int × List Nat)}
theorem read_all (hd : d.length ≤ szl) (hS : ∀ s ∈ S, s.Good) (hE : ∀ e ∈ E, e.Good) (hSl : S.length ≤ 100) (hEl : E.length ≤ 64) (hn : (E.map En.key).Nodup) (hres : ∀ ws, whs ws → Rdg n σ d (ws ++ ex) (sps S) ((back E).map En.kv) sp' m') :
    Rdg n σ d ([] ++ (unl (lines S E) ++ ex)) [] [] sp' m' := by
  have hP : ∀ p ∈ prsE E, PairOk E p := pairs_ok rfl
  have hPl : (prsE E).length ≤ 64 := Nat.le_trans pairs_len hEl
  have hb := back_perm (E := E).length_eq
  rw [back, List.length_append] at hb
  have e : unl (lines S E) ++ ex = itT hdI (unl (parts wSp (S.map spRow)) ++ (unl (parts wCh ((sgP E (prsE E)).map chRow)) ++ (unl (parts wRg ((rgP E (prsE E)).map rgRow)) ++ itT tlI ex))) := by
    rw [← tl_text, ← hd_text, ← sRows_eq, ← rRows_eq hP, lines, unl_app, unl_app, unl_app, unl_app]
    simp only [List.append_assoc]
  rw [e]
  have hp2 := puts_len (m := []) (es := sgP E (prsE E))
  exact res_items hd hd_ok (fun c hc => nomatch hc) fun w1 hw1 => sec_sp hd hS hSl (fun w2 hw2 => sec_ch hd (sgP_good hE hP) (Nat.le_trans sgP_len (Nat.le_trans hPl (by decide))) (Nat.lt_of_le_of_lt (Nat.le_of_eq (Nat.zero_add _)) (Nat.lt_of_le_of_lt (Nat.le_trans sgP_len hPl) (by decide)))
    (fun w3 hw3 => sec_rg hd (rgP_good hE hP) (Nat.le_trans rgP_len (Nat.le_trans hPl (by decide))) (Nat.lt_of_le_of_lt (Nat.add_le_add_right (Nat.le_trans hp2 (Nat.le_of_eq (Nat.zero_add _))) _) (hb ▸ Nat.lt_of_le_of_lt hEl (by decide)))
      (fun w4 hw4 => by rw [puts_back hn]; exact res_items hd tl_ok hw4 hres) hw3) hw2) hw1
end
section
variable {n : Nat} {σ τ l : St} {d : List Nat} {ρ : List AV} {sp sp' : List AV} {m m' : List (List Int × List Nat)}
theorem newdN : D n (.e ρ .newd (τ ++ l) (.own (τ.length + l.length)) (τ ++ (l ++ [.map []]))) := by
  have q := D.newd (n := n) (ρ := ρ) (σ := τ ++ l)
  rwa [List.length_append, List.append_assoc] at q
theorem C_Bs {q : Nat} : C (Bs σ d sp m) σ.length d q = σ ++ [cu d q, .list sp, .map m] := setN (j := 0)
theorem new_cmap {xs : List ME} {vs : List AV} {σ2 : St} (h : D (n + 1) (.es ρ xs σ vs τ)) (h2 : FrzsR τ vs [.list sp, .map m] σ2) (hf : frozens sp = true) : D (n + 1) (.e ρ (.new .cmap true xs) σ (.inst .cmap [(.spaces, .list sp), (.chars, .map m)]) σ2) :=
  .newZ h h2 (cmap_init hf) rfl rfl
theorem fr_cm (hf : frozens sp = true) : frozen (.inst .cmap [(.spaces, .list sp), (.chars, .map m)]) = true := by
  show (frozens sp && (true && true)) = true
  rw [hf]; rfl
theorem read_cmap (hd : d.length ≤ szl) (hf : frozens sp' = true) (hres : Rdg n σ d ([] ++ d) [] [] sp' m') : D (n + 8) (.f 32 [.bytes d] σ (.inst .cmap [(.spaces, .list sp'), (.chars, .map m')]) σ) := by
  obtain ⟨tok, q, h1, tok', q', h2⟩ := hres 0 ⟨Nat.zero_le _, rfl⟩
  rw [show C (Bs σ d [] []) σ.length d 0 = Bs σ d [] [] from C_Bs] at h1
  have e1 : (σ ++ [cu d q', .list sp', .map m']).set (σ.length + 1) .dead = σ ++ [cu d q', .dead, .map m'] := setN (j := 1)
  have e2 : (σ ++ [cu d q', .dead, .map m']).set (σ.length + 2) .dead = σ ++ [cu d q', .dead, .dead] := setN (j := 2)
  rw [C_Bs (q := q')] at h2
  exact .fnT (ir := ir32) (ρ := [.bytes d, .undef, .undef, .undef, .undef]) (ρ' := rcR σ d tok') (σ1 := σ ++ [cu d q', .dead, .dead]) rfl rfl rfl rfl
    (.next (.asg rfl (.newK (.cons (.loc rfl) .nil) (.same rfl) (cursor_init hd))) (.next (.asg rfl (newlN (l := [cu d 0]) .nil rfl (Nat.zero_le _))) (.next (.asg rfl (newdN (l := [cu d 0, .list []]))) (.next (.asg rfl (.call (.cons (.loc rfl) .nil) h1)) (.next (.whl h2)
      (.one (.ret rfl (new_cmap (.cons (.loc rfl) (.cons (.loc rfl) .nil)) (.cons (.list (getN (j := 1) rfl)) (.cons (.map (e1 ▸ getN (j := 2) rfl)) (e1.symm ▸ e2.symm ▸ .same rfl))) hf))))))))
    (fr_cm hf) (List.take_left' rfl)
end
noncomputable def penO (cells : List Int) (pl : Nat) (rs : Int) : OObj := .list [.list (cells.map .int), .int pl, .int rs]
/-- the pen, so many places on at most -/
inductive Pen (cells : List Int) (B : Nat) : OObj → Prop
  | mk {pl : Nat} {rs : Int} (h : pl ≤ B) : Pen cells B (penO cells pl rs)
noncomputable def Q (σ : St) (j : Nat) (X : OObj) : St := σ.set j X
section
variable {n : Nat} {σ τ : St} {j k B many : Nat} {ρ : List AV} {cells : List Int} {X Y Z : OObj} {a b c v : AV} {e : ME}
theorem Q_len : (Q σ j X).length = σ.length := List.length_set
theorem Q_app (h : j < σ.length) {l : St} : Q σ j X ++ l = Q (σ ++ l) j X := (List.set_append_left _ _ h).symm
theorem Q_own (h : j < σ.length) {l : St} : (Q (σ ++ Y :: l) j X)[σ.length]? = some Y := (List.getElem?_set_ne (Nat.ne_of_lt h)).trans own_get
theorem Q_oset (h : j < σ.length) : (Q (σ ++ [Y]) j X).set σ.length Z = Q (σ ++ [Z]) j X := by rw [Q, List.set_comm _ _ (Nat.ne_of_lt h), own_set]; rfl
theorem Q_take (h : j < σ.length) {l : St} : (Q (σ ++ l) j X).take σ.length = Q σ j X := by rw [← Q_app h, List.take_left' Q_len]
theorem Q_get (h : j < σ.length) : (Q σ j X)[j]? = some X := List.getElem?_set_self h
theorem Q_Q : (Q σ j X).set j Y = Q σ j Y := List.set_set _
theorem modL {a : Int} {m : Nat} (hm : m ≠ 0) : ∃ v : Nat, BinR .Mod (.int a) (.int m) (.int v) ∧ v < m := by
  have h0 : (0 : Int) ≤ a.fmod m := Int.fmod_nonneg_of_pos a (Int.natCast_pos.mpr (Nat.pos_of_ne_zero hm))
  have h1 : a.fmod m < m := Int.fmod_lt_of_pos a (Int.natCast_pos.mpr (Nat.pos_of_ne_zero hm))
  obtain ⟨v, hv⟩ := Int.eq_ofNat_of_zero_le h0
  exact ⟨v, hv ▸ .mod (ne_nat hm), Int.ofNat_lt.mp (hv ▸ h1)⟩
theorem divI {a : Int} {m : Nat} (hm : m ≠ 0) (h : m < 1073741824) : BinR .FloorDiv (.int a) (.int m) (.int (a.fdiv m)) := .div (ne_nat hm) (by rw [Int.natAbs_natCast]; exact h)
theorem smallN {a : Nat} (h : a < 18446744073709551616) : smallI (a : Int) = true := decide_eq_true (by rw [Int.natAbs_natCast]; exact h)
theorem p0 (h : rd ρ k = some (.own j)) (hσ : σ[j]? = some (.list [a, b, c])) : D n (.e ρ (.sub (.loc k) (.num 0)) σ a σ) := .subO (z := 0) h hσ (le_szl rfl) .num rfl
theorem p1 (h : rd ρ k = some (.own j)) (hσ : σ[j]? = some (.list [a, b, c])) : D n (.e ρ (.sub (.loc k) (.num 1)) σ b σ) := .subO (z := 1) h hσ (le_szl rfl) .num rfl
theorem p2 (h : rd ρ k = some (.own j)) (hσ : σ[j]? = some (.list [a, b, c])) : D n (.e ρ (.sub (.loc k) (.num 2)) σ c σ) := .subO (z := 2) h hσ (le_szl rfl) .num rfl
theorem st1 (h : rd ρ k = some (.own j)) (hσ : σ[j]? = some (.list [a, b, c])) (he : D n (.e ρ e σ v σ)) (hf : frozen v = true) : D n (.s (.seti (.loc k) (.num 1) e) ρ σ .next ρ (σ.set j (.list [a, v, c]))) := .seti he (.loc h) .num (.list hσ hf (by decide) (by show (1 : Int) < 3; decide) (le_szl rfl))
theorem st2 (h : rd ρ k = some (.own j)) (hσ : σ[j]? = some (.list [a, b, c])) (he : D n (.e ρ e σ v σ)) (hf : frozen v = true) : D n (.s (.seti (.loc k) (.num 2) e) ρ σ .next ρ (σ.set j (.list [a, b, v]))) := .seti he (.loc h) .num (.list hσ hf (by decide) (by show (2 : Int) < 3; decide) (le_szl rfl))
/-- the cell at the place -/
theorem draw_cell {pl : Nat} (hc : cells.length ≤ 1000) (hσ : σ[j]? = some (.list [.list (cells.map .int), b, c])) (h0 : rd ρ 0 = some (.own j)) (h3 : rd ρ 3 = some (.int pl)) :
    ∃ cell : Int, D n (.e ρ (.ite (.sub (.loc 0) (.num 0)) (.sub (.sub (.loc 0) (.num 0)) (.bin .Mod (.loc 3) (.bi .len [.sub (.loc 0) (.num 0)]))) (.num 0)) σ (.int cell) σ) := by
  have hz : (cells.map AV.int).length ≤ szl := by rw [List.length_map]; exact Nat.le_trans hc (le_szl rfl)
  cases e : cells with
  | nil => subst e; exact ⟨0, .itF (.tgen rfl (p0 h0 hσ) (.list (Nat.zero_le _))) .num⟩
  | cons z r =>
    have hl : pl % (cells.map AV.int).length < cells.length := by rw [List.length_map, e]; exact Nat.mod_lt _ (Nat.succ_pos _)
    have hne : (cells.map AV.int).length ≠ 0 := by rw [List.length_map, e]; exact Nat.succ_ne_zero _
    have ht : TruR (.list (cells.map .int)) (!(cells.map AV.int).isEmpty) := .list hz
    rw [show (cells.map AV.int).isEmpty = false by rw [e]; rfl] at ht
    exact ⟨_, .itT (.tgen rfl (p0 h0 hσ) ht) (.sub (p0 h0 hσ) (.bin (.loc h3) (.bi (.cons (p0 h0 hσ) .nil) (.lenL hz)) (modN (ne_nat hne))) (.list hz (.pos rfl) (map_at (List.getElem?_eq_getElem hl))))⟩
theorem pow18 : D n (.e ρ (.bin .Pow (.num 10) (.num 18)) σ (.int 1000000000000000000) σ) := .bin .num .num ((by decide : (10 : Int) ^ (18 : Int).toNat = 1000000000000000000) ▸ .pow (by decide) (by decide) rfl)
theorem law_draw {pl : Nat} {rs : Int} (hσ : σ[j]? = some (penO cells pl rs)) (hc : cells.length ≤ 1000) (hp : pl < 100000) (hm : many ≠ 0) (hm2 : many < 1000) :
    ∃ (v : Nat) (X : OObj), D (n + 1) (.f 39 [.own j, .int many] σ (.int v) (σ.set j X)) ∧ v < many ∧ Pen cells (pl + 1) X := by
  have hm3 : many < 1073741824 := Nat.lt_trans hm2 (by decide)
  rcases Int.lt_or_le 0 rs with hr | hr
  · obtain ⟨v, hb, hv⟩ := modL (a := rs) hm
    exact ⟨v, penO cells pl (rs.fdiv many), .fnV (ir := ir39) (ρ := [.own j, .int many, .undef, .undef, .undef, .undef, .undef]) rfl rfl rfl rfl
      (.stop (.ifT (.tcmp (p2 rfl hσ) (.cone .num (gtT hr))) (.next (.asg rfl (.bin (p2 rfl hσ) (.loc rfl) hb)) (.next (st2 rfl hσ (.bin (p2 rfl hσ) (.loc rfl) (divI hm hm3)) rfl) (.one (.ret rfl (.loc rfl)))))) rfl) rfl List.length_set, hv, .mk (Nat.le_succ _)⟩
  · have h1 : (σ.set j (penO cells (pl + 1) rs))[j]? = some (penO cells (pl + 1) rs) := get_set (get_lt hσ)
    have hl : (σ.set j (penO cells (pl + 1) rs)).length = σ.length := List.length_set
    have hst : ∀ {Y : OObj}, (σ.set j (penO cells (pl + 1) rs)).set j Y = σ.set j Y := List.set_set _
    obtain ⟨cell, hcell⟩ := draw_cell (n := n) (pl := pl) (ρ := [.own j, .int many, .undef, .int pl, .undef, .undef, .undef]) hc h1 rfl rfl
    have s1 : D n (.s (.seti (.loc 0) (.num 1) (.bin .Add (.loc 3) (.num 1))) [.own j, .int many, .undef, .int pl, .undef, .undef, .undef] σ .next [.own j, .int many, .undef, .int pl, .undef, .undef, .undef] (σ.set j (penO cells (pl + 1) rs))) := st1 rfl hσ (.bin (.loc rfl) .num .addI) rfl
    have pre : ∀ {v : Nat} {σ2 : St} {ρ' : List AV}, D n (.ss (ir39.body.drop 4) [.own j, .int many, .undef, .int pl, .int cell, .undef, .undef] (σ.set j (penO cells (pl + 1) rs)) (.ret (.int v)) ρ' σ2) → σ2.length = σ.length → D (n + 1) (.f 39 [.own j, .int many] σ (.int v) σ2) := fun h hl =>
      .fnV (ir := ir39) (ρ := [.own j, .int many, .undef, .undef, .undef, .undef, .undef]) rfl rfl rfl rfl (.next (.if0 (.tcmp (p2 rfl hσ) (.cone .num (gtF hr)))) (.next (.asg rfl (p1 rfl hσ)) (.next s1 (.next (.asg rfl hcell) h)))) rfl hl
    have hz : (cells.map AV.int).length ≤ szl := by rw [List.length_map]; exact Nat.le_trans hc (le_szl rfl)
    have hlen : D n (.e [.own j, .int many, .undef, .int pl, .int cell, .undef, .undef] (.bi .len [.sub (.loc 0) (.num 0)]) (σ.set j (penO cells (pl + 1) rs)) (.int (cells.map AV.int).length) (σ.set j (penO cells (pl + 1) rs))) := .bi (.cons (p0 rfl h1) .nil) (.lenL hz)
    rw [List.length_map] at hlen
    by_cases hA : pl < cells.length ∧ (1000000000000000000 : Int) ≤ cell.natAbs
    · obtain ⟨v, hb, hv⟩ := modL (a := (cell.natAbs : Int) - 1000000000000000000) hm
      have s2 := st2 (n := n) (ρ := [.own j, .int many, .undef, .int pl, .int cell, .int ((cell.natAbs : Int) - 1000000000000000000), .undef]) (k := 0) rfl h1 (.bin (.loc (i := 5) rfl) (.loc (i := 1) rfl) (divI hm hm3)) rfl
      rw [hst] at s2
      exact ⟨v, penO cells (pl + 1) (((cell.natAbs : Int) - 1000000000000000000).fdiv many), pre (.stop (.ifT (.tbop (.tbgo (.tcmp (.loc rfl) (.cone hlen (ltT (Int.ofNat_lt.mpr hA.1)))) (.tbgo (.tcmp (.bi (.cons (.loc rfl) .nil) .abs) (.cone pow18 (geT hA.2))) .tbnil))) (.next (.asg rfl (.bin (.bi (.cons (.loc rfl) .nil) .abs) pow18 .sub)) (.next s2 (.one (.ret rfl (.bin (.loc rfl) (.loc rfl) hb)))))) rfl) List.length_set, hv, .mk (Nat.le_refl _)⟩
    · have hif : D n (.t [.own j, .int many, .undef, .int pl, .int cell, .undef, .undef] (.bop true [.cmp (.loc 3) [.Lt] [.bi .len [.sub (.loc 0) (.num 0)]], .cmp (.bi .abs [.loc 4]) [.GtE] [.bin .Pow (.num 10) (.num 18)]]) (σ.set j (penO cells (pl + 1) rs)) false (σ.set j (penO cells (pl + 1) rs))) := by
        rcases Nat.lt_or_ge pl cells.length with h | h
        · exact .tbop (.tbgo (.tcmp (.loc rfl) (.cone hlen (ltT (Int.ofNat_lt.mpr h)))) (.tbstop (.tcmp (.bi (.cons (.loc rfl) .nil) .abs) (.cone pow18 (geF (Int.not_le.mp fun q => hA ⟨h, q⟩))))))
        · exact .tbop (.tbstop (.tcmp (.loc rfl) (.cone hlen (ltF (Int.ofNat_le.mpr h)))))
      obtain ⟨x1, m1, l1⟩ := modL (a := cell) (m := 2147483629) (by decide)
      obtain ⟨x2, m2, l2⟩ := modL (a := ((x1 : Int) + 40503 * pl + 977) ^ (3 : Int).toNat) (m := 2147483587) (by decide)
      obtain ⟨x3, m3, l3⟩ := modL (a := ((x2 : Int) * (2 * pl + 5003) + pl * pl + 11) ^ (3 : Int).toNat) (m := 2147483579) (by decide)
      have q1 : smallI ((x1 : Int) + 40503 * pl + 977) = true := smallN (a := x1 + 40503 * pl + 977) (by omega)
      have q2 : smallI ((x2 : Int) * (2 * pl + 5003) + pl * pl + 11) = true := smallN (a := x2 * (2 * pl + 5003) + pl * pl + 11) (by
        have a1 : x2 * (2 * pl + 5003) ≤ 2147483587 * 205003 := Nat.mul_le_mul (Nat.le_of_lt l2) (Nat.add_le_add_right (Nat.mul_le_mul_left 2 (Nat.le_of_lt hp)) _)
        have a2 : pl * pl ≤ 100000 * 100000 := Nat.mul_le_mul (Nat.le_of_lt hp) (Nat.le_of_lt hp)
        exact Nat.lt_of_le_of_lt (Nat.add_le_add_right (Nat.add_le_add a1 a2) 11) (by decide))
      exact ⟨x3 / 64 % many, penO cells (pl + 1) rs, pre (.next (.if0 hif) (.next (.asg rfl (.bin (.bin (.bin (.bin (.bin (.loc rfl) .num m1) (.bin .num (.loc rfl) (.mul (.inl rfl))) .addI) .num .addI) .num (.pow (by decide) (by decide) q1)) .num m2))
        (.next (.asg rfl (.bin (.bin (.bin (.bin (.bin (.loc rfl) (.bin (.bin .num (.loc rfl) (.mul (.inl rfl))) .num .addI) (.mul (.inl (smallN (Nat.lt_trans l2 (by decide)))))) (.bin (.loc rfl) (.loc rfl) (.mul (.inl (smallN (Nat.lt_trans hp (by decide)))))) .addI) .num .addI) .num (.pow (by decide) (by decide) q2)) .num m3))
          (.one (.ret rfl (.bin (.bin (.loc rfl) .num (divN (b := 64) (by decide) (by decide))) (.loc rfl) (modN (ne_nat hm)))))))) hl, Nat.mod_lt _ (Nat.pos_of_ne_zero hm), .mk (Nat.le_refl _)⟩
/-- a draw, at a store of this form -/
theorem draw (hj : j < σ.length) (hX : Pen cells B X) (hc : cells.length ≤ 1000) (hB : B < 100000) (hm : many ≠ 0) (hm2 : many < 1000) :
    ∃ (v : Nat) (Y : OObj), D (n + 1) (.f 39 [.own j, .int many] (Q σ j X) (.int v) (Q σ j Y)) ∧ v < many ∧ Pen cells (B + 1) Y := by
  obtain ⟨h⟩ := hX
  obtain ⟨v, Y, k, hv, ⟨hY⟩⟩ := law_draw (n := n) (Q_get hj) hc (Nat.lt_of_le_of_lt h hB) hm hm2
  rw [Q_Q] at k
  exact ⟨v, _, k, hv, .mk (Nat.le_trans hY (Nat.succ_le_succ h))⟩
end
noncomputable def lsF : List MS := wb ((wb (nthS ir41 1)).getD 3 .stuck)
structure PairLe (ls hs : List Nat) : Prop where
  len : ls.length = hs.length
  lo : ∀ o ∈ ls, o < 256
  hi : ∀ o ∈ hs, o < 256
  le : ∀ (k a b : Nat), ls[k]? = some a → hs[k]? = some b → a ≤ b
inductive LsIn (σ : St) (j len : Nat) (cells : List Int) (B : Nat) (c1 y2 : AV) (k : Nat) : List AV → St → Prop
  | mk {ls hs : List Nat} {X : OObj} {z6 z7 : AV} (h : PairLe ls hs) (hl : ls.length = k) (hp : Pen cells (B + k * 2) X) : LsIn σ j len cells B c1 y2 k [.own j, c1, y2, .int len, .int (valF 0 ls), .int (valF 0 hs), z6, z7] (Q σ j X)
inductive LsOut (σ : St) (j : Nat) (cells : List Int) (B : Nat) (k : Nat) : List AV → St → Prop
  | mk {S : List Sp} {X : OObj} {z2 z3 z4 z5 z6 z7 : AV} (h : ∀ s ∈ S, s.Good) (hl : S.length = k) (hp : Pen cells (B + k * 9) X) : LsOut σ j cells B k [.own j, .own σ.length, z2, z3, z4, z5, z6, z7] (Q (σ ++ [spl S]) j X)
section
variable {n : Nat} {σ τ : St} {i j k B len many : Nat} {ρ : List AV} {cells : List Int} {X Y Z : OObj} {a b c v y : AV} {e : ME}
theorem PairLe.snoc {ls hs : List Nat} (h : PairLe ls hs) {a b : Nat} (ha : a ≤ b) (hb : b < 256) : PairLe (ls ++ [a]) (hs ++ [b]) := by
  refine ⟨by rw [List.length_append, List.length_append, h.len]; rfl, fun o ho => ?_, fun o ho => ?_, fun k x y hx hy => ?_⟩
  · rcases List.mem_append.mp ho with q | q
    · exact h.lo o q
    · cases List.mem_singleton.mp q; exact Nat.lt_of_le_of_lt ha hb
  · rcases List.mem_append.mp ho with q | q
    · exact h.hi o q
    · cases List.mem_singleton.mp q; exact hb
  · rcases Nat.lt_or_ge k ls.length with hk | hk
    · rw [List.getElem?_append_left hk] at hx
      rw [List.getElem?_append_left (h.len ▸ hk)] at hy
      exact h.le k x y hx hy
    · rw [List.getElem?_append_right hk] at hx
      rw [List.getElem?_append_right (h.len ▸ hk), ← h.len] at hy
      cases e : k - ls.length with
      | zero => rw [e] at hx hy; cases hx; cases hy; exact ha
      | succ m => rw [e] at hx; cases hx
/-- a loop over a range, its state said by I -/
theorem fo_rng {m : Nat} {b : List MS} (I : Nat → List AV → St → Prop) (step : ∀ k ρ σ, k < m → I k ρ σ → ∃ ρ' σ', I (k + 1) ρ' σ' ∧ D n (.ss b (ρ.set i (.int (k : Int))) σ .next ρ' σ')) (h0 : I 0 ρ σ) :
    ∃ ρ' σ', I m ρ' σ' ∧ D n (.fo [i] b ((List.range m).map fun (k : Nat) => .int (k : Int)) ρ σ .next ρ' σ') := by
  have go : ∀ (r : Nat) (k : Nat) (ρ : List AV) (σ : St), k + r = m → I k ρ σ → ∃ ρ' σ', I m ρ' σ' ∧ D n (.fo [i] b ((List.range' k r).map fun (k : Nat) => .int (k : Int)) ρ σ .next ρ' σ') := fun r => by
    induction r with
    | zero => intro k ρ σ h hI; subst h; exact ⟨ρ, σ, hI, .fonil⟩
    | succ r ih =>
      intro k ρ σ h hI
      obtain ⟨ρ1, σ1, h1, d1⟩ := step k ρ σ (h ▸ Nat.lt_add_of_pos_right (Nat.succ_pos r)) hI
      obtain ⟨ρ2, σ2, h2, d2⟩ := ih (k + 1) ρ1 σ1 ((Nat.add_right_comm k 1 r).trans h) h1
      exact ⟨ρ2, σ2, h2, .fogo .one d1 rfl d2⟩
  rw [List.range_eq_range']
  exact go m 0 ρ σ (Nat.zero_add m) h0
theorem es_nums {w : List Nat} : D n (.es ρ (w.map fun (c : Nat) => .num c) σ (ia w) σ) := by
  induction w with
  | nil => exact .nil
  | cons c w ih => exact .cons .num ih
theorem e_nums (w : List Nat) (h : Nat.ble w.length 1000 = true) : D n (.e ρ (.lst (w.map fun (c : Nat) => .num c)) σ (.list (ia w)) σ) := .lst es_nums (by rw [ia_len]; exact Nat.le_trans (Nat.le_of_ble_eq_true h) (le_szl rfl))
theorem get_ex {α : Type} {L : List α} {v : Nat} (h : v < L.length) : ∃ a, L[v]? = some a ∧ a ∈ L := ⟨L[v], List.getElem?_eq_getElem h, List.getElem_mem h⟩
/-- a list of numbers at a draw -/
theorem sub_draw {w : List Nat} {v a : Nat} {eo ei : ME} {σ1 : St} (hl : Nat.ble w.length 1000 = true) (h1 : D n (.e ρ eo σ (.list (ia w)) σ)) (h2 : D n (.e ρ ei σ (.int v) σ1)) (h : w[v]? = some a) : D n (.e ρ (.sub eo ei) σ (.int a) σ1) :=
  .sub h1 h2 (.list (by rw [ia_len]; exact Nat.le_trans (Nat.le_of_ble_eq_true hl) (le_szl rfl)) (.pos rfl) (il_get h))
theorem e_draw {k m : Nat} (h : rd ρ k = some (.own j)) (d : D (n + 1) (.f 39 [.own j, .int many] (Q σ j X) (.int m) (Q σ j Y))) : D (n + 1) (.e ρ (.call 39 [.loc k, .num many]) (Q σ j X) (.int m) (Q σ j Y)) := .call (.cons (.loc h) (.cons .num .nil)) d
theorem ls_inner {y6 y7 c1 y2 : AV} (hl4 : len ≤ 4) (hc : cells.length ≤ 1000) (hj : j < σ.length) (hB : B < 90000) (hX : Pen cells B X) :
    ∃ ρ' σ', LsIn σ j len cells B c1 y2 len ρ' σ' ∧ D (n + 1) (.fo [6] lsF ((List.range len).map fun (k : Nat) => .int (k : Int)) [.own j, c1, y2, .int len, .int 0, .int 0, y6, y7] (Q σ j X) .next ρ' σ') := by
  refine fo_rng (LsIn σ j len cells B c1 y2) (fun k ρ τ hk hI => ?_) (.mk (ls := []) (hs := []) ⟨rfl, nofun, nofun, nofun⟩ rfl hX)
  obtain ⟨h, hl, hp⟩ := hI
  rename_i ls hs X z6 z7
  have hb : B + k * 2 + 2 < 100000 := Nat.lt_of_le_of_lt (Nat.add_le_add_right (Nat.add_le_add (Nat.le_of_lt hB) (Nat.mul_le_mul_right 2 (Nat.le_trans (Nat.le_of_lt hk) hl4))) 2) (by decide)
  obtain ⟨v, X1, d1, hv, hp1⟩ := draw (n := n) (many := 6) hj hp hc (Nat.lt_of_le_of_lt (Nat.le_add_right _ 2) hb) (by decide) (by decide)
  obtain ⟨w, X2, d2, hw, hp2⟩ := draw (n := n) (many := 3) hj hp1 hc (Nat.lt_of_succ_lt hb) (by decide) (by decide)
  obtain ⟨one, h1, h1m⟩ := get_ex (L := [0, 0, 128, 255, 65, 32]) (v := v) hv
  have h1l := (by decide : ∀ x ∈ [0, 0, 128, 255, 65, 32], x < 256) one h1m
  obtain ⟨two, h2, h2m⟩ := get_ex (L := [one, 255, min 255 (one + 3)]) (v := w) hw
  have h2l : one ≤ two ∧ two < 256 := by
    cases h2m with
    | head => exact ⟨Nat.le_refl _, h1l⟩
    | tail _ h => cases h with
      | head => exact ⟨Nat.le_of_lt_succ h1l, by decide⟩
      | tail _ h => cases List.mem_singleton.mp h; exact ⟨Nat.le_min.mpr ⟨Nat.le_of_lt_succ h1l, Nat.le_add_right _ _⟩, Nat.lt_of_le_of_lt (Nat.min_le_left _ _) (by decide)⟩
  have q : D (n + 1) (.ss lsF [.own j, c1, y2, .int len, .int (valF 0 ls), .int (valF 0 hs), .int (k : Int), z7] (Q σ j X) .next [.own j, c1, y2, .int len, .int ((256 * valF 0 ls + one : Nat) : Int), .int ((256 * valF 0 hs + two : Nat) : Int), .int (k : Int), .int one] (Q σ j X2)) :=
    .next (.asg rfl (sub_draw rfl (e_nums [0, 0, 128, 255, 65, 32] rfl) (e_draw rfl d1) h1)) (.next (.asg rfl (.bin (.bin .num (.loc rfl) (.mul (.inl rfl))) (.loc rfl) .addI))
      (.one (.asg rfl (.bin (.bin .num (.loc rfl) (.mul (.inl rfl))) (sub_draw (w := [one, 255, min 255 (one + 3)]) rfl (.lst (.cons (.loc rfl) (.cons .num (.cons (.bi (.cons .num (.cons (.bin (.loc rfl) .num .addI) .nil)) (minN (a := 255) (b := one + 3))) .nil))) (le_szl rfl)) (e_draw rfl d2) h2) .addI))))
  rw [← val_snoc, ← val_snoc] at q
  exact ⟨_, _, .mk (h.snoc h2l.1 h2l.2) (by rw [List.length_append, hl]; rfl) (Nat.succ_mul k 2 ▸ hp2), q⟩
theorem ls_outer {T : Nat} (hT : T < 5) (hc : cells.length ≤ 1000) (hj : j < σ.length) (hB : B < 80000) (hX : Pen cells B X) :
    ∃ ρ' σ', LsOut σ j cells B T ρ' σ' ∧ D (n + 1) (.fo [2] (wb (nthS ir41 1)) ((List.range T).map fun (k : Nat) => .int (k : Int)) [.own j, .own σ.length, .undef, .undef, .undef, .undef, .undef, .undef] (Q (σ ++ [spl []]) j X) .next ρ' σ') := by
  refine fo_rng (LsOut σ j cells B) (fun k ρ τ hk hI => ?_) (.mk (S := []) nofun rfl hX)
  obtain ⟨h, hl, hp⟩ := hI
  rename_i S X z2 z3 z4 z5 z6 z7
  have hja : j < (σ ++ [spl S]).length := lt_app hj
  have hb : B + k * 9 < 80036 := Nat.add_lt_add_of_lt_of_le hB (Nat.mul_le_mul_right 9 (Nat.le_of_lt_succ (Nat.lt_trans hk hT)))
  obtain ⟨v, X1, d1, hv, hp1⟩ := draw (n := n) (many := 4) hja hp hc (Nat.lt_trans hb (by decide)) (by decide) (by decide)
  have hv4 : 1 + v ≤ 4 := by rw [Nat.add_comm]; exact hv
  obtain ⟨_, _, ⟨hpl, hll, hp2⟩, kin⟩ := ls_inner (n := n) (len := 1 + v) (c1 := .own σ.length) (y2 := .int (k : Int)) (y6 := z6) (y7 := z7) hv4 hc hja (Nat.lt_of_le_of_lt (Nat.succ_le_of_lt hb) (by decide)) hp1
  rename_i ls hs X2 w6 w7
  have hg : Sp.Good ⟨ls, hs⟩ := ⟨fun e => absurd (hll.symm.trans e) (Nat.ne_of_gt (Nat.lt_add_right v Nat.one_pos)), Nat.le_trans (Nat.le_of_eq hll) hv4, hpl.len.symm, hpl.lo, hpl.hi, hpl.le⟩
  have hsz : (sps S).length < szl := by rw [sps, List.length_map, hl]; exact Nat.lt_trans (Nat.lt_trans hk hT) (Nat.lt_of_lt_of_le (by decide : 5 < 1000) (le_szl rfl))
  have hadd : OObj.list (sps S ++ [.tup (spA ⟨ls, hs⟩)]) = spl (S ++ [⟨ls, hs⟩]) := congrArg OObj.list (List.map_append (f := fun s => AV.tup (spA s)) (l₁ := S) (l₂ := [⟨ls, hs⟩])).symm
  have hset : (Q (σ ++ [spl S]) j X2).set σ.length (.list (sps S ++ [.tup (spA ⟨ls, hs⟩)])) = Q (σ ++ [spl (S ++ [⟨ls, hs⟩])]) j X2 := hadd ▸ Q_oset hj
  rw [spA, hll] at hset
  exact ⟨_, _, .mk (List.forall_mem_append.mpr ⟨h, fun s hs' => by cases List.mem_singleton.mp hs'; exact hg⟩) (by rw [List.length_append, hl]; rfl) (by
      obtain ⟨h2⟩ := hp2
      exact .mk (Nat.le_trans h2 (by
        show B + k * 9 + 1 + (1 + v) * 2 ≤ B + (k + 1) * 9
        rw [Nat.succ_mul, ← Nat.add_assoc B, Nat.add_assoc (B + k * 9) 1]
        exact Nat.add_le_add_left (Nat.le_trans (Nat.add_le_add_left (Nat.mul_le_mul_right 2 hv4) 1) (by decide)) _))),
    .next (.asg rfl (.bin .num (e_draw rfl d1) .addI)) (.next (.asg rfl .num) (.next (.asg rfl .num) (.next (.for_ (.bi (.cons (.loc rfl) .nil) .rng1) (it_rng1 (Nat.lt_of_le_of_lt hv4 (by decide))) (by rw [List.length_map, List.length_range]; exact Nat.le_trans hv4 (le_szl rfl)) kin)
      (.one (.app rfl (Q_own hj) (.tup (.cons (.loc rfl) (.cons (.loc rfl) (.cons (.loc rfl) .nil))) (.same rfl) (le_szl rfl)) rfl hsz hset)))))⟩
theorem law_spaces (hc : cells.length ≤ 1000) (hj : j < σ.length) (hB : B < 70000) (hX : Pen cells B X) :
    ∃ S Y, D (n + 2) (.f 41 [.own j] (Q σ j X) (.list (sps S)) (Q σ j Y)) ∧ (∀ s ∈ S, s.Good) ∧ S.length ≤ 4 ∧ Pen cells (B + 50) Y := by
  have hja : j < (σ ++ [spl []]).length := lt_app hj
  obtain ⟨v, X1, d1, hv, hp1⟩ := draw (n := n) (many := 5) hja hX hc (Nat.lt_trans hB (by decide)) (by decide) (by decide)
  obtain ⟨_, _, ⟨hS, hl, hp2⟩, k⟩ := ls_outer (n := n) hv hc hj (Nat.lt_of_le_of_lt (Nat.succ_le_of_lt hB) (by decide)) hp1
  rename_i S X2 z2 z3 z4 z5 z6 z7
  have hv4 : v ≤ 4 := Nat.le_of_lt_succ hv
  have e1 : D (n + 1) (.e [.own j, .undef, .undef, .undef, .undef, .undef, .undef, .undef] (.newl []) (Q σ j X) (.own σ.length) (Q (σ ++ [spl []]) j X)) := by
    have q : D (n + 1) (.e [.own j, .undef, .undef, .undef, .undef, .undef, .undef, .undef] (.newl []) (Q σ j X) (.own (Q σ j X).length) (Q σ j X ++ [.list []])) := .newl .nil rfl (Nat.zero_le _)
    rwa [Q_len, Q_app hj] at q
  refine ⟨S, X2, .fnL (ir := ir41) (j := σ.length) rfl rfl rfl rfl (.next (.asg rfl e1) (.next (.for_ (.bi (.cons (e_draw rfl d1) .nil) .rng1) (it_rng1 (Nat.lt_of_le_of_lt hv4 (by decide))) (by rw [List.length_map, List.length_range]; exact Nat.le_trans hv4 (le_szl rfl)) k) (.one (.ret rfl (.loc rfl))))) rfl (Q_own hj) (Nat.le_of_eq Q_len) ?_, hS, hl ▸ hv4, ?_⟩
  · rw [Q_len, Q_take hj]
  · obtain ⟨h2⟩ := hp2
    exact .mk (Nat.le_trans h2 (by show B + 1 + v * 9 ≤ _; rw [Nat.add_assoc]; exact Nat.add_le_add_left (Nat.le_trans (Nat.add_le_add_left (Nat.mul_le_mul_right 9 hv4) 1) (by decide)) _))
end
/-! the keys that can come up -/
noncomputable def allA : List Nat := [0, 250, 65, 253]
noncomputable def allB : List Nat := [0, 255, 1]
noncomputable def allC (l : Nat) : List Nat := (allA.flatMap fun a => allB.flatMap fun b => (List.range 6).map fun s => (a + 256 * b) % 256 ^ l + s).eraseDups
noncomputable def allK : List (List Int) := [1, 2, 3, 4].flatMap fun l => (allC l).map fun (c : Nat) => [(l : Int), (c : Int)]
noncomputable def putE (e : En) : List En → List En
  | [] => [e]
  | x :: r => if x.key = e.key then e :: r else x :: putE e r
/-- the entries, so many at most -/
structure ESt (es : List En) (b : Nat) : Prop where
  good : ∀ e ∈ es, e.Good
  mem : ∀ e ∈ es, e.key ∈ allK
  nd : (es.map En.key).Nodup
  len : es.length ≤ b
section
variable {α β : Type} {f : α → β} {n : Nat} {l a b s c : Nat} {ks : List (List Int)} {xs : List α} {e y : En} {es : List En} {σ τ : St} {j k : Nat} {ρ : List AV}
theorem allK_apart : hashesApart allK = true := by decide +kernel
theorem allK_mem (h1 : l ≠ 0) (h4 : l ≤ 4) (ha : a ∈ allA) (hb : b ∈ allB) (hs : s < 6) : [(l : Int), (((a + 256 * b) % 256 ^ l + s : Nat) : Int)] ∈ allK := by
  have hl : ∀ l, l < 5 → l ≠ 0 → l ∈ [1, 2, 3, 4] := by decide
  exact List.mem_flatMap.mpr ⟨l, hl l (Nat.lt_succ_of_le h4) h1, List.mem_map.mpr ⟨_, List.mem_eraseDups.mpr (List.mem_flatMap.mpr ⟨a, ha, List.mem_flatMap.mpr ⟨b, hb, List.mem_map.mpr ⟨s, List.mem_range.mpr hs, rfl⟩⟩⟩), rfl⟩⟩
theorem nodup_inj (h : (xs.map f).Nodup) : ∀ x ∈ xs, ∀ y ∈ xs, f x = f y → x = y := by
  induction xs with
  | nil => exact fun x hx => nomatch hx
  | cons a l ih =>
    have hn := List.nodup_cons.mp h
    intro x hx y hy e
    cases hx with
    | head => cases hy with
      | head => rfl
      | tail _ hy => exact absurd (List.mem_map.mpr ⟨y, hy, e.symm⟩) hn.1
    | tail _ hx => cases hy with
      | head => exact absurd (List.mem_map.mpr ⟨x, hx, e⟩) hn.1
      | tail _ hy => exact ih hn.2 x hx y hy e
theorem apart_of (hn : ks.Nodup) (hs : ∀ k ∈ ks, k ∈ allK) : hashesApart ks = true :=
  have h := nodup_inj (of_decide_eq_true allK_apart)
  decide_eq_true (List.pairwise_map.mpr (List.Pairwise.imp_of_mem (fun hx hy hne e => hne (h _ (hs _ hx) _ (hs _ hy) e)) hn))
theorem putE_kv : (putE e es).map En.kv = putM e.key e.t (es.map En.kv) := by
  induction es with
  | nil => rfl
  | cons x r ih =>
    show (if x.key = e.key then e :: r else x :: putE e r).map En.kv = if x.key = e.key then (e.key, e.t) :: r.map En.kv else (x.key, x.t) :: putM e.key e.t (r.map En.kv)
    split
    · rfl
    · rw [List.map_cons, ih]; rfl
theorem putE_mem (h : y ∈ putE e es) : y = e ∨ y ∈ es := by
  induction es with
  | nil => exact .inl (List.mem_singleton.mp h)
  | cons x r ih =>
    have h : y ∈ if x.key = e.key then e :: r else x :: putE e r := h
    split at h
    · exact (List.mem_cons.mp h).imp id (.tail _)
    · cases h with
      | head => exact .inr (.head _)
      | tail _ h => exact (ih h).imp id (.tail _)
theorem putE_keys : (putE e es).map En.key = es.map En.key ∨ ((putE e es).map En.key = es.map En.key ++ [e.key] ∧ e.key ∉ es.map En.key) := by
  induction es with
  | nil => exact .inr ⟨rfl, nofun⟩
  | cons x r ih =>
    show (if x.key = e.key then e :: r else x :: putE e r).map En.key = _ ∨ ((if x.key = e.key then e :: r else x :: putE e r).map En.key = _ ∧ _)
    split
    case isTrue h => exact .inl (congrArg (· :: r.map En.key) h.symm)
    case isFalse h => exact ih.imp (congrArg (x.key :: ·)) fun q => ⟨congrArg (x.key :: ·) q.1, fun m => (List.mem_cons.mp m).elim (fun z => h z.symm) q.2⟩
theorem putE_len : (putE e es).length ≤ es.length + 1 := by
  have h := congrArg List.length (putE_kv (e := e) (es := es))
  rw [List.length_map] at h
  rw [h, ← List.length_map (f := En.kv) (as := es)]
  exact putM_len
theorem ESt.put (h : ESt es b) (he : e.Good) (hk : e.key ∈ allK) : ESt (putE e es) (b + 1) := by
  refine ⟨fun y hy => (putE_mem hy).elim (fun q => q ▸ he) (h.good y), fun y hy => (putE_mem hy).elim (fun q => q ▸ hk) (h.mem y), ?_, Nat.le_trans putE_len (Nat.succ_le_succ h.len)⟩
  rcases putE_keys (e := e) (es := es) with q | ⟨q, q2⟩
  · rw [q]; exact h.nd
  · rw [q]
    exact List.nodup_append.mpr ⟨h.nd, List.nodup_cons.mpr ⟨nofun, List.nodup_nil⟩, fun a ha c hc e => by cases List.mem_singleton.mp hc; exact q2 (e ▸ ha)⟩
theorem ESt.mono (h : ESt es b) (hc : b ≤ c) : ESt es c := ⟨h.good, h.mem, h.nd, Nat.le_trans h.len hc⟩
theorem law_sign (hc : c < 1114112) : ∃ c', D (n + 1) (.f 40 [.int c] σ (.str [c']) σ) ∧ goodC c' := by
  cases hb : (Nat.ble 55296 c && Nat.ble c 57343) with
  | false => exact ⟨c, .fnV (ir := ir40) rfl rfl rfl rfl (.next (.if0 (.tcmp .num (c_btw (lo := 55296) (hi := 57343) rfl .num hb))) (.one (.ret rfl (.bi (.cons (.loc rfl) .nil) (.chr hc))))) rfl rfl, hc, hb⟩
  | true =>
    have h1 := Nat.le_of_ble_eq_true (and_l hb)
    have h2 := Nat.le_of_ble_eq_true (and_r hb)
    have h3 : c + 2048 < 1114112 := Nat.lt_of_le_of_lt (Nat.add_le_add_right h2 2048) (by decide)
    have h4 : Nat.ble (c + 2048) 57343 = false := by
      cases e : Nat.ble (c + 2048) 57343 with
      | false => rfl
      | true => exact absurd (Nat.le_trans (Nat.add_le_add_right h1 2048) (Nat.le_of_ble_eq_true e)) (by decide)
    exact ⟨c + 2048, .fnV (ir := ir40) rfl rfl rfl rfl (.next (.ifT (.tcmp .num (c_btw (lo := 55296) (hi := 57343) rfl .num hb)) (.one (.asg rfl (.bin (.loc rfl) .num .addI)))) (.one (.ret rfl (.bi (.cons (.loc rfl) .nil) (.chr h3))))) rfl rfl, h3, by rw [h4, Bool.and_false]⟩
noncomputable def bases : List Nat := [65, 254, 8364, 255, 128512, 66558, 55295, 65535, 1114096, 1, 57599]
theorem law_bases : D (n + 1) (.f 38 [] σ (.list (ia bases)) σ) := .fnV (ir := ir38) rfl rfl rfl rfl (.one (.ret rfl (e_nums bases rfl))) rfl rfl
theorem pow256 (hl : l ≤ 4) (h : rd ρ k = some (.int l)) : D n (.e ρ (.bin .Pow (.num 256) (.loc k)) σ (.int ((256 ^ l : Nat) : Int)) σ) := by
  have q : BinR .Pow (.int ((256 : Nat) : Int)) (.int l) _ := .pow (Int.natCast_nonneg _) (Int.ofNat_le.mpr (Nat.le_trans hl (by decide))) rfl
  rw [Int.toNat_natCast, pow_cast] at q
  exact .bin .num (.loc h) q
end
noncomputable def lcF : List MS := wb ((wb (nthS ir42 1)).getD 4 .stuck)
noncomputable def mp (es : List En) : OObj := .map (es.map En.kv)
inductive LcIn (σ : St) (j : Nat) (X : OObj) (l code base way : Nat) (y2 : AV) (B k : Nat) : List AV → St → Prop
  | mk {es : List En} {z7 z8 z9 : AV} (h : ESt es (B + k)) : LcIn σ j X l code base way y2 B k [.own j, .own σ.length, y2, .int l, .int code, .int base, .int way, z7, z8, z9] (Q (σ ++ [mp es]) j X)
inductive LcOut (σ : St) (j : Nat) (cells : List Int) (B : Nat) (k : Nat) : List AV → St → Prop
  | mk {es : List En} {X : OObj} {z2 z3 z4 z5 z6 z7 z8 z9 : AV} (h : ESt es (k * 6)) (hp : Pen cells (B + k * 6) X) : LcOut σ j cells B k [.own j, .own σ.length, z2, z3, z4, z5, z6, z7, z8, z9] (Q (σ ++ [mp es]) j X)
section
variable {n : Nat} {σ τ : St} {j B l code base way cnt s c : Nat} {cells : List Int} {es : List En} {X : OObj} {x0 x1 x2 x3 x4 x5 x8 y2 y7 y8 y9 : AV}
theorem lc_text (hc : goodC c) : ∃ t, (∀ c ∈ t, goodC c) ∧ t.length ≤ 2 ∧ ∀ {tail : List MS} {o : Out} {ρ' : List AV} {σ' : St}, D n (.ss tail [x0, x1, x2, x3, x4, x5, .int way, .int s, x8, .str t] τ o ρ' σ') → D n (.ss (lcF.getD 2 .stuck :: lcF.getD 3 .stuck :: tail) [x0, x1, x2, x3, x4, x5, .int way, .int s, x8, .str [c]] τ o ρ' σ') := by
  have hx : ∀ {x : Nat}, goodC x → ∀ c ∈ [x], goodC c := fun h c hc => by cases List.mem_singleton.mp hc; exact h
  by_cases h4 : way = 4
  · subst h4
    exact ⟨[120, c], List.forall_mem_cons.mpr ⟨⟨by decide, rfl⟩, hx hc⟩, Nat.le_refl _, fun h => .next (.ifT (.tcmp (.loc rfl) (.cone .num (eqT rfl))) (.one (.asg rfl (.bin .str (.loc rfl) (.addS (a := [120]) (b := [c]) (le_szl rfl)))))) (.next (.if0 (.tbop (.tbstop (.tcmp (.loc rfl) (.cone .num (eqF (by decide))))))) h)⟩
  · by_cases h5 : way = 5
    · subst h5
      have hm : BinR .Mod (.int s) (.int 2) (.int ((s % 2 : Nat) : Int)) := modN (b := 2) (by decide)
      by_cases h6 : s % 2 = 1
      · rw [h6] at hm
        exact ⟨[], nofun, Nat.zero_le _, fun h => .next (.if0 (.tcmp (.loc rfl) (.cone .num (eqF (by decide))))) (.next (.ifT (.tbop (.tbgo (.tcmp (.loc rfl) (.cone .num (eqT rfl))) (.tbgo (.tcmp (.bin (.loc rfl) .num hm) (.cone .num (eqT rfl))) .tbnil))) (.one (.asg rfl .str))) h)⟩
      · exact ⟨[c], hx hc, Nat.le_succ 1, fun h => .next (.if0 (.tcmp (.loc rfl) (.cone .num (eqF (by decide))))) (.next (.if0 (.tbop (.tbgo (.tcmp (.loc rfl) (.cone .num (eqT rfl))) (.tbstop (.tcmp (.bin (.loc rfl) .num hm) (.cone .num (eqN (b := 1) h6))))))) h)⟩
    · exact ⟨[c], hx hc, Nat.le_succ 1, fun h => .next (.if0 (.tcmp (.loc rfl) (.cone .num (eqN (b := 4) h4)))) (.next (.if0 (.tbop (.tbstop (.tcmp (.loc rfl) (.cone .num (eqN (b := 5) h5)))))) h)⟩
theorem lc_inner (h1 : l ≠ 0) (h4 : l ≤ 4) (hk : ∀ s, s < 6 → [(l : Int), ((code + s : Nat) : Int)] ∈ allK) (hbase : base ≤ 1114096) (hcnt : cnt ≤ 6) (hes : ESt es B) (hB : B ≤ 100) (hj : j < σ.length) :
    ∃ ρ' σ', LcIn σ j X l code base way y2 B cnt ρ' σ' ∧ D (n + 1) (.fo [7] lcF ((List.range cnt).map fun (k : Nat) => .int (k : Int)) [.own j, .own σ.length, y2, .int l, .int code, .int base, .int way, y7, y8, y9] (Q (σ ++ [mp es]) j X) .next ρ' σ') := by
  refine fo_rng (LcIn σ j X l code base way y2 B) (fun s ρ τ hs hI => ?_) (.mk hes)
  obtain ⟨h⟩ := hI
  rename_i es z7 z8 z9
  have hs6 : s < 6 := Nat.lt_of_lt_of_le hs hcnt
  obtain ⟨rise, hr, hrm⟩ := get_ex (L := [s, s, 0, s * 2, s]) (v := way % 5) (Nat.mod_lt _ (by decide))
  have hr10 := (by decide : ∀ s, s < 6 → ∀ x ∈ [s, s, 0, s * 2, s], x ≤ 10) s hs6 rise hrm
  obtain ⟨c, hsg, hc⟩ := law_sign (n := n) (σ := Q (σ ++ [mp es]) j X) (c := base + rise) (Nat.lt_of_le_of_lt (Nat.add_le_add hbase hr10) (by decide))
  obtain ⟨t, ht, ht2, htx⟩ := lc_text (n := n + 1) (τ := Q (σ ++ [mp es]) j X) (way := way) (s := s) (x0 := .own j) (x1 := .own σ.length) (x2 := y2) (x3 := .int l) (x4 := .int code) (x5 := .int base) (x8 := .int rise) hc
  have go : ∀ {σ' : St}, D (n + 1) (.s (lcF.getD 4 .stuck) [.own j, .own σ.length, y2, .int l, .int code, .int base, .int way, .int s, .int rise, .str t] (Q (σ ++ [mp es]) j X) .next [.own j, .own σ.length, y2, .int l, .int code, .int base, .int way, .int s, .int rise, .str t] σ') →
      D (n + 1) (.ss lcF [.own j, .own σ.length, y2, .int l, .int code, .int base, .int way, .int s, z8, z9] (Q (σ ++ [mp es]) j X) .next [.own j, .own σ.length, y2, .int l, .int code, .int base, .int way, .int s, .int rise, .str t] σ') := fun h =>
    .next (.asg rfl (sub_draw (w := [s, s, 0, s * 2, s]) rfl (.lst (.cons (.loc rfl) (.cons (.loc rfl) (.cons .num (.cons (.bin (.loc rfl) .num (.mul (.inr rfl))) (.cons (.loc rfl) .nil))))) (le_szl rfl)) (.bin (.loc rfl) .num (modN (b := 5) (by decide))) hr))
      (.next (.asg rfl (.call (.cons (.bin (.loc rfl) (.loc rfl) .addI) .nil) hsg)) (htx (.one h)))
  rcases Nat.lt_or_ge (code + s) (256 ^ l) with hlt | hlt
  · have hg : En.Good ⟨l, code + s, t⟩ := ⟨h1, h4, hlt, ht, ht2⟩
    have hl : (es.map En.kv).length < szl := by rw [List.length_map]; exact Nat.lt_of_le_of_lt (Nat.le_trans h.len (Nat.add_le_add hB (Nat.le_of_lt hs6))) (Nat.lt_of_lt_of_le (by decide : 106 < 1000) (le_szl rfl))
    have q : SetiR (Q (σ ++ [mp es]) j X) (.str t) (.own σ.length) (.tup ([(l : Int), ((code + s : Nat) : Int)].map .int)) ((Q (σ ++ [mp es]) j X).set σ.length (.map (putM [(l : Int), ((code + s : Nat) : Int)] t (es.map En.kv)))) := .map (Q_own hj) hl
    rw [Q_oset hj, show putM [(l : Int), ((code + s : Nat) : Int)] t (es.map En.kv) = (putE ⟨l, code + s, t⟩ es).map En.kv from (putE_kv (e := ⟨l, code + s, t⟩)).symm] at q
    exact ⟨_, _, .mk (h.put hg (hk s hs6)), go (.ifT (.tcmp (.bin (.loc rfl) (.loc rfl) .addI) (.cone (pow256 h4 rfl) (ltT (Int.ofNat_lt.mpr hlt)))) (.one (.seti (.loc rfl) (.loc rfl) (.tup (.cons (.loc rfl) (.cons (.bin (.loc rfl) (.loc rfl) .addI) .nil)) (.same rfl) (le_szl rfl)) q)))⟩
  · exact ⟨_, _, .mk (h.mono (Nat.le_succ _)), go (.if0 (.tcmp (.bin (.loc rfl) (.loc rfl) .addI) (.cone (pow256 h4 rfl) (ltF (Int.ofNat_le.mpr hlt)))))⟩
theorem lc_outer {T : Nat} (hT : T < 8) (hc : cells.length ≤ 1000) (hj : j < σ.length) (hB : B < 80000) (hX : Pen cells B X) :
    ∃ ρ' σ', LcOut σ j cells B T ρ' σ' ∧ D (n + 1) (.fo [2] (wb (nthS ir42 1)) ((List.range T).map fun (k : Nat) => .int (k : Int)) [.own j, .own σ.length, .undef, .undef, .undef, .undef, .undef, .undef, .undef, .undef] (Q (σ ++ [mp []]) j X) .next ρ' σ') := by
  refine fo_rng (LcOut σ j cells B) (fun k ρ τ hk hI => ?_) (.mk (es := []) ⟨nofun, nofun, List.nodup_nil, Nat.le_refl _⟩ hX)
  obtain ⟨h, hp⟩ := hI
  rename_i es X z2 z3 z4 z5 z6 z7 z8 z9
  have hja : j < (σ ++ [mp es]).length := lt_app hj
  have hk7 : k * 6 ≤ 42 := Nat.mul_le_mul_right 6 (Nat.le_of_lt_succ (Nat.lt_trans hk hT))
  have hb : B + k * 6 + 6 < 100000 := Nat.lt_of_le_of_lt (Nat.add_le_add_right (Nat.add_le_add (Nat.le_of_lt hB) hk7) 6) (by decide)
  obtain ⟨v1, X1, d1, hv1, p1⟩ := draw (n := n) (many := 4) hja hp hc (Nat.lt_of_le_of_lt (Nat.le_add_right _ 6) hb) (by decide) (by decide)
  obtain ⟨v2, X2, d2, hv2, p2⟩ := draw (n := n) (many := 4) hja p1 hc (Nat.lt_of_le_of_lt (Nat.le_add_right _ 5) hb) (by decide) (by decide)
  obtain ⟨v3, X3, d3, hv3, p3⟩ := draw (n := n) (many := 3) hja p2 hc (Nat.lt_of_le_of_lt (Nat.le_add_right _ 4) hb) (by decide) (by decide)
  obtain ⟨v4, X4, d4, hv4, p4⟩ := draw (n := n) (many := 11) hja p3 hc (Nat.lt_of_le_of_lt (Nat.le_add_right _ 3) hb) (by decide) (by decide)
  obtain ⟨v5, X5, d5, hv5, p5⟩ := draw (n := n) (many := 6) hja p4 hc (Nat.lt_of_le_of_lt (Nat.le_add_right _ 2) hb) (by decide) (by decide)
  obtain ⟨v6, X6, d6, hv6, p6⟩ := draw (n := n) (many := 6) hja p5 hc (Nat.lt_of_le_of_lt (Nat.le_add_right _ 1) hb) (by decide) (by decide)
  obtain ⟨a, ha, ham⟩ := get_ex (L := allA) (v := v2) hv2
  obtain ⟨b, hb, hbm⟩ := get_ex (L := allB) (v := v3) hv3
  obtain ⟨base, hba, hbam⟩ := get_ex (L := bases) (v := v4) hv4
  have hbase := (by decide : ∀ x ∈ [65, 254, 8364, 255, 128512, 66558, 55295, 65535, 1114096, 1, 57599], x ≤ 1114096) base hbam
  have hl4 : 1 + v1 ≤ 4 := by rw [Nat.add_comm]; exact hv1
  have hl1 : 1 + v1 ≠ 0 := Nat.ne_of_gt (Nat.lt_add_right v1 Nat.one_pos)
  have hc6 : 1 + v6 ≤ 6 := by rw [Nat.add_comm]; exact hv6
  obtain ⟨_, _, ⟨h2⟩, kin⟩ := lc_inner (n := n) (X := X6) (l := 1 + v1) (code := (a + 256 * b) % 256 ^ (1 + v1)) (base := base) (way := v5) (cnt := 1 + v6) (y2 := .int (k : Int)) (y7 := z7) (y8 := z8) (y9 := z9) hl1 hl4 (fun s hs => allK_mem hl1 hl4 ham hbm hs) hbase hc6 h (Nat.le_trans hk7 (by decide)) hj
  exact ⟨_, _, .mk (h2.mono (Nat.succ_mul k 6 ▸ Nat.add_le_add_left hc6 _)) (Nat.succ_mul k 6 ▸ p6),
    .next (.asg rfl (.bin .num (e_draw rfl d1) .addI)) (.next (.asg rfl (.bin (.bin (sub_draw rfl (e_nums allA rfl) (e_draw rfl d2) ha) (.bin .num (sub_draw rfl (e_nums allB rfl) (e_draw rfl d3) hb) (.mul (.inl rfl))) .addI) (pow256 hl4 rfl) (modN (a := a + 256 * b) (ne_nat (Nat.pos_iff_ne_zero.mp (Nat.pow_pos (by decide)))))))
      (.next (.asg rfl (sub_draw rfl (.call .nil law_bases) (.call (.cons (.loc rfl) (.cons (.bi (.cons (.call .nil law_bases) .nil) (.lenL (xs := ia bases) (le_szl rfl))) .nil)) d4) hba)) (.next (.asg rfl (e_draw rfl d5))
        (.one (.for_ (.bi (.cons (.bin .num (e_draw rfl d6) .addI) .nil) .rng1) (it_rng1 (b := 1 + v6) (Nat.lt_of_le_of_lt hc6 (by decide))) (by rw [List.length_map, List.length_range]; exact Nat.le_trans hc6 (le_szl rfl)) kin)))))⟩
theorem law_chars (hc : cells.length ≤ 1000) (hj : j < σ.length) (hB : B < 70000) (hX : Pen cells B X) :
    ∃ es Y, D (n + 2) (.f 42 [.own j] (Q σ j X) (.own σ.length) (Q (σ ++ [mp es]) j Y)) ∧ ESt es 42 ∧ Pen cells (B + 50) Y := by
  obtain ⟨v, X1, d1, hv, hp1⟩ := draw (n := n) (σ := σ ++ [mp []]) (many := 8) (lt_app hj) hX hc (Nat.lt_trans hB (by decide)) (by decide) (by decide)
  obtain ⟨_, _, ⟨h, hp2⟩, k⟩ := lc_outer (n := n) hv hc hj (Nat.lt_of_le_of_lt (Nat.succ_le_of_lt hB) (by decide)) hp1
  rename_i es X2 z2 z3 z4 z5 z6 z7 z8 z9
  have hv7 : v ≤ 7 := Nat.le_of_lt_succ hv
  have e1 : D (n + 1) (.e [.own j, .undef, .undef, .undef, .undef, .undef, .undef, .undef, .undef, .undef] .newd (Q σ j X) (.own σ.length) (Q (σ ++ [mp []]) j X)) := by
    have q : D (n + 1) (.e [.own j, .undef, .undef, .undef, .undef, .undef, .undef, .undef, .undef, .undef] .newd (Q σ j X) (.own (Q σ j X).length) (Q σ j X ++ [.map []])) := .newd
    rwa [Q_len, Q_app hj] at q
  have hf : FinR true (Q σ j X).length (.own (Q σ j X).length) (Q (σ ++ [mp es]) j X2) (.own (Q σ j X).length) ((Q (σ ++ [mp es]) j X2).take ((Q σ j X).length + 1)) := .keep (by rw [Q_len]; exact Q_own hj)
  rw [Q_len, List.take_of_length_le (by rw [Q_len, List.length_append]; exact Nat.le_refl _)] at hf
  refine ⟨es, X2, .fn (ir := ir42) rfl (Nat.le_of_ble_eq_true rfl) (Nat.le_of_ble_eq_true rfl) rfl (.next (.asg rfl e1) (.next (.for_ (.bi (.cons (e_draw rfl d1) .nil) .rng1) (it_rng1 (Nat.lt_of_le_of_lt hv7 (by decide))) (by rw [List.length_map, List.length_range]; exact Nat.le_trans hv7 (le_szl rfl)) k) (.one (.ret rfl (.loc rfl))))) (by rw [Q_len]; exact hf), h.mono (Nat.mul_le_mul_right 6 hv7), ?_⟩
  obtain ⟨h2⟩ := hp2
  exact .mk (Nat.le_trans h2 (by show B + 1 + v * 6 ≤ _; rw [Nat.add_assoc]; exact Nat.add_le_add_left (Nat.le_trans (Nat.add_le_add_left (Nat.mul_le_mul_right 6 hv7) 1) (by decide)) _))
end
/-- a value that is told equal to itself -/
structure Self (n : Nat) (x : AV) : Prop where
  cb : CB n x x
  eq : eqb x x = true
noncomputable def toldE (e : En) : AV := .tup [keyA e, .str e.t]
noncomputable def toldA (S : List Sp) (E : List En) : AV := .tup [.tup (sps S), .tup (E.map toldE)]
section
variable {a b x y z : En} {r X Y es l1 l2 E : List En} {n : Nat} {u v c : AV} {xs : List AV} {S : List Sp} {R ls : List (List Nat)} {σ τ : St} {ρ : List AV} {e1 : ME} {w : List Nat}
/-! the order -/
theorem keyLt_iff : keyLt a.key b.key = true ↔ (a.l < b.l ∨ (a.l = b.l ∧ a.c < b.c)) := by
  show (if ((a.l : Int) == b.l) = true then (if ((a.c : Int) == b.c) = true then false else decide ((a.c : Int) < b.c)) else decide ((a.l : Int) < b.l)) = true ↔ _
  rw [beq_nat, beq_nat]
  cases h : Nat.beq a.l b.l with
  | false =>
    rw [if_neg Bool.false_ne_true, decide_eq_true_eq]
    exact ⟨fun q => .inl (Int.ofNat_lt.mp q), fun q => q.elim Int.ofNat_lt.mpr fun q => absurd q.1 (Nat.ne_of_beq_eq_false h)⟩
  | true =>
    have h1 := Nat.eq_of_beq_eq_true h
    rw [if_pos rfl]
    cases h2 : Nat.beq a.c b.c with
    | true =>
      have h3 := Nat.eq_of_beq_eq_true h2
      rw [if_pos rfl]
      exact ⟨nofun, fun q => q.elim (fun q => absurd h1 (Nat.ne_of_lt q)) fun q => absurd h3 (Nat.ne_of_lt q.2)⟩
    | false =>
      rw [if_neg Bool.false_ne_true, decide_eq_true_eq]
      exact ⟨fun q => .inr ⟨h1, Int.ofNat_lt.mp q⟩, fun q => q.elim (fun q => absurd h1 (Nat.ne_of_lt q)) fun q => Int.ofNat_lt.mpr q.2⟩
theorem lt_asym (h : keyLt a.key b.key = true) : ¬ keyLt b.key a.key = true := fun q => by
  have h1 := keyLt_iff.mp h
  have h2 := keyLt_iff.mp q
  omega
theorem lt_tr (h : keyLt a.key b.key = true) (h2 : keyLt b.key x.key = true) : keyLt a.key x.key = true := by
  have h1 := keyLt_iff.mp h
  have h2 := keyLt_iff.mp h2
  exact keyLt_iff.mpr (by omega)
theorem lt_tot (h : a.key ≠ b.key) (h2 : ¬ keyLt a.key b.key = true) : keyLt b.key a.key = true := by
  rw [keyLt_iff] at h2 ⊢
  have h3 : ¬ (a.l = b.l ∧ a.c = b.c) := fun q => h (by rw [En.key, En.key, q.1, q.2])
  omega
theorem insT (h : keyLt a.key x.key = true) : insE a (x :: r) = a :: x :: r := if_pos h
theorem insF (h : ¬ keyLt a.key x.key = true) : insE a (x :: r) = x :: insE a r := if_neg h
theorem insE_comm (h : a.key ≠ b.key) : insE a (insE b r) = insE b (insE a r) := by
  have step : ∀ {a b : En}, a.key ≠ b.key → ∀ {x : En} {r : List En}, keyLt a.key x.key = true → ¬ keyLt b.key x.key = true → insE a (insE b (x :: r)) = insE b (insE a (x :: r)) := by
    intro a b h x r ha hb
    rw [insF hb, insT ha, insT ha, insF fun q => hb (lt_tr q ha), insF hb]
  induction r with
  | nil =>
    by_cases q : keyLt a.key b.key = true
    · show insE a [b] = insE b [a]
      rw [insT q, insF (lt_asym q)]; rfl
    · show insE a [b] = insE b [a]
      rw [insF q, insT (lt_tot h q)]; rfl
  | cons x r ih =>
    by_cases ha : keyLt a.key x.key = true
    · by_cases hb : keyLt b.key x.key = true
      · rw [insT hb, insT ha]
        by_cases q : keyLt a.key b.key = true
        · rw [insT q, insF (lt_asym q), insT hb]
        · rw [insF q, insT ha, insT (lt_tot h q)]
      · exact step h ha hb
    · by_cases hb : keyLt b.key x.key = true
      · exact (step (Ne.symm h) hb ha).symm
      · rw [insF hb, insF ha, insF ha, insF hb, ih]
theorem sortE_uniq (h : l1.Perm l2) : (l1.map En.key).Nodup → sortE l1 = sortE l2 := by
  induction h with
  | nil => exact fun _ => rfl
  | cons x _ ih => exact fun hn => congrArg (insE x) (ih (List.nodup_cons.mp hn).2)
  | swap x y l => exact fun hn => insE_comm fun q => (List.nodup_cons.mp hn).1 (q ▸ .head _)
  | trans h1 h2 ih1 ih2 => exact fun hn => (ih1 hn).trans (ih2 ((h1.map En.key).nodup_iff.mp hn))

/-! equal values -/
theorem eqbs_self (h : ∀ x ∈ xs, Self n x) : eqbs xs xs = true := by
  induction xs with
  | nil => rfl
  | cons x xs ih =>
    show (eqb x x && eqbs xs xs) = true
    rw [(h x (.head _)).eq, ih fun y hy => h y (.tail _ hy)]; rfl
theorem get_same {j : Nat} (h : ∀ x ∈ xs, Self n x) (h1 : xs[j]? = some u) (h2 : xs[j]? = some v) : CB n u v := by
  cases h1.symm.trans h2
  exact (h u (List.mem_of_getElem? h1)).cb
theorem self_list (h : ∀ x ∈ xs, Self n x) : Self (n + 1) (.list xs) := ⟨.list fun _ _ _ _ => get_same h, eqbs_self h⟩
theorem self_tup (h : ∀ x ∈ xs, Self n x) : Self (n + 1) (.tup xs) := ⟨.tup fun _ _ _ => get_same h, eqbs_self h⟩
theorem self_int {a : Int} : Self n (.int a) := ⟨.int, beq_self_eq_true a⟩
theorem self_str : Self n (.str w) := ⟨.str, beq_self_eq_true w⟩
theorem self_map {α : Type} {f : α → AV} {l : List α} (h : ∀ x, Self n (f x)) : ∀ y ∈ l.map f, Self n y := fun y hy => by
  obtain ⟨x, _, rfl⟩ := List.mem_map.mp hy
  exact h x
theorem eqr (h : Self 8 u) : EqR u u true := h.eq ▸ .cmp h.cb
theorem self_2 (h : Self n u) (h2 : Self n v) : Self (n + 1) (.tup [u, v]) := self_tup (List.forall_mem_cons.mpr ⟨h, List.forall_mem_cons.mpr ⟨h2, nofun⟩⟩)
theorem self_sps : ∀ x ∈ sps S, Self (n + 1) x := self_map fun s => self_tup (List.forall_mem_cons.mpr ⟨self_int, List.forall_mem_cons.mpr ⟨self_int, List.forall_mem_cons.mpr ⟨self_int, nofun⟩⟩⟩)
theorem self_sa : ∀ x ∈ sa R, Self n x := self_map fun _ => self_str
theorem self_told : Self 8 (toldA S E) := self_2 (self_tup self_sps) (self_tup (self_map fun e => self_2 (self_2 self_int self_int) self_str))
theorem eq_map (hl : X.length = Y.length) (hx : X.length ≤ 1000) (hn : (Y.map En.key).Nodup) (hs : ∀ e ∈ X, e ∈ Y) : EqR (.map (X.map En.kv)) (.map (Y.map En.kv)) true := by
  have q : EqR (.map (X.map En.kv)) (.map (Y.map En.kv)) _ := .map (by rw [List.length_map]; exact Nat.le_trans hx (le_szl rfl)) (by rw [List.length_map, ← hl]; exact Nat.le_trans hx (le_szl rfl))
  rwa [List.length_map, List.length_map, hl, beq_self_eq_true, Bool.true_and, List.all_eq_true.mpr fun p hp => by
    obtain ⟨e, he, rfl⟩ := List.mem_map.mp hp
    exact beq_iff_eq.mpr (lookup_of hn (hs e he))] at q

/-! the lines -/
theorem split_one {l r : List Nat} (h : ∀ c ∈ l, c ≠ 10) {s : List (List Nat)} (hr : splitT 10 r = s) (hs : s ≠ []) : splitT 10 (l ++ 10 :: r) = l :: s := by
  induction l with
  | nil =>
    show (match splitT 10 r with | [] => [[10]] | w :: ws => if 10 = 10 then [] :: w :: ws else (10 :: w) :: ws) = _
    rw [hr]
    cases s with
    | nil => exact absurd rfl hs
    | cons w ws => rfl
  | cons c l ih =>
    show (match splitT 10 (l ++ 10 :: r) with | [] => [[c]] | w :: ws => if c = 10 then [] :: w :: ws else (c :: w) :: ws) = _
    rw [ih fun x hx => h x (.tail _ hx)]
    exact if_neg (h c (.head _))
theorem split_unl (h : ∀ l ∈ ls, ∀ c ∈ l, c ≠ 10) : splitT 10 (unl ls) = ls ++ [[]] := by
  induction ls with
  | nil => rfl
  | cons l ls ih =>
    rw [unl_cons]
    exact split_one (h l (.head _)) (ih fun x hx => h x (.tail _ hx)) (by cases ls <;> exact List.cons_ne_nil _ _)

/-! told -/
theorem told_cl (h : ∀ e ∈ E, D n (.e [keyA e, c] e1 τ (.str e.t) τ)) : D n (.cl (.tup [.loc 0, e1]) [] 1 [c] (ks E) τ (E.map toldE) τ) :=
  cl_ix ((List.length_map _).trans (List.length_map _).symm) fun j x y h1 h2 => by
    rw [ks, List.getElem?_map] at h1
    rw [List.getElem?_map] at h2
    obtain ⟨e, he, rfl⟩ := Option.map_eq_some_iff.mp h1
    rw [he] at h2
    cases h2
    exact .tup (.cons (.loc rfl) (.cons (h e (List.mem_of_getElem? he)) .nil)) (.same rfl) (le_szl rfl)
theorem fr_map {α : Type} {f : α → AV} {l : List α} (h : ∀ x, frozen (f x) = true) : frozens (l.map f) = true := by
  induction l with
  | nil => rfl
  | cons x l ih =>
    show (frozen (f x) && frozens (l.map f)) = true
    rw [h x, ih]; rfl
theorem fr_sps : frozens (sps S) = true := fr_map fun _ => rfl
theorem fr_told : frozens [.tup (sps S), .tup (E.map toldE)] = true := by
  show (frozens (sps S) && (frozens (E.map toldE) && true)) = true
  rw [fr_sps, fr_map fun _ => rfl]; rfl
/-- what is told, of spaces and of sorted keys -/
theorem e_told {eS eM : ME} (hS : S.length ≤ 100) (hl : E.length < 64) (h1 : D n (.e ρ eS τ (.list (sps S)) τ)) (h2 : D n (.e ρ eM τ (.list (ks E)) τ)) {k : Nat} (hk : rd ρ k = some c) (hg : ρ.getD k .undef = c) (h : ∀ e ∈ E, D n (.e [keyA e, c] e1 τ (.str e.t) τ)) :
    D n (.e ρ (.tup [.bi .tuple [eS], .bi .tuple [.comp (.tup [.loc 0, e1]) 1 [k] eM []]]) τ (toldA S E) τ) :=
  .tup (.cons (.bi (.cons h1 .nil) (.tuple (by rw [sps, List.length_map]; exact Nat.le_trans hS (le_szl rfl)))) (.cons (.bi (.cons (.comp h2 .list (by rw [ks, List.length_map]; exact Nat.le_trans (Nat.le_of_lt hl) (le_szl rfl)) (show D n (.cl _ _ _ [ρ.getD k .undef] _ _ _ _) from hg.symm ▸ told_cl h)) .nil) (.tuple (by rw [List.length_map]; exact Nat.le_trans (Nat.le_of_lt hl) (le_szl rfl)))) .nil)) (.same fr_told) (le_szl rfl)
theorem told (hl : X.length < 64) (hS : S.length ≤ 100) (hn : (X.map En.key).Nodup) : D (n + 1) (.f 9 [cmI S (X.map En.kv)] σ (toldA S (sortE X)) σ) :=
  .fnV (ir := ir9) rfl rfl rfl rfl (.one (.ret rfl (e_told hS (by rw [sortE_perm.length_eq]; exact hl) (.att (.loc rfl) (.inst rfl)) (.bi (.cons (.att (.loc rfl) (.inst rfl)) .nil) (sorted_ok' hl)) rfl rfl fun e he =>
    .sub (.att (.loc rfl) (.inst rfl)) (.loc rfl) (.map (lookup_of hn (sortE_perm.mem_iff.mp he)))))) fr_told rfl
end
noncomputable def tw1 : List Nat := [49, 32, 98, 101, 103, 105, 110, 98, 102, 99, 104, 97, 114, 32]
noncomputable def tw2 : List Nat := [60, 48, 48, 55, 65, 62, 101, 110, 100, 98, 102, 99, 104, 97, 114]
noncomputable def zE (e : En) : En := ⟨e.l, e.c, [122]⟩
/-- what the law builds -/
structure Law (S : List Sp) (es : List En) : Prop where
  sg : ∀ s ∈ S, s.Good
  sl : S.length ≤ 4
  e : ESt es 42
noncomputable def dat (S : List Sp) (es : List En) : List Nat := unl (lines S (sortE es))
noncomputable def twi (e : En) : List Nat := tw1 ++ hexT e.o ++ tw2
section
variable {n : Nat} {σ : St} {S : List Sp} {es B : List En} {y z e : En}
theorem putE_of (hn : (es.map En.key).Nodup) (h : y ∈ putE z es) : y = z ∨ (y ∈ es ∧ y.key ≠ z.key) := by
  induction es with
  | nil => exact .inl (List.mem_singleton.mp h)
  | cons x r ih =>
    have hn := List.nodup_cons.mp hn
    have h : y ∈ if x.key = z.key then z :: r else x :: putE z r := h
    split at h
    case isTrue hx => exact (List.mem_cons.mp h).imp id fun q => ⟨.tail _ q, fun e => hn.1 (hx.trans e.symm ▸ List.mem_map_of_mem q)⟩
    case isFalse hx =>
      cases h with
      | head => exact .inr ⟨.head _, hx⟩
      | tail _ h => exact (ih hn.2 h).imp id fun q => ⟨.tail _ q.1, q.2⟩
theorem putE_to (h : y = z ∨ (y ∈ es ∧ y.key ≠ z.key)) : y ∈ putE z es := by
  induction es with
  | nil => exact h.elim (fun q => q ▸ .head _) fun q => nomatch q.1
  | cons x r ih =>
    show y ∈ if x.key = z.key then z :: r else x :: putE z r
    split
    case isTrue hx => exact h.elim (fun q => q ▸ .head _) fun q => (List.mem_cons.mp q.1).elim (fun e => absurd (e ▸ hx) q.2) (.tail _)
    case isFalse hx => exact h.elim (fun q => .tail _ (ih (.inl q))) fun q => (List.mem_cons.mp q.1).elim (fun e => e ▸ .head _) fun m => .tail _ (ih (.inr ⟨m, q.2⟩))
theorem putE_same (h : z.key ∈ es.map En.key) : (putE z es).map En.key = es.map En.key := putE_keys.elim id fun q => absurd h q.2
theorem putE_len2 (h : z.key ∈ es.map En.key) : (putE z es).length = es.length := by
  have q := congrArg List.length (putE_same h)
  rwa [List.length_map, List.length_map] at q
variable (h : Law S es)
include h
theorem Law.Eg : ∀ e ∈ sortE es, e.Good := fun e he => h.e.good e (sortE_perm.mem_iff.mp he)
theorem Law.El : (sortE es).length ≤ 42 := by rw [sortE_perm.length_eq]; exact h.e.len
theorem Law.Ek : ((sortE es).map En.key).Nodup := (sortE_perm.map En.key).nodup_iff.mpr h.e.nd
omit h in
theorem Bp : (back (sortE es)).Perm es := back_perm.trans sortE_perm
theorem Law.Bn : ((back (sortE es)).map En.key).Nodup := (Bp.map En.key).nodup_iff.mpr h.e.nd
theorem Law.Bl : (back (sortE es)).length ≤ 42 := by rw [Bp.length_eq]; exact h.e.len
theorem Law.sl' : S.length ≤ 100 := Nat.le_trans h.sl (by decide)
theorem Law.dl : (dat S es).length ≤ 40000 := data_len h.sg h.Eg h.sl' (Nat.lt_of_le_of_lt h.El (by decide))
theorem Law.write : D (n + 3) (.f 37 [cmI S (es.map En.kv)] σ (.bytes (dat S es)) σ) := write_cmap h.sg h.e.good h.sl' (Nat.lt_of_le_of_lt h.e.len (by decide)) h.e.nd
theorem Law.all {d ex : List Nat} {sp' : List AV} {m' : List (List Int × List Nat)} (hd : d.length ≤ szl) (hres : ∀ ws, whs ws → Rdg n σ d (ws ++ ex) (sps S) ((back (sortE es)).map En.kv) sp' m') : Rdg n σ d ([] ++ (dat S es ++ ex)) [] [] sp' m' :=
  read_all hd h.sg h.Eg h.sl' (Nat.le_trans h.El (by decide)) h.Ek hres
theorem Law.read : D (n + 8) (.f 32 [.bytes (dat S es)] σ (cmI S ((back (sortE es)).map En.kv)) σ) := by
  have hd : (dat S es).length ≤ szl := Nat.le_trans h.dl (le_szl rfl)
  have q := h.all (n := n) (σ := σ) (ex := []) hd fun ws hws => (List.append_nil ws).symm ▸ res_end hd hws
  rw [List.append_nil] at q
  exact read_cmap hd fr_sps q
omit h in
theorem zE_good (h : e.Good) : (zE e).Good := ⟨h.l1, h.l4, h.c, fun x hx => by cases List.mem_singleton.mp hx; exact ⟨by decide, rfl⟩, Nat.le_succ 1⟩
omit h in
theorem twi_len (h : e.Good) : (twi e).length ≤ 100 := Nat.le_trans (len_app (len_app (Nat.le_refl tw1.length) (hexT_le h.o_len)) (Nat.le_refl tw2.length)) (Nat.le_of_ble_eq_true rfl)
omit h in
theorem twi_text : twi e = dec 1 ++ ([32] ++ ((bgn.drop 1 ++ wCh) ++ ([32] ++ chT [] [] [] [zE e]))) := by
  rw [twi, List.append_assoc, show dec 1 = [49] by decide]; rfl
theorem Law.dl2 (he : e ∈ es) : (dat S es ++ twi e).length ≤ 50000 := Nat.le_trans (len_app h.dl (twi_len (h.e.good e he))) (by decide)
theorem Law.read2 (he : e ∈ es) : D (n + 8) (.f 32 [.bytes (dat S es ++ twi e)] σ (cmI S ((putE (zE e) (back (sortE es))).map En.kv)) σ) := by
  have hd : (dat S es ++ twi e).length ≤ szl := Nat.le_trans (h.dl2 he) (le_szl rfl)
  refine read_cmap hd fr_sps (h.all hd fun ws hws => ?_)
  rw [twi_text]
  exact res_int hd hws (stops_wh rfl) (by decide) (by decide) (by decide) (res_chars hd wh32 rfl (fun s hs => by cases List.mem_singleton.mp hs; exact zE_good (h.e.good e he)) (by rw [List.length_map]; exact Nat.lt_of_le_of_lt (Nat.succ_le_succ h.Bl) (Nat.lt_of_lt_of_le (by decide : 43 < 1000) (le_szl rfl))) wh32 nofun nofun (stops_wh rfl)
    (putE_kv (e := zE e) ▸ res_end (ws := []) hd nofun))
theorem Law.same : EqR (.map ((back (sortE es)).map En.kv)) (.map (es.map En.kv)) true := eq_map Bp.length_eq (Nat.le_trans h.Bl (by decide)) h.e.nd fun e he => Bp.mem_iff.mp he
theorem Law.same2 (he : e ∈ es) : EqR (.map ((putE (zE e) (back (sortE es))).map En.kv)) (.map ((putE (zE e) es).map En.kv)) true := by
  have hk : (zE e).key ∈ es.map En.key := List.mem_map.mpr ⟨e, he, rfl⟩
  have hk2 : (zE e).key ∈ (back (sortE es)).map En.key := List.mem_map.mpr ⟨e, Bp.mem_iff.mpr he, rfl⟩
  have hl := putE_len2 hk2
  exact eq_map (hl.trans (Bp.length_eq.trans (putE_len2 hk).symm)) (hl ▸ Nat.le_trans h.Bl (by decide)) ((putE_same hk).symm ▸ h.e.nd) fun y hy => putE_to ((putE_of h.Bn hy).imp id fun q => ⟨Bp.mem_iff.mp q.1, q.2⟩)
theorem Law.sorts : sortE (back (sortE es)) = sortE es := sortE_uniq Bp h.Bn
theorem Law.apart : hashesApart ((es.map En.kv).map (·.1)) = true := by
  rw [List.map_map]
  exact apart_of h.e.nd fun k hk => by
    obtain ⟨e, he, rfl⟩ := List.mem_map.mp hk
    exact h.e.mem e he
end
noncomputable def sgE (es : List En) : List (List Nat) := sRows (sortE es) (prsE (sortE es))
noncomputable def rgE (es : List En) : List (List Nat) := rRows (sortE es) (prsE (sortE es))
noncomputable def dueL (S : List Sp) (es : List En) : List (List Nat) := parts wSp (S.map spRow) ++ parts wCh (sgE es) ++ parts wRg (rgE es)
noncomputable def allL (S : List Sp) (es : List En) : List (List Nat) := lines S (sortE es) ++ [[]]
section
variable {α : Type} {n m B : Nat} {τ : St} {ρ cap : List AV} {S : List Sp} {es : List En} {X : OObj} {cells : List Int} {elt : ME} {x y : AV} {R ls : List (List Nat)} {w : List Nat}
theorem cl_map {f g : α → AV} {L : List α} (h : ∀ x ∈ L, D n (.e (f x :: cap) elt τ (g x) τ)) : D n (.cl elt [] 1 cap (L.map f) τ (L.map g) τ) := by
  induction L with
  | nil => exact .clnil
  | cons x L ih => exact .clyes .one .tsnil (h x (.head _)) (ih fun y hy => h y (.tail _ hy))
theorem cl_mapT {f : α → List AV} {g : α → AV} {L : List α} (h1 : ∀ x, (f x).length = m) (h2 : 2 ≤ m) (h : ∀ x ∈ L, D n (.e (f x ++ cap) elt τ (g x) τ)) : D n (.cl elt [] m cap (L.map fun x => .tup (f x)) τ (L.map g) τ) := by
  induction L with
  | nil => exact .clnil
  | cons x L ih => exact .clyes (.tup (h1 x) h2) .tsnil (h x (.head _)) (ih fun y hy => h y (.tail _ hy))
theorem neR (h : EqR x y true) : CmpR .NotEq x y false := .ne h
theorem draw2 {many : Nat} (hX : Pen cells B X) (hc : cells.length ≤ 1000) (hB : B < 100000) (hm : many ≠ 0) (hm2 : many < 1000) : ∃ (v : Nat) (Y : OObj), D (n + 1) (.f 39 [.own 0, .int many] [X, mp es] (.int v) [Y, mp es]) ∧ v < many ∧ Pen cells (B + 1) Y :=
  draw (σ := [X, mp es]) (Nat.succ_pos 1) hX hc hB hm hm2
theorem b100 {k : Nat} (h : k ≤ 100) : k ≤ szl := Nat.le_trans h (le_szl rfl)
/-- long -/
theorem law_3 (hX : Pen cells B X) (hc : cells.length ≤ 1000) (hB : B < 1000) (h1 : rd ρ 1 = some (.own 0)) : ∃ R Y, D (n + 1) (.s (nthS ir48 3) ρ [X, mp es] .next (ρ.set 4 (.list (sa R))) [Y, mp es]) ∧ R.length ≤ 400 ∧ Pen cells (B + 1) Y := by
  obtain ⟨v, Y, d, hv, hY⟩ := draw2 (n := n) (es := es) (many := 8) hX hc (Nat.lt_trans hB (by decide)) (by decide) (by decide)
  have hm : v * 43 < 400 := Nat.lt_of_le_of_lt (Nat.mul_le_mul_right 43 (Nat.le_of_lt_succ hv)) (by decide)
  have hl : ((List.range (v * 43)).map dec).length ≤ 400 := by rw [List.length_map, List.length_range]; exact Nat.le_of_lt hm
  refine ⟨(List.range (v * 43)).map dec, Y, .asgc (.bi (.cons (.bin (.call (.cons (.loc h1) (.cons .num .nil)) d) .num (.mul (.inr rfl))) .nil) .rng1) (it_rng1 (b := v * 43) (Nat.lt_trans hm (by decide))) (by rw [List.length_map, List.length_range]; exact Nat.le_trans (Nat.le_of_lt hm) (le_szl rfl)) ?_, hl, hY⟩
  rw [sa, List.map_map]
  exact cl_map fun k hk => .bi (.cons (.loc rfl) .nil) (.str (Nat.lt_trans (List.mem_range.mp hk) (Nat.lt_trans hm (by decide))))
/-- the parts of long are told alike -/
theorem law_4 (hR : R.length ≤ 400) (h4 : rd ρ 4 = some (.list (sa R))) : D (n + 1) (.s (nthS ir48 4) ρ τ .next ρ τ) :=
  have hl := Nat.lt_of_le_of_lt hR (by decide : 400 < 400000)
  .if0 (.tcmp (.call (.cons (.loc h4) (.cons .str .nil)) (part_lines (word := wCh) (Nat.le_of_ble_eq_true rfl) hl (.inl rfl))) (.cone (.call (.cons (.loc h4) (.cons .str .nil)) (law_parts (word := wCh) (Nat.le_of_ble_eq_true rfl) hl)) (neR (eqr (self_list self_sa)))))
/-- data -/
theorem law_5 (h : Law S es) (h2 : rd ρ 2 = some (.list (sps S))) (h3 : rd ρ 3 = some (.own 1)) : D (n + 3) (.s (nthS ir48 5) ρ [X, mp es] .next (ρ.set 5 (.bytes (dat S es))) [X, mp es]) :=
  have hf : frozens [.list (sps S), .map (es.map En.kv)] = true := by
    show (frozens (sps S) && (true && true)) = true
    rw [fr_sps]; rfl
  .asg rfl (.call (.cons (new_cmap (.cons (.bi (.cons (.loc h2) .nil) (.list (by rw [sps, List.length_map]; exact b100 h.sl'))) (.cons (.bi (.cons (.loc h3) .nil) (.dict (kvs := es.map En.kv) (by rw [List.length_map]; exact Nat.le_trans h.e.len (by decide)) h.apart)) .nil)) (.same hf) fr_sps) .nil) h.write)
/-- heard -/
theorem law_6 (h : Law S es) (h5 : rd ρ 5 = some (.bytes (dat S es))) : D (n + 8) (.s (nthS ir48 6) ρ τ .next (ρ.set 6 (cmI S ((back (sortE es)).map En.kv))) τ) := .asg rfl (.call (.cons (.loc h5) .nil) h.read)
/-- the same spaces, the same texts -/
theorem law_7 (h : Law S es) (h2 : rd ρ 2 = some (.list (sps S))) (h3 : rd ρ 3 = some (.own 1)) (h6 : rd ρ 6 = some (cmI S ((back (sortE es)).map En.kv))) : D n (.s (nthS ir48 7) ρ [X, mp es] .next ρ [X, mp es]) :=
  .if0 (.tbop (.tbgo (.tcmp (.att (.loc h6) (.inst rfl)) (.cone (.loc h2) (neR (eqr (self_list self_sps))))) (.tbgo (.tcmp (.att (.loc h6) (.inst rfl)) (.cone (.loc h3) (neR h.same))) .tbnil)))
/-- told -/
theorem law_8 (h : Law S es) (h2 : rd ρ 2 = some (.list (sps S))) (h3 : rd ρ 3 = some (.own 1)) (h3' : ρ.getD 3 .undef = .own 1) (h6 : rd ρ 6 = some (cmI S ((back (sortE es)).map En.kv))) : D (n + 1) (.s (nthS ir48 8) ρ [X, mp es] .next ρ [X, mp es]) := by
  have q := told (n := n) (σ := [X, mp es]) (X := back (sortE es)) (Nat.lt_of_le_of_lt h.Bl (by decide)) h.sl' h.Bn
  rw [h.sorts] at q
  exact .if0 (.tcmp (.methI (.loc h6) .nil q) (.cone (e_told h.sl' (Nat.lt_of_le_of_lt h.El (by decide)) (.loc h2) (.bi (.cons (.loc h3) .nil) (sorted_ok' (Nat.lt_of_le_of_lt h.e.len (by decide)))) h3 h3' fun e he =>
    .sub (.loc rfl) (.loc rfl) (.map (lookup_of h.e.nd (sortE_perm.mem_iff.mp he)))) (neR (eqr self_told))))
/-- the law's own rows -/
theorem law_9 (h : Law S es) (h3 : rd ρ 3 = some (.own 1)) : D (n + 2) (.s (nthS ir48 9) ρ [X, mp es] .next ((ρ.set 7 (.list (sa (sgE es)))).set 8 (.list (sa (rgE es)))) [X, mp es]) :=
  .unp (.call (.cons (.loc h3) .nil) (law_rows h.e.good (Nat.lt_of_le_of_lt h.e.len (by decide)) h.e.nd rfl)) rfl
/-- the rows of the spaces -/
theorem law_10 (h : Law S es) (h2 : rd ρ 2 = some (.list (sps S))) : D (n + 1) (.s (nthS ir48 10) ρ τ .next (ρ.set 9 (.list (sa (S.map spRow)))) τ) := by
  refine .asgc (.loc h2) .list (by rw [sps, List.length_map]; exact b100 h.sl') ?_
  rw [sa, List.map_map]
  refine cl_mapT (m := 3) (f := spA) (fun _ => rfl) (by decide) fun s hs => ?_
  have g := h.sg s hs
  have l4 : s.lo.length ≤ 8 := Nat.le_trans g.l4 (by decide)
  have k1 := law_key (n := n) (σ := τ) (len := s.lo.length) (code := valF 0 s.lo) g.l4
  have k2 := law_key (n := n) (σ := τ) (len := s.lo.length) (code := valF 0 s.hi) g.l4
  rw [(octs_val rfl g.lo).1] at k1
  rw [(octs_val g.eq g.hi).1] at k2
  have b1 := hexT_le l4
  exact .bin (.bin (e_lhex (.call (.cons (.tup (.cons (.loc rfl) (.cons (.loc rfl) .nil)) (.same rfl) (le_szl rfl)) .nil) k1) g.lo l4) .str (addS' b1 (Nat.le_refl [32].length) rfl))
    (e_lhex (.call (.cons (.tup (.cons (.loc rfl) (.cons (.loc rfl) .nil)) (.same rfl) (le_szl rfl)) .nil) k2) g.hi (g.eq ▸ l4)) (addS' (len_app b1 (Nat.le_refl [32].length)) (hexT_le (g.eq ▸ l4)) rfl)
theorem Law.lens (h : Law S es) : (S.map spRow).length ≤ 100 ∧ (sgE es).length ≤ 100 ∧ (rgE es).length ≤ 100 :=
  have hp : (prsE (sortE es)).length ≤ 100 := Nat.le_trans pairs_len (Nat.le_trans h.El (by decide))
  ⟨by rw [List.length_map]; exact h.sl', Nat.le_trans sR_len hp, Nat.le_trans rR_len hp⟩
/-- due -/
theorem law_11 (h : Law S es) (h7 : rd ρ 7 = some (.list (sa (sgE es)))) (h8 : rd ρ 8 = some (.list (sa (rgE es)))) (h9 : rd ρ 9 = some (.list (sa (S.map spRow)))) : D (n + 1) (.s (nthS ir48 11) ρ τ .next (ρ.set 10 (.list (sa (dueL S es)))) τ) := by
  obtain ⟨l1, l2, l3⟩ := h.lens
  have lp : ∀ {k : Nat} {R : List (List Nat)} {w : List Nat}, rd ρ k = some (.list (sa R)) → R.length ≤ 100 → Nat.ble w.length 100 = true → D (n + 1) (.e ρ (.call 47 [.loc k, .str w]) τ (.list (sa (parts w R))) τ) := fun hk hR hw =>
    .call (.cons (.loc hk) (.cons .str .nil)) (law_parts (Nat.le_of_ble_eq_true hw) (Nat.lt_of_le_of_lt hR (by decide)))
  have p1 := parts_len (w := wSp) l1
  have p2 := parts_len (w := wCh) l2
  have p3 := parts_len (w := wRg) l3
  exact .asg rfl (.bin (.bin (lp (w := wSp) h9 l1 rfl) (lp (w := wCh) h7 l2 rfl) (addSA (Nat.le_trans (Nat.add_le_add p1 p2) (le_szl rfl)))) (lp (w := wRg) h8 l3 rfl) (addSA (Nat.le_trans (Nat.add_le_add (len_app p1 p2) p3) (le_szl rfl))))
theorem ones_join {l : List Nat} (hl : l.length ≤ szl) : LmR .join [] [.list (l.map fun c => .str [c])] (.str l) := by
  have q : LmR .join [] [.list ((l.map fun c => [c]).map .str)] (.str (joinT [] (l.map fun c => [c]))) := .join (by rw [← List.length_flatten, ones_flat]; exact hl)
  rwa [joinT_nil, ones_flat, List.map_map] at q
/-- lines -/
theorem law_12 (h : Law S es) (h5 : rd ρ 5 = some (.bytes (dat S es))) : D n (.s (nthS ir48 12) ρ τ .next (ρ.set 11 (.list (sa (allL S es)))) τ) := by
  have hok := lines_ok h.sg h.Eg
  have hz : (dat S es).length ≤ szl := Nat.le_trans h.dl (le_szl rfl)
  have q : LmR .split (dat S es) [.str [10]] _ := .split (Nat.lt_of_le_of_lt h.dl (Nat.lt_of_lt_of_le (by decide : 40000 < 100000) (le_szl rfl)))
  rw [dat, split_unl fun l hl c hc => ((hok l hl).ch c hc).2] at q
  exact .asg rfl (.lmS (.lmS .str (.cons (.comp (.loc h5) .bytes (by rw [List.length_map]; exact hz) (cl_map (g := fun c => .str [c]) fun c hc => .bi (.cons (.loc rfl) .nil) (.chr (Nat.lt_trans (unl_lt hok c hc) (by decide))))) .nil) (ones_join hz)) (.cons .str .nil) q)
theorem allL_eq : allL S es = (hd3 ++ hd2) ++ (dueL S es ++ (tl4 ++ [[]])) := by
  rw [allL, lines, dueL, sgE, rgE]
  simp only [List.append_assoc]
theorem law_13 (h : Law S es) (h10 : rd ρ 10 = some (.list (sa (dueL S es)))) (h11 : rd ρ 11 = some (.list (sa (allL S es)))) : D n (.s (nthS ir48 13) ρ τ .next ρ τ) := by
  have hll := lines_len (S := S) (E := sortE es) h.sl' (Nat.lt_of_le_of_lt h.El (by decide))
  have hal : (allL S es).length ≤ 401 := len_app (v := [[]]) (b := 1) hll (Nat.le_refl 1)
  have hae := @allL_eq S es
  have hbl : (dueL S es).length ≤ 401 := by
    rw [hae, List.length_append, List.length_append (as := dueL S es)] at hal
    exact Nat.le_trans (Nat.le_trans (Nat.le_add_right _ _) (Nat.le_add_left _ _)) hal
  generalize dueL S es = R at *
  have hz : (sa (allL S es)).length ≤ szl := by rw [sa_len]; exact Nat.le_trans hal (le_szl rfl)
  have e5 : D n (.e ρ (.bin .Add (.num 5) (.bi .len [.loc 10])) τ (.int ((5 + R.length : Nat) : Int)) τ) := .bin .num (e_lens h10 (Nat.le_trans hbl (le_szl rfl))) .addI
  have e1 : sa (allL S es) = sa (hd3 ++ hd2) ++ (sa R ++ sa (tl4 ++ [[]])) := by rw [hae, sa_app, sa_app (ws := R)]
  have hcut : SlcR (.list (sa (allL S es))) (some ((5 : Nat) : Int)) (some ((5 + R.length : Nat) : Int)) (.list (sa R)) := slc_l hz (cut_both.trans (by
    show ((sa (allL S es)).drop (sa (hd3 ++ hd2)).length).take R.length = _
    rw [e1, List.drop_left, List.take_left' sa_len]))
  have hget : (sa (allL S es))[5 + R.length]? = some (.str [101, 110, 100, 99, 109, 97, 112]) := by
    rw [e1, List.getElem?_append_right (Nat.le_add_right 5 _), show (sa (hd3 ++ hd2)).length = 5 from rfl, Nat.add_sub_cancel_left, List.getElem?_append_right (Nat.le_of_eq sa_len), sa_len, Nat.sub_self]; rfl
  exact .if0 (.tbop (.tbgo (.tcmp (.slc (.loc h11) (.osome .num) (.osome e5) hcut) (.cone (.loc h10) (neR (eqr (self_list self_sa))))) (.tbgo (.tcmp (.sub (.loc h11) e5 (.list hz (.pos rfl) hget)) (.cone .str (neR (eqr self_str)))) .tbnil)))
end
section
variable {n B : Nat} {S : List Sp} {es : List En} {X : OObj} {cells : List Int} {x0 x2 x4 x6 x7 x8 x9 x10 x11 x12 x13 : AV}
/-- the last part: the second of two stands -/
theorem law_14 (h : Law S es) (hX : Pen cells B X) (hc : cells.length ≤ 1000) (hB : B < 1000) : ∃ ρ' σ', D (n + 8) (.ss (ir48.body.drop 14) [x0, .own 0, x2, .own 1, x4, .bytes (dat S es), x6, x7, x8, x9, x10, x11, x12, x13] [X, mp es] (.ret (.bool true)) ρ' σ') := by
  have hz : (es.map En.kv).length ≤ szl := by rw [List.length_map]; exact Nat.le_trans h.e.len (le_szl rfl)
  have ht : TruR (.map (es.map En.kv)) (!(es.map En.kv).isEmpty) := .map hz
  by_cases hes : es = []
  · subst hes
    exact ⟨_, _, .next (.if0 (.tgen rfl (.loc rfl) ht)) (.one (.ret rfl .boo))⟩
  · rw [show (es.map En.kv).isEmpty = false from List.isEmpty_eq_false_iff.mpr fun e => hes (List.map_eq_nil_iff.mp e)] at ht
    have hl0 : es.length ≠ 0 := fun e => hes (List.length_eq_zero_iff.mp e)
    obtain ⟨v, Y, d, hv, -⟩ := draw2 (n := n + 7) (es := es) (many := es.length) hX hc (Nat.lt_trans hB (by decide)) hl0 (Nat.lt_of_le_of_lt h.e.len (by decide))
    have hlen : BiR .len [.map (es.map En.kv)] (.int es.length) := by
      have q : BiR .len [.map (es.map En.kv)] _ := .lenM hz
      rwa [List.length_map] at q
    have hvE : v < (sortE es).length := by rw [sortE_perm.length_eq]; exact hv
    have hat := at_get hvE
    have hmem : at' (sortE es) v ∈ es := sortE_perm.mem_iff.mp (at_mem hvE)
    generalize at' (sortE es) v = e at *
    have g := h.e.good e hmem
    have b1 := hexT_le g.o_len
    have wl := twi_len g
    have wlt : ∀ c ∈ twi e, c < 256 := List.forall_mem_append.mpr ⟨List.forall_mem_append.mpr ⟨by decide, fun c hc => Nat.lt_trans ((hexT_ok octs_lt g.o_len).ch c hc).1 (by decide)⟩, by decide⟩
    have hs : SetiR [Y, mp es] (.str [122]) (.own 1) (.tup (e.key.map .int)) ([Y, mp es].set 1 (.map (putM e.key [122] (es.map En.kv)))) := .map rfl (by rw [List.length_map]; exact Nat.lt_of_le_of_lt h.e.len (Nat.lt_of_lt_of_le (by decide : 42 < 1000) (le_szl rfl)))
    rw [show putM e.key [122] (es.map En.kv) = (putE (zE e) es).map En.kv from (putE_kv (e := zE e)).symm] at hs
    exact ⟨_, _, .stop (.ifT (.tgen rfl (.loc rfl) ht) (.next (.asg rfl (.sub (.bi (.cons (.loc rfl) .nil) (sorted_ok' (Nat.lt_of_le_of_lt h.e.len (by decide)))) (.call (.cons (.loc rfl) (.cons (.bi (.cons (.loc rfl) .nil) hlen) .nil)) d) (.list (by rw [ks, List.length_map]; exact Nat.le_trans h.El (le_szl rfl)) (.pos rfl) (map_at hat))))
      (.next (.asg rfl (.bin (.loc rfl) (.bi (.cons (.comp (.bin (.bin (.str (i := tw1)) (e_lhex (.call (.cons (.loc rfl) .nil) (law_key g.l4)) octs_lt g.o_len) (addS' (Nat.le_refl tw1.length) b1 rfl)) (.str (i := tw2)) (addS' (len_app (Nat.le_refl tw1.length) b1) (Nat.le_refl tw2.length) rfl)) .str (by rw [List.length_map]; exact Nat.le_trans wl (le_szl rfl))
        (cl_map (g := fun (c : Nat) => .int c) fun c hc => .bi (.cons (.loc rfl) .nil) .ord)) .nil) (.bytes wlt (Nat.le_trans wl (le_szl rfl)))) (.addB (by rw [← List.length_append]; exact Nat.le_trans (h.dl2 hmem) (le_szl rfl)))))
        (.next (.seti .str (.loc rfl) (.loc rfl) hs) (.one (.ret rfl (.cmp (.att (.call (.cons (.loc rfl) .nil) (h.read2 hmem)) (.inst rfl)) (.cone (.loc rfl) (.eq (h.same2 hmem)))))))))) rfl⟩
theorem plain_law (ns : List Int) (hns : ns.length ≤ 63) : D 9 (.f 48 [.list (ns.map .int)] [] (.bool true) []) := by
  have hz : (ns.map AV.int).length ≤ szl := by rw [List.length_map]; exact Nat.le_trans hns (le_szl rfl)
  have hcl : (ns.take 40).length ≤ 1000 := Nat.le_trans (List.length_take_le _ _) (by decide)
  have hsl : SlcR (.list (ns.map .int)) none (some ((40 : Nat) : Int)) (.list ((ns.take 40).map .int)) := slc_l hz (cut_to.trans List.map_take.symm)
  generalize ns.take 40 = cells at *
  have hz2 : (cells.map AV.int).length ≤ szl := by rw [List.length_map]; exact Nat.le_trans hcl (le_szl rfl)
  have hf : frozens [.list (cells.map .int), .int 0, .int 0] = true := by
    show (frozens (cells.map .int) && (true && (true && true))) = true
    rw [fr_map fun _ => rfl]; rfl
  obtain ⟨S, Y, d1, hS, hSl, hp1⟩ := law_spaces (n := 6) (σ := [penO cells 0 0]) (j := 0) (X := penO cells 0 0) (B := 0) hcl Nat.one_pos (by decide) (.mk (Nat.le_refl _))
  obtain ⟨es, Z, d2, hes, hp2⟩ := law_chars (n := 6) (σ := [Y]) (j := 0) (X := Y) hcl Nat.one_pos (by decide) hp1
  have h : Law S es := ⟨hS, hSl, hes⟩
  obtain ⟨R, X, d3, hR, hp3⟩ := law_3 (n := 7) (es := es) (ρ := [.list (ns.map .int), .own 0, .list (sps S), .own 1, .undef, .undef, .undef, .undef, .undef, .undef, .undef, .undef, .undef, .undef]) hp2 hcl (by decide) rfl
  obtain ⟨ρ', σ', d14⟩ := law_14 (n := 0) (x0 := .list (ns.map .int)) (x2 := .list (sps S)) (x4 := .list (sa R)) (x6 := cmI S ((back (sortE es)).map En.kv)) (x7 := .list (sa (sgE es))) (x8 := .list (sa (rgE es))) (x9 := .list (sa (S.map spRow))) (x10 := .list (sa (dueL S es))) (x11 := .list (sa (allL S es))) (x12 := .undef) (x13 := .undef) h hp3 hcl (by decide)
  exact .fnT (ir := ir48) (ρ := [.list (ns.map .int), .undef, .undef, .undef, .undef, .undef, .undef, .undef, .undef, .undef, .undef, .undef, .undef, .undef]) rfl rfl rfl rfl
    (.next (.asg rfl (.newl (.cons (.comp (.slc (.loc rfl) .onil (.osome .num) hsl) .list hz2 (cl_map (g := .int) fun a _ => .bi (.cons (.loc rfl) .nil) .int)) (.cons .num (.cons .num .nil))) hf (le_szl rfl)))
      (.next (.asg rfl (.call (.cons (.loc rfl) .nil) d1)) (.next (.asg rfl (.call (.cons (.loc rfl) .nil) d2)) (.next d3 (.next (law_4 hR rfl) (.next (law_5 h rfl rfl) (.next (law_6 h rfl) (.next (law_7 h rfl rfl rfl) (.next (law_8 h rfl rfl rfl rfl)
        (.next (law_9 h rfl) (.next (law_10 h rfl) (.next (law_11 h rfl rfl rfl) (.next (law_12 h rfl) (.next (law_13 h rfl rfl) d14)))))))))))))) rfl rfl
end
noncomputable def clsA : Cls → Addr
  | .cmap => 407 | .cursor => 199
noncomputable def atrs : List Atr := [.data, .at_, .end_, .spaces, .chars]
noncomputable def bis : List BI := [.len, .range, .sorted, .abs, .min, .int, .str, .chr, .ord, .bytes, .list, .dict, .tuple]
noncomputable def clsChk (K : Frag) (a : Addr) : Bool := findIn K (.ref a) "__getattribute__" == some (some (.builtin "object.__getattribute__")) && (findIn K (.ref a) "__getattr__" == some none &&
  (findIn K (.ref a) "__setattr__" == some (some (.builtin "object.__setattr__")) && (plainOver K a && (hasDictIn K a && (makesIn K a && atrs.all fun x => findIn K (.ref a) x.nm == some none)))))
noncomputable def fnChk (K : Frag) (k : Nat) : Bool := match nms.fn k with
  | some x => nsIn K mainGlobals x == some (some (.ref (nms.fa k))) && keepIn K (.ref (nms.fa k))
  | none => true
noncomputable def meChk (K : Frag) (k : Nat) : Bool := match nms.me k with
  | some (c, x) => findIn K (.ref (clsA c)) x == some (some (.ref (nms.fa k))) && (typeIn K (.ref (nms.fa k)) == some (.type "function") && (keepIn K (.ref (nms.fa k)) && atrs.all fun a => !(a.nm == x)))
  | none => true
noncomputable def clChk (K : Frag) (c : Cls) : Bool := nsIn K mainGlobals (nms.cl c) == some (some (.ref (clsA c))) && (keepIn K (.ref (clsA c)) && (findIn K (.ref (clsA c)) "__init__" == some (some (.ref (nms.fa (initOf c)))) && typeIn K (.ref (nms.fa (initOf c))) == some (.type "function")))
noncomputable def avInts : List AV → Option (List Int)
  | [] => some []
  | .int i :: r => (avInts r).map (i :: ·)
  | _ => none
noncomputable def tupChk (xs : List AV) : Option Obj → Bool
  | some ⟨.type T, _, .seq vs _, _⟩ => T == "tuple" && (match avInts xs with
    | some is => intVals is vs.toList
    | none => false)
  | _ => false
noncomputable def repChk (K : Frag) : AV → Value → Bool
  | .int i, .int j _ => i == j
  | .str x, .str y _ => y.cps.toList == x
  | .tup xs, .ref a => tupChk xs (K.lookup a)
  | _, _ => false
noncomputable def glChk (K : Frag) (x : Str) (y : AV) : Bool := match nsIn K mainGlobals x with
  | some (some v) => repChk K y v
  | _ => false
noncomputable def okAt (K : Frag) (k : Nat) : Bool := match irs[k]? with
  | some ir => okFn K k ir
  | none => true
/-- seven functions -/
noncomputable def okC (K : Frag) (c : Nat) : Bool := (List.range' (c * 7) 7).all (okAt K)
/-- what is asked of the program's heap -/
structure Facts (K : Frag) : Prop where
  o0 : okC K 0 = true
  o1 : okC K 1 = true
  o2 : okC K 2 = true
  o3 : okC K 3 = true
  o4 : okC K 4 = true
  o5 : okC K 5 = true
  o6 : okC K 6 = true
  cls : (clsChk K (clsA .cmap) && clsChk K (clsA .cursor)) = true
  fn : ((List.range 49).all (fnChk K)) = true
  me : ((List.range 49).all (meChk K)) = true
  cl : (clChk K .cmap && clChk K .cursor) = true
  bi : (bis.all fun b => nsIn K mainGlobals b.nm == some none) = true
  isi : (nsIn K mainGlobals "isinstance" == some none) = true
  gl : ((List.range 24).all fun g => glChk K (nms.gl g) (glG g)) = true

theorem cls_all {f : Cls → Bool} (h : (f .cmap && f .cursor) = true) (c : Cls) : f c = true := by
  cases c with
  | cmap => exact and_l h
  | cursor => exact and_r h
theorem atr_in (a : Atr) : a ∈ atrs := by cases a <;> decide
theorem bi_in (b : BI) : b ∈ bis := by
  cases b <;> first | exact .head _ | exact .tail _ (.head _) | exact .tail _ (.tail _ (.head _)) | exact .tail _ (.tail _ (.tail _ (.head _))) | exact .tail _ (.tail _ (.tail _ (.tail _ (.head _)))) | exact .tail _ (.tail _ (.tail _ (.tail _ (.tail _ (.head _))))) | exact .tail _ (.tail _ (.tail _ (.tail _ (.tail _ (.tail _ (.head _)))))) | exact .tail _ (.tail _ (.tail _ (.tail _ (.tail _ (.tail _ (.tail _ (.head _))))))) | exact .tail _ (.tail _ (.tail _ (.tail _ (.tail _ (.tail _ (.tail _ (.tail _ (.head _)))))))) | exact .tail _ (.tail _ (.tail _ (.tail _ (.tail _ (.tail _ (.tail _ (.tail _ (.tail _ (.head _))))))))) | exact .tail _ (.tail _ (.tail _ (.tail _ (.tail _ (.tail _ (.tail _ (.tail _ (.tail _ (.tail _ (.head _)))))))))) | exact .tail _ (.tail _ (.tail _ (.tail _ (.tail _ (.tail _ (.tail _ (.tail _ (.tail _ (.tail _ (.tail _ (.head _))))))))))) | exact .tail _ (.tail _ (.tail _ (.tail _ (.tail _ (.tail _ (.tail _ (.tail _ (.tail _ (.tail _ (.tail _ (.tail _ (.head _))))))))))))
theorem join_lt {α : Type} {l : List (Option α)} {f : Nat} {x : α} (h : (l[f]?).join = some x) : f < l.length := by
  cases e : l[f]? with
  | none => rw [e] at h; cases h
  | some y => exact get_lt e
theorem avInts_is : ∀ {xs : List AV} {is : List Int}, avInts xs = some is → xs = is.map .int
  | [], is, h => by cases h; rfl
  | .int i :: r, is, h => by
    obtain ⟨is', h', rfl⟩ := Option.map_eq_some_iff.mp h
    exact congrArg (AV.int i :: ·) (avInts_is h')
theorem repChk_of {C : SC} {x : AV} {v : Value} (h : repChk C.K x v = true) : Rep C C.H [] x v := by
  cases x with
  | int i => cases v <;> first | exact ff h | exact eq_of_beq (show (i == _) = true from h) ▸ RInt.mk _
  | str x => cases v <;> first | exact ff h | exact eq_of_beq (show (Array.toList _ == x) = true from h) ▸ RStr.mk _
  | tup xs =>
    cases v with
    | ref a =>
      have h : tupChk xs (C.K.lookup a) = true := h
      cases e : C.K.lookup a with
      | none => rw [e] at h; exact ff h
      | some o =>
        rw [e] at h
        obtain ⟨c, dd, d, sl⟩ := o
        cases c with
        | type T =>
          cases d with
          | seq vs n =>
            have h1 := eq_of_beq (and_l h)
            have h2 := and_r h
            cases e2 : avInts xs with
            | none => rw [e2] at h2; exact ff h2
            | some is =>
              rw [e2] at h2
              rw [avInts_is e2]
              exact RSeq.mk a vs.toList ⟨_, C.X _ _ e, h1 ▸ rfl, n, rfl⟩ (intVals_of h2)
          | _ => exact ff h
        | _ => exact ff h
    | _ => exact ff h
  | _ => exact ff h
theorem static_of {C : SC} (F : Facts C.K) (hc : C.cls = clsA) : Static C where
  cls c := by
    have h : clsChk C.K (C.cls c) = true := hc ▸ cls_all (f := fun c => clsChk C.K (clsA c)) F.cls c
    have h2 := and_r h; have h3 := and_r h2; have h4 := and_r h3; have h5 := and_r h4; have h6 := and_r h5
    exact ⟨eq_of_beq (and_l h), eq_of_beq (and_l h2), eq_of_beq (and_l h3), and_l h4, and_l h5, fun a => eq_of_beq (List.all_eq_true.mp (and_r h6) a (atr_in a)), and_l h6⟩
  glob g := by
    have key : glChk C.K (nms.gl g) (glG g) = true := by
      rcases Nat.lt_or_ge g 24 with h | h
      · exact List.all_eq_true.mp F.gl g (List.mem_range.mpr h)
      · have e1 : nms.gl g = nms.gl 23 := by
          show glN.getD g _ = glN.getD 23 _
          rw [List.getD_eq_getElem?_getD, List.getElem?_eq_none (Nat.le_trans (show glN.length ≤ 24 from Nat.le_of_ble_eq_true rfl) h)]; rfl
        have e2 : glG g = glG 23 := by
          show glV.getD g _ = glV.getD 23 _
          rw [List.getD_eq_getElem?_getD, List.getElem?_eq_none (Nat.le_trans (show glV.length ≤ 24 from Nat.le_of_ble_eq_true rfl) h)]; rfl
        rw [e1, e2]
        exact List.all_eq_true.mp F.gl 23 (List.mem_range.mpr (by decide))
    unfold glChk at key
    split at key
    · exact ⟨_, ‹_›, repChk_of key⟩
    · cases key
  fn f x hf := by
    have h := List.all_eq_true.mp F.fn f (List.mem_range.mpr (join_lt (l := fnN) hf))
    unfold fnChk at h
    rw [hf] at h
    exact ⟨eq_of_beq (and_l h), and_r h⟩
  me f c x hf := by
    have h := List.all_eq_true.mp F.me f (List.mem_range.mpr (join_lt (l := meN) hf))
    unfold meChk at h
    rw [hf] at h
    have h2 := and_r h; have h3 := and_r h2
    rw [hc]
    exact ⟨eq_of_beq (and_l h), eq_of_beq (and_l h2), and_l h3, fun a e => by
      have q := List.all_eq_true.mp (and_r h3) a (atr_in a)
      rw [e, beq_self_eq_true] at q; cases q⟩
  cl c := by
    have h := cls_all (f := clChk C.K) F.cl c
    have h2 := and_r h; have h3 := and_r h2
    rw [hc]
    exact ⟨eq_of_beq (and_l h), and_l h2, eq_of_beq (and_l h3), eq_of_beq (and_r h3)⟩
  bi b := eq_of_beq (List.all_eq_true.mp F.bi b (bi_in b))
  isi := eq_of_beq F.isi
  srt := sorted_ok C
  dct := dict_ok C
  meq := mapEq_ok C
  lm := lm_ok C
theorem prog_ok {K : Frag} (F : Facts K) (f : Nat) (ir : FnIR) (h : irs[f]? = some ir) : okFn K f ir = true := by
  have hf : f / 7 < 7 := Nat.div_lt_of_lt_mul (get_lt h)
  have hall : ∀ c, c < 7 → okC K c = true
    | 0, _ => F.o0 | 1, _ => F.o1 | 2, _ => F.o2 | 3, _ => F.o3 | 4, _ => F.o4 | 5, _ => F.o5 | 6, _ => F.o6
    | n + 7, h => absurd h (Nat.not_lt.mpr (Nat.le_add_left 7 n))
  have q := List.all_eq_true.mp (hall _ hf) f (List.mem_range'_1.mpr ⟨Nat.div_mul_le_self f 7, Nat.lt_div_mul_add (by decide)⟩)
  unfold okAt at q
  rw [h] at q
  exact q
theorem ints_repL {C : SC} {g : Heap} : ∀ {vs : List Value} {ns : List Int}, IntsAre vs ns → RepL C g [] (ns.map .int) vs
  | _, _, .nil => rfl
  | _, _, .cons i t h => RCons.mk _ _ (RInt.mk t) (ints_repL h)
theorem run_law {w : World} {s₁ : Shared} {mg mb : Str → Option Value} {p : Program} {loose : List Str} {prog' : Program} {a fa : Addr} {vs : List Value} {ns : List Int} {K : Frag} (F : Facts K) (hcond : ns.length ≤ 63)
    (KX : K.In s₁.heap) (T : TopRead p loose mg mb s₁.heap) (hfa : mg "law" = some (.ref fa)) (hl : s₁.heap.IsList a vs.toArray) (hI : IntsAre vs ns) :
    codeAny (model prog' w) callerA (.call (.ref fa) ⟨[.ref a], []⟩) (fun o s' => o = .ok (.ret (.bool true)) ∧ (∃ h t, s' = { s₁ with heap := h, toks := t }) ∧ ∀ b ob, s₁.heap.get? b = some ob → s'.heap.get? b = some ob) s₁ := by
  let C : SC := ⟨prog', w, K, s₁.heap, p, loose, mg, mb, KX, T, clsA⟩
  have S : Static C := static_of F rfl
  have hfa2 : mg "law" = some (.ref (nms.fa 48)) := mg_of KX T.g (S.fn 48 "law" rfl).1
  cases hfa.symm.trans hfa2
  have k0 : OK C [] s₁ [] [] := ⟨Sub.refl _, (fun _ h => nomatch h), (fun _ h => nomatch h), (fun _ h => nomatch h), rfl, (fun _ _ _ _ _ h => nomatch h), fun _ _ _ h => nomatch h⟩
  have q : SemF C 9 48 [.list (ns.map .int)] [] (.bool true) [] := D_ok S (prog_ok F) (plain_law ns hcond)
  obtain ⟨ol, ho, hq⟩ := hl
  refine codeAny_mono (q (A := callerA) (vs := [.ref a]) ⟨rfl, by decide +kernel, by decide +kernel⟩ k0 (RCons.mk _ _ (RSeq.mk a vs ⟨ol, gv_get ho (fun h => nomatch h) (fun h => nomatch h), hq⟩ (ints_repL hI)) rfl)) fun o s2 z2 => ?_
  obtain ⟨v, rfl, as', k', t', r'⟩ := z2
  cases (r' : v = .bool true)
  exact ⟨rfl, t'.same, fun b ob e => t'.keep b ob (fun h => nomatch h) (fun h => nomatch h) e⟩
set_option Elab.async true in
set_option maxRecDepth 100000 in
set_option maxHeartbeats 8000000 in
theorem top : PySem.Challenge.rw_nn0151_01.Holds := by
  (w_on; o_law; k_head; (case hw => w_witness2))
  k_fill
  intro w s₀ s₁ mg mb G Y fa o pm cd doc dV kV ho hd hcd hD hmg hg args vals as hpre hlay hrd hwl hlo
  have KX := kIn_of Y
  have hmg' := hmg
  have X := (Ground.X G).1
  have V := (Ground.X G).2
  refine Ground.open G ?_
  intro T B D TE TW
  clear D
  obtain ⟨_, _, M⟩ := bmod_of_top T
  have TA := at_of_top T
  clear hmg
  wrow_args hpre hlay hrd hwl hlo
  refine enter_call ?_
  rename_i ns _ _ _ _ _ _ a vs _ hl _ _ _ hI _ hcond _
  refine codeAny_mono (run_law ⟨by as_aux_lemma => kernel_rfl, by as_aux_lemma => kernel_rfl, by as_aux_lemma => kernel_rfl, by as_aux_lemma => kernel_rfl, by as_aux_lemma => kernel_rfl, by as_aux_lemma => kernel_rfl, by as_aux_lemma => kernel_rfl, by as_aux_lemma => kernel_rfl, by as_aux_lemma => kernel_rfl, by as_aux_lemma => kernel_rfl, by as_aux_lemma => kernel_rfl, by as_aux_lemma => kernel_rfl, by as_aux_lemma => kernel_rfl, by as_aux_lemma => kernel_rfl⟩ (by omega) KX (topRead_of T) hmg' hl hI) fun o s2 z2 => ?_
  refine GoodW.toG ?_
  obtain ⟨rfl, ⟨h, t, rfl⟩, hk⟩ := z2
  refine ⟨.inl ⟨_, .bool true, [], rfl, ?_, ReadsW.bool _, ?_, fun _ => ⟨List.nodup_nil, fun _ h => nomatch h⟩⟩, hk, rfl, hg⟩
  · intro cls
    first | rfl | (cases cls <;> rfl) | kernel_rfl
  · first | rfl | kernel_rfl
end Mine
theorem PySem.Challenge.cw_nn0151_01_holds : PySem.Challenge.rw_nn0151_01.Holds :=
  Mine.top
