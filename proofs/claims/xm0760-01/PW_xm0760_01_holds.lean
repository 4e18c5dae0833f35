import PyProof.Rows.All
import Wide.All
import OpenK.AllK
import Wide.FinOn
import PySem.Challenge.RW_xm0760_01
open PySem PySem.W PySem.Spec PySem.Calls PyProof.Rows
namespace Mine
/- names taken ahead: the head's own constants get no twin under them (a twin of each would be 240 MB) -/
theorem top.tw2601905985415302144 : True := trivial
theorem top.tw11582926029173025856 : True := trivial
theorem top.tw984902984118615328 : True := trivial
theorem top.tw13370185576492129568 : True := trivial
theorem top.tw15542334942015070624 : True := trivial
theorem top.tw13160728816969591200 : True := trivial
theorem top.tw14168018189251442112 : True := trivial
theorem top.tw4597200072644226624 : True := trivial
theorem top.tw2417791160451022400 : True := trivial
theorem top.tw1732150942055357024 : True := trivial
theorem top.tw7847650389618582240 : True := trivial
theorem top.tw3474246075231452896 : True := trivial
theorem top.tw17953984050398360512 : True := trivial
theorem top.tw2847958352784047137 : True := trivial
theorem top.tw9666326922614434849 : True := trivial
theorem top.tw17795014544551873601 : True := trivial
theorem top.tw9953747333497923681 : True := trivial
theorem top.tw1400011881503588481 : True := trivial
theorem top.tw7213333562754528385 : True := trivial
theorem top.tw8507776931139520737 : True := trivial
theorem top.tw2770563814800254177 : True := trivial
theorem top.tw1068965626710143233 : True := trivial
theorem top.tw4859757453598101857 : True := trivial
theorem top.tw1584292188352093569 : True := trivial
theorem top.tw18289109515434150305 : True := trivial
theorem top.tw13985988839938425345 : True := trivial
theorem top.tw15177526630643400193 : True := trivial
theorem top.tw11377482038585738817 : True := trivial
theorem top.tw11045010717311733409 : True := trivial
theorem top.tw3696473221133414273 : True := trivial
theorem top.tw10005945817407372193 : True := trivial
theorem top.tw5303079699428457377 : True := trivial
theorem top.tw9272544492142499777 : True := trivial
theorem top.tw4856909995586565122 : True := trivial
theorem top.tw5647976800219259906 : True := trivial
theorem top.tw15508944514630427714 : True := trivial
theorem top.tw2029088862249889922 : True := trivial
theorem top.tw5552270689369575618 : True := trivial
theorem top.tw728428047077509346 : True := trivial
theorem top.tw3217022616335106338 : True := trivial
theorem top.tw16580785732701462914 : True := trivial
theorem top.tw13922054642007902626 : True := trivial
theorem top.tw3767615275625035234 : True := trivial
theorem top.tw1291508964198565346 : True := trivial
theorem top.tw17545328352263074274 : True := trivial
theorem top.tw1016984595167383106 : True := trivial
theorem top.tw11620634932572840514 : True := trivial
theorem top.tw15254643099363442306 : True := trivial
theorem top.tw15823732540823425666 : True := trivial
theorem top.tw7538252964068480738 : True := trivial
theorem top.tw4392038535549328194 : True := trivial
theorem top.tw17103177528636943170 : True := trivial
theorem top.tw16878204669230926818 : True := trivial
theorem top.tw2988451766255067171 : True := trivial
theorem top.tw14263998999751124003 : True := trivial
theorem top.tw8321918168302905379 : True := trivial
theorem top.tw2665807947273092163 : True := trivial
theorem top.tw14235281626263879747 : True := trivial
theorem top.tw9503340733035011235 : True := trivial
theorem top.tw10414433010598505635 : True := trivial
theorem top.tw8311017846404947139 : True := trivial
theorem top.tw6756868429301003459 : True := trivial
theorem top.tw6761616313442571491 : True := trivial
theorem top.tw4010397242664982755 : True := trivial
theorem top.tw15696354942287192291 : True := trivial
theorem top.tw15073315481182737699 : True := trivial
theorem top.tw15687709949711836451 : True := trivial
theorem top.tw1212798325632107971 : True := trivial
theorem top.tw17474498911051797155 : True := trivial
theorem top.tw14632489290957082403 : True := trivial
theorem top.tw15740088241188596515 : True := trivial
theorem top.tw14796646475526232899 : True := trivial
theorem top.tw13305523845174962083 : True := trivial
theorem top.tw1297684725254868899 : True := trivial
theorem top.tw16054190913257422852 : True := trivial
theorem top.tw14608685727046917156 : True := trivial
theorem top.tw6292954644110606532 : True := trivial
theorem top.tw12787338502077490372 : True := trivial
theorem top.tw15212760480394562756 : True := trivial
theorem top.tw16734371015571099844 : True := trivial
theorem top.tw13710211086531791108 : True := trivial
theorem top.tw10694878333477680388 : True := trivial
theorem top.tw401921906979044612 : True := trivial
theorem top.tw14987219478266130788 : True := trivial
theorem top.tw7033079012710635876 : True := trivial
theorem top.tw7817637940432870852 : True := trivial
theorem top.tw12764151676501842404 : True := trivial
theorem top.tw370947364307004932 : True := trivial
theorem top.tw12483720753089274532 : True := trivial
theorem top.tw13896958669275611876 : True := trivial
theorem top.tw814325599930780420 : True := trivial
theorem top.tw7671549972530922468 : True := trivial
theorem top.tw4656485037274611717 : True := trivial
theorem top.tw15646934709686841381 : True := trivial
theorem top.tw6505410396798821541 : True := trivial
theorem top.tw4691186174975459493 : True := trivial
theorem top.tw3796891538752321733 : True := trivial
theorem top.tw8892184565913893157 : True := trivial
theorem top.tw9227541089923242437 : True := trivial
theorem top.tw3976154599441133093 : True := trivial
theorem top.tw81815255157605957 : True := trivial
theorem top.tw196536941598035525 : True := trivial
theorem top.tw8212240652046128837 : True := trivial
theorem top.tw9059832203979395877 : True := trivial
theorem top.tw17033825039287860005 : True := trivial
theorem top.tw9685713192446186341 : True := trivial
theorem top.tw8363718466572441477 : True := trivial
theorem top.tw3669314199184481253 : True := trivial
theorem top.tw10006222313960134694 : True := trivial
theorem top.tw4840481374290595910 : True := trivial
theorem top.tw16736118626332596326 : True := trivial
theorem top.tw12879618353801967718 : True := trivial
theorem top.tw6520327441239513222 : True := trivial
theorem top.tw13501252493785611398 : True := trivial
theorem top.tw3140898538269762758 : True := trivial
theorem top.tw297971269722091814 : True := trivial
theorem top.tw6749217079512962374 : True := trivial
theorem top.tw8435561252592420358 : True := trivial
theorem top.tw5969682004907312646 : True := trivial
theorem top.tw8640399195822439974 : True := trivial
theorem top.tw14042817526060737062 : True := trivial
theorem top.tw18186074749648716422 : True := trivial
theorem top.tw8420165910927482534 : True := trivial
theorem top.tw1736530178072539846 : True := trivial
theorem top.tw7715697345341360870 : True := trivial
theorem top.tw9614876229902214918 : True := trivial
theorem top.tw14526540143163920134 : True := trivial
theorem top.tw4835499133494076262 : True := trivial
theorem top.tw14671331368771545958 : True := trivial
theorem top.tw5860347150701562758 : True := trivial
theorem top.tw2506305409684761478 : True := trivial
theorem top.tw8679839319945467846 : True := trivial
theorem top.tw10467260515200827399 : True := trivial
theorem top.tw3195968871104189447 : True := trivial
theorem top.tw11189890337720088615 : True := trivial
theorem top.tw860223938195835975 : True := trivial
theorem top.tw11459358961799972967 : True := trivial
theorem top.tw953821971998124167 : True := trivial
theorem top.tw12256363837256957063 : True := trivial
theorem top.tw8043003576528973991 : True := trivial
theorem top.tw53344730913325255 : True := trivial
theorem top.tw11443710868159068359 : True := trivial
theorem top.tw1697544655201012999 : True := trivial
theorem top.tw6459276657848829223 : True := trivial
theorem top.tw9759319705405543751 : True := trivial
theorem top.tw2731995056826638727 : True := trivial
theorem top.tw14214845130331304391 : True := trivial
theorem top.tw9165953624949470791 : True := trivial
theorem top.tw12545222027267286695 : True := trivial
theorem top.tw6883741973766446791 : True := trivial
theorem top.tw1209819496270969543 : True := trivial
theorem top.tw10864713392326063847 : True := trivial
theorem top.tw13968125046926948103 : True := trivial
theorem top.tw775762912060472103 : True := trivial
theorem top.tw12819366960792805191 : True := trivial
theorem top.tw13385244156195431271 : True := trivial
theorem top.tw3581848524822189991 : True := trivial
theorem top.tw2859833716702649255 : True := trivial
theorem top.tw12317137736924338119 : True := trivial
theorem top.tw7657828476027519975 : True := trivial
theorem top.tw5244899138074338376 : True := trivial
theorem top.tw3484022092364678248 : True := trivial
theorem top.tw16982378080980825192 : True := trivial
theorem top.tw14615657086365298920 : True := trivial
theorem top.tw16439428074185983240 : True := trivial
theorem top.tw708234853630380328 : True := trivial
theorem top.tw3261557481417251176 : True := trivial
theorem top.tw4205137553216949640 : True := trivial
theorem top.tw18063644159110109576 : True := trivial
theorem top.tw83393220934416808 : True := trivial
theorem top.tw6370870915552960936 : True := trivial
theorem top.tw1486479319815781832 : True := trivial
theorem top.tw12622177474791663080 : True := trivial
theorem top.tw16414630628198896168 : True := trivial
theorem top.tw12638030207367898728 : True := trivial
theorem top.tw10648311167861321448 : True := trivial
theorem top.tw2249405535684624136 : True := trivial
theorem top.tw594810645892935528 : True := trivial
theorem top.tw517144808224063464 : True := trivial
theorem top.tw13177472732611162249 : True := trivial
theorem top.tw15878805988109762761 : True := trivial
theorem top.tw10548783162686979305 : True := trivial
theorem top.tw15860264024139754761 : True := trivial
theorem top.tw3909029901177050473 : True := trivial
theorem top.tw2580922434103091657 : True := trivial
theorem top.tw6786057226368545225 : True := trivial
theorem top.tw15569959144833144457 : True := trivial
theorem top.tw13290321428070320777 : True := trivial
theorem top.tw16782997733028217545 : True := trivial
theorem top.tw8637452081102412489 : True := trivial
theorem top.tw7845129631348957993 : True := trivial
theorem top.tw9326722878772556681 : True := trivial
theorem top.tw3378803678994701225 : True := trivial
theorem top.tw17788931634197215145 : True := trivial
theorem top.tw516228168201391017 : True := trivial
theorem top.tw4671429814451907529 : True := trivial
theorem top.tw7855079511596107753 : True := trivial
theorem top.tw10915162052029792233 : True := trivial
theorem top.tw2770239361232196585 : True := trivial
theorem top.tw8622502720953521162 : True := trivial
theorem top.tw9990226795618131978 : True := trivial
theorem top.tw2732273902793177162 : True := trivial
theorem top.tw8729362747519067210 : True := trivial
theorem top.tw3315250197877816394 : True := trivial
theorem top.tw9059672392935016618 : True := trivial
theorem top.tw12166907935582030026 : True := trivial
theorem top.tw10187724287525710026 : True := trivial
theorem top.tw8523463495250067690 : True := trivial
theorem top.tw7204493036743257322 : True := trivial
theorem top.tw14317375437502057738 : True := trivial
theorem top.tw9233715247699887402 : True := trivial
theorem top.tw5058314954733539658 : True := trivial
theorem top.tw6885214360128481674 : True := trivial
theorem top.tw501154541418245514 : True := trivial
theorem top.tw14372152842798730730 : True := trivial
theorem top.tw15976228082101565994 : True := trivial
theorem top.tw2369445192022557226 : True := trivial
theorem top.tw8184561461823581802 : True := trivial
theorem top.tw17085176360113175178 : True := trivial
theorem top.tw9919435345466941130 : True := trivial
theorem top.tw7717162694582976202 : True := trivial
theorem top.tw17469865338272021226 : True := trivial
theorem top.tw13889309363888878346 : True := trivial
theorem top.tw16068562728529669930 : True := trivial
theorem top.tw1142465760834251562 : True := trivial
theorem top.tw1655259298481077034 : True := trivial
theorem top.tw1321871150748368714 : True := trivial
theorem top.tw9951221954081769418 : True := trivial
theorem top.tw5513142621748847562 : True := trivial
theorem top.tw14248925298954806443 : True := trivial
theorem top.tw13370750898655102155 : True := trivial
theorem top.tw4828031223510198475 : True := trivial
theorem top.tw8598144960395782539 : True := trivial
theorem top.tw6431110157172167083 : True := trivial
theorem top.tw13706816188851595723 : True := trivial
theorem top.tw6430265229019958763 : True := trivial
theorem top.tw7587601194962177611 : True := trivial
theorem top.tw6674990990233134667 : True := trivial
theorem top.tw16415559393655328363 : True := trivial
theorem top.tw10252623693936335467 : True := trivial
theorem top.tw13272337422414781067 : True := trivial
theorem top.tw1522322319653140107 : True := trivial
theorem top.tw8140125068956082859 : True := trivial
theorem top.tw956942650209027819 : True := trivial
theorem top.tw7673058066778466091 : True := trivial
theorem top.tw9962302188120564619 : True := trivial
theorem top.tw9233335307524088747 : True := trivial
theorem top.tw10871174231137468428 : True := trivial
theorem top.tw9227057690007400460 : True := trivial
theorem top.tw15744752440731449612 : True := trivial
theorem top.tw2443449257678562572 : True := trivial
theorem top.tw5609151216138764652 : True := trivial
theorem top.tw17046948494117081484 : True := trivial
theorem top.tw3331421620988305804 : True := trivial
theorem top.tw3969286963782609292 : True := trivial
theorem top.tw5240762971458559404 : True := trivial
theorem top.tw6333448901615975916 : True := trivial
theorem top.tw9195894827357321740 : True := trivial
theorem top.tw93012567124736588 : True := trivial
theorem top.tw11542710104232473196 : True := trivial
theorem top.tw17781115878593249900 : True := trivial
theorem top.tw3254097082911018636 : True := trivial
theorem top.tw12958664272152378060 : True := trivial
theorem top.tw4951766788466123468 : True := trivial
theorem top.tw16240068400928781132 : True := trivial
theorem top.tw13987285891283452908 : True := trivial
theorem top.tw14453841093610474573 : True := trivial
theorem top.tw2165817408578904141 : True := trivial
theorem top.tw13822267516522204269 : True := trivial
theorem top.tw16174758807025615021 : True := trivial
theorem top.tw7527032243904285869 : True := trivial
theorem top.tw17135812771915316397 : True := trivial
theorem top.tw3846862658102513837 : True := trivial
theorem top.tw16352630495959832749 : True := trivial
theorem top.tw17555251805378815213 : True := trivial
theorem top.tw1112988674713690477 : True := trivial
theorem top.tw15125931889511115149 : True := trivial
theorem top.tw4047667213573674445 : True := trivial
theorem top.tw18062624165398249997 : True := trivial
theorem top.tw10774637447528242797 : True := trivial
theorem top.tw283044589724301 : True := trivial
theorem top.tw4940147422707163885 : True := trivial
theorem top.tw1814787853859245837 : True := trivial
theorem top.tw12080426169559351053 : True := trivial
theorem top.tw17964300760807480141 : True := trivial
theorem top.tw8265191368974092141 : True := trivial
theorem top.tw672699306608606093 : True := trivial
theorem top.tw10574840078274726829 : True := trivial
theorem top.tw661290744650703789 : True := trivial
theorem top.tw12427389293880184781 : True := trivial
theorem top.tw13191473780850816973 : True := trivial
theorem top.tw14502225709538309166 : True := trivial
theorem top.tw6203543418390704334 : True := trivial
theorem top.tw2809488002615124206 : True := trivial
theorem top.tw8472579005086612782 : True := trivial
theorem top.tw12209182163369298222 : True := trivial
theorem top.tw15451780782824253742 : True := trivial
theorem top.tw7297446738713254254 : True := trivial
theorem top.tw5476889619067714990 : True := trivial
theorem top.tw2544169868661182894 : True := trivial
theorem top.tw12894197372075662830 : True := trivial
theorem top.tw2462062305354472974 : True := trivial
theorem top.tw1142415686869020238 : True := trivial
theorem top.tw15240379268576122478 : True := trivial
theorem top.tw1803303928475200142 : True := trivial
theorem top.tw6124053682588569230 : True := trivial
theorem top.tw14611434983143301774 : True := trivial
theorem top.tw17542608870123051758 : True := trivial
theorem top.tw10362775142378211054 : True := trivial
theorem top.tw15299407806266782574 : True := trivial
theorem top.tw12718909917080609646 : True := trivial
theorem top.tw15503665604740900718 : True := trivial
theorem top.tw12958502747184954254 : True := trivial
theorem top.tw15985961358823992270 : True := trivial
theorem top.tw5938664839603501006 : True := trivial
theorem top.tw17176029603704830031 : True := trivial
theorem top.tw11334350811105764591 : True := trivial
theorem top.tw1638113669730673903 : True := trivial
theorem top.tw1123975283337734383 : True := trivial
theorem top.tw14697636140705633519 : True := trivial
theorem top.tw17565814175750979855 : True := trivial
theorem top.tw8560541052185303311 : True := trivial
theorem top.tw381845443943030031 : True := trivial
theorem top.tw16900427199656544559 : True := trivial
theorem top.tw4655869559712951663 : True := trivial
theorem top.tw13326734554550294991 : True := trivial
theorem top.tw9913501989792142831 : True := trivial
theorem top.tw16809779246217341487 : True := trivial
theorem top.tw11779653239440661071 : True := trivial
theorem top.tw9590735534726013551 : True := trivial
theorem top.tw11145643937294416527 : True := trivial
theorem top.tw2103985501979894447 : True := trivial
theorem top.tw8369368087495890639 : True := trivial
theorem top.tw5581607755468803823 : True := trivial
theorem top.tw46980244435833615 : True := trivial
theorem top.tw10567129059001840431 : True := trivial
theorem top.tw10296497611174029103 : True := trivial
theorem top.tw2126296398998916975 : True := trivial
theorem top.tw352232786441526191 : True := trivial
theorem top.tw1040915598704419856 : True := trivial
theorem top.tw4186445540838780016 : True := trivial
theorem top.tw1843344800811705456 : True := trivial
theorem top.tw12392516345856041104 : True := trivial
theorem top.tw6893477703608230032 : True := trivial
theorem top.tw390997316461189296 : True := trivial
theorem top.tw11982747722937265360 : True := trivial
theorem top.tw3664424711883983056 : True := trivial
theorem top.tw8538268897159353584 : True := trivial
theorem top.tw7414872774492366064 : True := trivial
theorem top.tw10276331973627342096 : True := trivial
theorem top.tw104434173382791472 : True := trivial
theorem top.tw8735323631387419056 : True := trivial
theorem top.tw16044733080236030384 : True := trivial
theorem top.tw7444641836354208208 : True := trivial
theorem top.tw17576949682797635024 : True := trivial
theorem top.tw2752453847809088016 : True := trivial
theorem top.tw602653604445443664 : True := trivial
theorem top.tw2968346561183084112 : True := trivial
theorem top.tw14537839394382259888 : True := trivial
theorem top.tw7600245330811189008 : True := trivial
theorem top.tw15095372191486117680 : True := trivial
theorem top.tw12342655685612074800 : True := trivial
theorem top.tw14861896470697024400 : True := trivial
theorem top.tw4383139521930768336 : True := trivial
theorem top.tw8393700709775954928 : True := trivial
theorem top.tw7429413206186439793 : True := trivial
theorem top.tw2926424126403749041 : True := trivial
theorem top.tw3820434133910038737 : True := trivial
theorem top.tw18086089286151905521 : True := trivial
theorem top.tw10996937224433265937 : True := trivial
theorem top.tw8547604310838440241 : True := trivial
theorem top.tw7250933059871147345 : True := trivial
theorem top.tw8297286125493194097 : True := trivial
theorem top.tw14597223018079223185 : True := trivial
theorem top.tw8823455108540655025 : True := trivial
theorem top.tw7913636548009798097 : True := trivial
theorem top.tw17828378304095215089 : True := trivial
theorem top.tw8204474986945543665 : True := trivial
theorem top.tw11457754044182789617 : True := trivial
theorem top.tw9305691244287143441 : True := trivial
theorem top.tw2835187731363253809 : True := trivial
theorem top.tw8693662901424576113 : True := trivial
theorem top.tw1706793611546318481 : True := trivial
theorem top.tw9166809390415177425 : True := trivial
theorem top.tw5225153198818245361 : True := trivial
theorem top.tw2446451932059125521 : True := trivial
theorem top.tw9335426496214029073 : True := trivial
theorem top.tw2822501910515967889 : True := trivial
theorem top.tw4076138812419527698 : True := trivial
theorem top.tw12564220515667953714 : True := trivial
theorem top.tw908825868028484722 : True := trivial
theorem top.tw987869383939708018 : True := trivial
theorem top.tw9259421805112917234 : True := trivial
theorem top.tw2287362676942042354 : True := trivial
theorem top.tw3855276242980373810 : True := trivial
theorem top.tw15877122091014420850 : True := trivial
theorem top.tw2907113945770861938 : True := trivial
theorem top.tw14657780768301432306 : True := trivial
theorem top.tw16866024460163772082 : True := trivial
theorem top.tw132903981291199154 : True := trivial
theorem top.tw427420600052151026 : True := trivial
theorem top.tw8645369167282567922 : True := trivial
theorem top.tw705360758644809490 : True := trivial
theorem top.tw14399976873020721970 : True := trivial
theorem top.tw3357215229441099570 : True := trivial
theorem top.tw10987319290404115282 : True := trivial
theorem top.tw12540527436937284434 : True := trivial
theorem top.tw10090393231696489298 : True := trivial
theorem top.tw8025738503920905074 : True := trivial
theorem top.tw16550210197400561554 : True := trivial
theorem top.tw2619622883677149074 : True := trivial
theorem top.tw8148004212497801138 : True := trivial
theorem top.tw4699463449715708850 : True := trivial
theorem top.tw1483126911874232274 : True := trivial
theorem top.tw16795567611416646642 : True := trivial
theorem top.tw887695700811335699 : True := trivial
theorem top.tw4571971715460732019 : True := trivial
theorem top.tw5507162329139097715 : True := trivial
theorem top.tw9229161468869434483 : True := trivial
theorem top.tw2007660962349395123 : True := trivial
theorem top.tw16204670001084760307 : True := trivial
theorem top.tw13432635357386499347 : True := trivial
theorem top.tw11141966352661209427 : True := trivial
theorem top.tw5088376156974544275 : True := trivial
theorem top.tw11133666699803404755 : True := trivial
theorem top.tw6662652255960138227 : True := trivial
theorem top.tw729201693064108563 : True := trivial
theorem top.tw5398424786039705171 : True := trivial
theorem top.tw1275901062530889299 : True := trivial
theorem top.tw13420762306968818387 : True := trivial
theorem top.tw877433047237710547 : True := trivial
theorem top.tw9843949296442739443 : True := trivial
theorem top.tw12117888159696746259 : True := trivial
theorem top.tw5278709424875269971 : True := trivial
theorem top.tw7160873610591055699 : True := trivial
theorem top.tw8874702517807110003 : True := trivial
theorem top.tw1492452104121835379 : True := trivial
theorem top.tw7743179893348639699 : True := trivial
theorem top.tw2758071753971750899 : True := trivial
theorem top.tw12643491718579748851 : True := trivial
theorem top.tw4526881389914513428 : True := trivial
theorem top.tw1676862907878916244 : True := trivial
theorem top.tw15918733279669447828 : True := trivial
theorem top.tw16509065781470453940 : True := trivial
theorem top.tw13975414291046593716 : True := trivial
theorem top.tw12415523145999629524 : True := trivial
theorem top.tw1394568958698188020 : True := trivial
theorem top.tw9442318146202087700 : True := trivial
theorem top.tw84136930442132756 : True := trivial
theorem top.tw9407396174263392564 : True := trivial
theorem top.tw7799483888651840948 : True := trivial
theorem top.tw7079599612431449588 : True := trivial
theorem top.tw17022078359063049780 : True := trivial
theorem top.tw8800459187187324500 : True := trivial
theorem top.tw11760055953109336660 : True := trivial
theorem top.tw1617357707322924660 : True := trivial
theorem top.tw1284575025550258836 : True := trivial
theorem top.tw12535971307161669396 : True := trivial
theorem top.tw11922380849998532372 : True := trivial
theorem top.tw16759092144687519636 : True := trivial
theorem top.tw6694047246710070196 : True := trivial
theorem top.tw6265701101103706036 : True := trivial
theorem top.tw13983857475226248213 : True := trivial
theorem top.tw5225916559131626549 : True := trivial
theorem top.tw4784893810139332661 : True := trivial
theorem top.tw10577272966987657301 : True := trivial
theorem top.tw2686433634493928565 : True := trivial
theorem top.tw4796303294375832693 : True := trivial
theorem top.tw2924597203103170677 : True := trivial
theorem top.tw11994683656316670133 : True := trivial
theorem top.tw13047834502658803893 : True := trivial
theorem top.tw7008692893051332821 : True := trivial
theorem top.tw10562855833978642645 : True := trivial
theorem top.tw18374746225686918389 : True := trivial
theorem top.tw4791253341166991637 : True := trivial
theorem top.tw3739144386018749749 : True := trivial
theorem top.tw13549259019975226677 : True := trivial
theorem top.tw11960245374511038805 : True := trivial
theorem top.tw1988063486488863061 : True := trivial
theorem top.tw11334203419191126389 : True := trivial
theorem top.tw7386116660499605909 : True := trivial
theorem top.tw2220570432770164149 : True := trivial
theorem top.tw4213018616267185653 : True := trivial
theorem top.tw11203750815551599093 : True := trivial
theorem top.tw72247145696351765 : True := trivial
theorem top.tw16034636559557993077 : True := trivial
theorem top.tw10797620697341660853 : True := trivial
theorem top.tw864819663365544661 : True := trivial
theorem top.tw10242591131026960117 : True := trivial
theorem top.tw13345470168829271861 : True := trivial
theorem top.tw9854310039474760501 : True := trivial
theorem top.tw5196900775432865589 : True := trivial
theorem top.tw350670483859837877 : True := trivial
theorem top.tw18367679650794681301 : True := trivial
theorem top.tw17342085116792181814 : True := trivial
theorem top.tw8813761850579938390 : True := trivial
theorem top.tw9800703332001039478 : True := trivial
theorem top.tw13044034144603486326 : True := trivial
theorem top.tw8265311939077410998 : True := trivial
theorem top.tw8054331753737935190 : True := trivial
theorem top.tw17346259052997144950 : True := trivial
theorem top.tw5648408011753718230 : True := trivial
theorem top.tw4736427724481360342 : True := trivial
theorem top.tw15362295582089109014 : True := trivial
theorem top.tw9366391650621772374 : True := trivial
theorem top.tw15638586536077026902 : True := trivial
theorem top.tw15169761463676818070 : True := trivial
theorem top.tw8694864300669457046 : True := trivial
theorem top.tw1195175773429642966 : True := trivial
theorem top.tw4166218997396506358 : True := trivial
theorem top.tw3584897518013459382 : True := trivial
theorem top.tw6438537300738474071 : True := trivial
theorem top.tw11053662475850362967 : True := trivial
theorem top.tw14466935161476858967 : True := trivial
theorem top.tw17492772389151264855 : True := trivial
theorem top.tw620129878449983639 : True := trivial
theorem top.tw7458633546980236471 : True := trivial
theorem top.tw16885616592811714743 : True := trivial
theorem top.tw3712731000106771831 : True := trivial
theorem top.tw7381879191629600215 : True := trivial
theorem top.tw3120133295221510679 : True := trivial
theorem top.tw9576743257966636567 : True := trivial
theorem top.tw2312856594315299383 : True := trivial
theorem top.tw16264823338695392855 : True := trivial
theorem top.tw4299629679881509495 : True := trivial
theorem top.tw15349318334595610263 : True := trivial
theorem top.tw8143265674769528471 : True := trivial
theorem top.tw8139039716903228087 : True := trivial
theorem top.tw12012865196380796599 : True := trivial
theorem top.tw15722756333993289495 : True := trivial
theorem top.tw3561193834555079511 : True := trivial
theorem top.tw11520865232209809239 : True := trivial
theorem top.tw5868845118606482295 : True := trivial
theorem top.tw5245862010334584759 : True := trivial
theorem top.tw4331257952254489624 : True := trivial
theorem top.tw17594962761535629368 : True := trivial
theorem top.tw9843447840031818808 : True := trivial
theorem top.tw10008474027749305400 : True := trivial
theorem top.tw11199710921928265848 : True := trivial
theorem top.tw1139600151236580504 : True := trivial
theorem top.tw18134043772397237400 : True := trivial
theorem top.tw681777741448182936 : True := trivial
theorem top.tw6383614241601562808 : True := trivial
theorem top.tw2812155379371279736 : True := trivial
theorem top.tw16262243036561855896 : True := trivial
theorem top.tw4498253355057717688 : True := trivial
theorem top.tw18326957874037197240 : True := trivial
theorem top.tw4551080515912023512 : True := trivial
theorem top.tw9768079942903668216 : True := trivial
theorem top.tw2617719716777270872 : True := trivial
theorem top.tw8810280945414196856 : True := trivial
theorem top.tw8237333600419904120 : True := trivial
theorem top.tw6746510453823603384 : True := trivial
theorem top.tw16713831800681072344 : True := trivial
theorem top.tw6572447435987645144 : True := trivial
theorem top.tw2617181576586992344 : True := trivial
theorem top.tw3995942328266245912 : True := trivial
theorem top.tw17886615442053742456 : True := trivial
theorem top.tw9516688046558066552 : True := trivial
theorem top.tw2722852734226103192 : True := trivial
theorem top.tw15245507539482535896 : True := trivial
theorem top.tw5889316905344633881 : True := trivial
theorem top.tw6908635100366463001 : True := trivial
theorem top.tw16273406610938067001 : True := trivial
theorem top.tw17030962893124633753 : True := trivial
theorem top.tw2596539476470345881 : True := trivial
theorem top.tw4695670854781333657 : True := trivial
theorem top.tw10001883323181062329 : True := trivial
theorem top.tw13359135706311490777 : True := trivial
theorem top.tw15799541711010589177 : True := trivial
theorem top.tw8327351992414209593 : True := trivial
theorem top.tw17741875731164886585 : True := trivial
theorem top.tw14349089067433371257 : True := trivial
theorem top.tw18394268562011335289 : True := trivial
theorem top.tw8620165645458168473 : True := trivial
theorem top.tw3874152929960365753 : True := trivial
theorem top.tw795583310449317561 : True := trivial
theorem top.tw17735899436944072409 : True := trivial
theorem top.tw11466170419677230873 : True := trivial
theorem top.tw16325430554902658873 : True := trivial
theorem top.tw16196420915677631385 : True := trivial
theorem top.tw1147548669246485465 : True := trivial
theorem top.tw5176459694589498394 : True := trivial
theorem top.tw11199532085631943738 : True := trivial
theorem top.tw9743097575036673082 : True := trivial
theorem top.tw7681529838311687354 : True := trivial
theorem top.tw10079171474624433434 : True := trivial
theorem top.tw1047907039808853306 : True := trivial
theorem top.tw411662067469150650 : True := trivial
theorem top.tw17807222030613408314 : True := trivial
theorem top.tw5105846836358774362 : True := trivial
theorem top.tw1108800333578037850 : True := trivial
theorem top.tw8912170899635468890 : True := trivial
theorem top.tw5702910450625016506 : True := trivial
theorem top.tw7215319984434753242 : True := trivial
theorem top.tw16420938139371093754 : True := trivial
theorem top.tw3143785405151724282 : True := trivial
theorem top.tw6075534854705499898 : True := trivial
theorem top.tw12105128591322288922 : True := trivial
theorem top.tw17219337458794519322 : True := trivial
theorem top.tw1886144042066472794 : True := trivial
theorem top.tw12379415707883124570 : True := trivial
theorem top.tw2675166985342186458 : True := trivial
theorem top.tw4773702212245658779 : True := trivial
theorem top.tw12559286593441436923 : True := trivial
theorem top.tw17089494485692210459 : True := trivial
theorem top.tw17981982808018919739 : True := trivial
theorem top.tw995497684801637723 : True := trivial
theorem top.tw4250876409542091131 : True := trivial
theorem top.tw16896751376397280635 : True := trivial
theorem top.tw5970215366352900667 : True := trivial
theorem top.tw4134505453457115739 : True := trivial
theorem top.tw3422688185749166683 : True := trivial
theorem top.tw16800595933775061595 : True := trivial
theorem top.tw3337584539547039419 : True := trivial
theorem top.tw7059692629156357883 : True := trivial
theorem top.tw11858546649754279707 : True := trivial
theorem top.tw9152664641465651067 : True := trivial
theorem top.tw6127594578889010139 : True := trivial
theorem top.tw13120753694373217308 : True := trivial
theorem top.tw13134186033006778460 : True := trivial
theorem top.tw11334415319851112604 : True := trivial
theorem top.tw3465488137227279516 : True := trivial
theorem top.tw5523086135645875356 : True := trivial
theorem top.tw6912233166142098652 : True := trivial
theorem top.tw18245740138792012028 : True := trivial
theorem top.tw15286249088069653756 : True := trivial
theorem top.tw2377541652452675900 : True := trivial
theorem top.tw11593399256984752444 : True := trivial
theorem top.tw14826035006057030972 : True := trivial
theorem top.tw13928562000808390012 : True := trivial
theorem top.tw11577829705659331004 : True := trivial
theorem top.tw18200808041648558556 : True := trivial
theorem top.tw1869187583165140508 : True := trivial
theorem top.tw12376051458212225564 : True := trivial
theorem top.tw13802547742096326172 : True := trivial
theorem top.tw4321519831107876412 : True := trivial
theorem top.tw8689318265317240412 : True := trivial
theorem top.tw10195997230039290492 : True := trivial
theorem top.tw4807692442873511580 : True := trivial
theorem top.tw13890846271309207196 : True := trivial
theorem top.tw16453443671601555132 : True := trivial
theorem top.tw216529984938456764 : True := trivial
theorem top.tw15361541807878343388 : True := trivial
theorem top.tw1124271682379634556 : True := trivial
theorem top.tw18034075008235765660 : True := trivial
theorem top.tw3776753064480771068 : True := trivial
theorem top.tw4547018644641229820 : True := trivial
theorem top.tw11240886729373846589 : True := trivial
theorem top.tw1186331607622873149 : True := trivial
theorem top.tw2782073688633401757 : True := trivial
theorem top.tw668136137496459709 : True := trivial
theorem top.tw2057334267981633021 : True := trivial
theorem top.tw5692499903750754813 : True := trivial
theorem top.tw17355269125676882429 : True := trivial
theorem top.tw13899568491130100285 : True := trivial
theorem top.tw7325726471975496349 : True := trivial
theorem top.tw11430207588045935325 : True := trivial
theorem top.tw18177719399980262173 : True := trivial
theorem top.tw3730354652608582461 : True := trivial
theorem top.tw12609604535291364189 : True := trivial
theorem top.tw11423202765487971197 : True := trivial
theorem top.tw1833847959688406909 : True := trivial
theorem top.tw47109162367338493 : True := trivial
theorem top.tw14901070454687303710 : True := trivial
theorem top.tw13091174067606910046 : True := trivial
theorem top.tw14851680436948445374 : True := trivial
theorem top.tw2555065506035805374 : True := trivial
theorem top.tw14747140909534839006 : True := trivial
theorem top.tw8968299171318014206 : True := trivial
theorem top.tw6930518751129746686 : True := trivial
theorem top.tw9361663168868926718 : True := trivial
theorem top.tw12904532413392791838 : True := trivial
theorem top.tw10579768621468169598 : True := trivial
theorem top.tw4046864289407762814 : True := trivial
theorem top.tw9108098604805947806 : True := trivial
theorem top.tw2878843996050045342 : True := trivial
theorem top.tw6859976401760118174 : True := trivial
theorem top.tw10956490626425055710 : True := trivial
theorem top.tw788273225186049534 : True := trivial
theorem top.tw5118827330378232414 : True := trivial
theorem top.tw3486219094355674750 : True := trivial
theorem top.tw17783859843131274014 : True := trivial
theorem top.tw105208000716104510 : True := trivial
theorem top.tw5983031951866500094 : True := trivial
theorem top.tw15058813355848621054 : True := trivial
theorem top.tw2267912224990424062 : True := trivial
theorem top.tw14371913498598963198 : True := trivial
theorem top.tw14390669486469195807 : True := trivial
theorem top.tw5738303106652476479 : True := trivial
theorem top.tw1754339480302792767 : True := trivial
theorem top.tw7990429038631628895 : True := trivial
theorem top.tw11173010173815179391 : True := trivial
theorem top.tw2464713573024523455 : True := trivial
theorem top.tw13852830345959847167 : True := trivial
theorem top.tw18085771088847121727 : True := trivial
theorem top.tw2502181453436431679 : True := trivial
theorem top.tw11584198869435930015 : True := trivial
theorem top.tw11279390925490393535 : True := trivial
theorem top.tw14762295962024373759 : True := trivial
theorem top.tw5766051744304087583 : True := trivial
theorem top.tw2514443458684651071 : True := trivial
theorem top.tw6448850889433096767 : True := trivial
theorem top.tw13167462122316868159 : True := trivial
theorem top.tw12762922103008790111 : True := trivial
theorem top.tw8345894832289464959 : True := trivial
theorem top.tw17582957951858275007 : True := trivial
theorem top.tw8999917154711486175 : True := trivial
theorem top.tw649594095290182367 : True := trivial
theorem top.tw8170299122808406783 : True := trivial
theorem top.tw13369591340354186047 : True := trivial
theorem top.tw3207569582813703071 : True := trivial
theorem top.tw5839659824258004927 : True := trivial
theorem top.tw7436774141650363327 : True := trivial
theorem top.tw3548060758652744671 : True := trivial
theorem top.tw7205523548520102528 : True := trivial
theorem top.tw4056573560341054690 : True := trivial
theorem top.tw9143552886667351555 : True := trivial
theorem top.tw649111842878565636 : True := trivial
theorem top.tw11386003804874399013 : True := trivial
theorem top.tw5830406356053589288 : True := trivial
theorem top.tw5113250205824216904 : True := trivial
theorem top.tw4335235751029319853 : True := trivial
theorem top.tw1306697619066116301 : True := trivial
theorem top.tw17756597512981354157 : True := trivial
theorem top.tw3444080539646611822 : True := trivial
theorem top.tw4196208812311914735 : True := trivial
theorem top.tw8756551941217200625 : True := trivial
theorem top.tw17100286645176912914 : True := trivial
theorem top.tw1789128720303423218 : True := trivial
theorem top.tw4347014868162816628 : True := trivial
theorem top.tw17912322529849362164 : True := trivial
theorem top.tw2644727805214041557 : True := trivial
theorem top.tw9465367173253082677 : True := trivial
theorem top.tw5597187220613765494 : True := trivial
theorem top.tw3180438532700378233 : True := trivial
theorem top.tw1755079325251021529 : True := trivial
theorem top.tw4905193454434980730 : True := trivial
theorem top.tw6232382023020714460 : True := trivial
theorem top.tw5434309568573575005 : True := trivial
theorem top.tw8077755077468877343 : True := trivial
theorem top.tw16541100652227675460 : True := trivial
theorem top.tw2269083381554657112 : True := trivial
theorem top.tw5155950481276406077 : True := trivial
theorem top.tw16862539386359650817 : True := trivial
theorem top.tw3407781021037958245 : True := trivial
theorem top.tw8613191699965854469 : True := trivial
theorem top.tw4679113272110176390 : True := trivial
theorem top.tw909434713344708518 : True := trivial
theorem top.tw13167192345115511175 : True := trivial
theorem top.tw744000052038691335 : True := trivial
theorem top.tw17877137644468897259 : True := trivial
theorem top.tw1939193152317599660 : True := trivial
theorem top.tw4899455088041399469 : True := trivial
theorem top.tw11204274270748810449 : True := trivial
theorem top.tw10720975761010774513 : True := trivial
theorem top.tw6430154061909389201 : True := trivial
theorem top.tw1703601967441896915 : True := trivial
theorem top.tw5310043010015706899 : True := trivial
theorem top.tw294160598199564215 : True := trivial
theorem top.tw13256294585660503160 : True := trivial
theorem top.tw4875118773001301240 : True := trivial
theorem top.tw11546936639936008217 : True := trivial
theorem top.tw13609902449971354875 : True := trivial
theorem top.tw16368619182151815931 : True := trivial
theorem top.tw15718433085373156347 : True := trivial
theorem top.tw9856439691420976444 : True := trivial
theorem top.tw4573992634560951390 : True := trivial
theorem top.tw2837373999431856959 : True := trivial
theorem top.tw18064794426631996164 : True := trivial
theorem top.tw9704015187773890804 : True := trivial
def tok : Prop := True
theorem keepB {P Q : Prop} (_ : P) (m : Q) : Q := m
theorem use_top (_ : PySem.Challenge.rw_xm0760_01.Holds) : tok = True := eq_true (trivial : True)
set_option linter.unusedSimpArgs false in
set_option Elab.async true in
set_option maxRecDepth 100000 in
set_option maxHeartbeats 8000000 in
theorem top : tok := by
  clear top
  simp -failIfUnchanged (disch := (k_dflt (refine' keepB ?holeWalk9 ?main; (case main => as_aux_lemma => (w_on; o_law; as_aux_lemma => (k_head; (case hw => w_witness2); exact ?holeWalk9)))))) only [use_top]
  exact (trivial : True)
end Mine
set_option Elab.async false
set_option linter.unusedVariables false
set_option linter.unusedSimpArgs false
set_option maxRecDepth 100000
namespace Mine
local macro_rules | `(tactic| walk_at $k:str) => `(tactic| k_extra $k)

section
noncomputable abbrev Lo : List Str := looseW _root_.Mine.top.view_1_40 [Str.ofString "AGGREGATES", Str.ofString "is_aggregate", Str.ofString "collation_of"]
noncomputable abbrev KK (w : World) : Frag := _root_.Mine.top.heap_1_39 w.params
noncomputable abbrev MM (w : World) : Model := model PySem.Challenge.rw_xm0760_01.row.prog w

noncomputable def Ct (w : World) (H : Heap) (f : Addr) (vs : List Value) (d u : Nat) (tn : List (Addr × Obj)) (R : Heap → Value → Prop) : Prop :=
  ∀ (mean : ExcName → Option Value) (mg mb : Str → Option Value) (dp un : Nat) (gd : Option (List Code)) (cn : Str) (cs : Scope) (a : Addr) (ccd : Value) (cl : List (Str × Addr)) (outer : List Env) (A₀ : Around) (base h₀ : Heap) (L : Addr)
    (m : Str → Option Value) (s : Shared) (Q E : Value → Shared → Prop), s.heap = H →
    Below A₀ base outer h₀ → Fr h₀ L s.heap m → (_root_.Mine.top.heap_1_39 w.params).In h₀ → News h₀ L s.heap tn → Top _root_.Mine.top.view_1_40 Lo mean mg mb h₀ → cs.kind = .function → dp + d < recursionLimit → un + u < cLine →
    (∀ r h' tk', R h' r → Q r { s with heap := h', toks := tk' }) →
    wpAny (model PySem.Challenge.rw_xm0760_01.row.prog w) (ktrTop dp un gd cn cs L a ccd cl outer) (call (.ref f) vs) Q E s

theorem room0 {d K R : Nat} (h : d + K < R) : d < R := Nat.lt_of_le_of_lt (Nat.le_add_right _ _) h
theorem roomA {d a b K R : Nat} (h : d + K < R) (e : Nat.ble (a + b) K = true) : d + a + b < R := by
  have := Nat.le_of_ble_eq_true e; omega
theorem roomI {d a c n K R : Nat} (h : d + (c * (n + 1) + K) < R) (e : Nat.ble a c = true) : d + a + (c * n + K) < R := by
  have := Nat.le_of_ble_eq_true e
  have e2 : c * (n + 1) = c * n + c := Nat.mul_succ c n
  omega
theorem kpred {k n : Int} (h : k = n + 1) : k - 1 = n := by omega
theorem roomT {d a c t T k K R : Nat} (h : d + K < R) (ht : t ≤ T) (e : Nat.ble (a + (c * T + k)) K = true) : d + a + (c * t + k) < R := by
  have := Nat.le_of_ble_eq_true e
  have := Nat.mul_le_mul_left c ht
  omega
theorem roomM {d a c n t k K R : Nat} (h : d + (c * n + K) < R) (ht : t ≤ n) (e : Nat.ble (a + k) K = true) : d + a + (c * t + k) < R := by
  have := Nat.le_of_ble_eq_true e
  have := Nat.mul_le_mul_left c ht
  omega
end
section
inductive Cl where
  | lit | name | var | un | bin | betw | inl | insel | ex | scal | case | call | cast | coll | isn | mat
  deriving DecidableEq
noncomputable def Cl.addr : Cl → Nat
  | .lit => 112 | .name => 138 | .var => 164 | .un => 190 | .bin => 216 | .betw => 242 | .inl => 268 | .insel => 294 | .ex => 320 | .scal => 346 | .case => 370 | .call => 396 | .cast => 422 | .coll => 448 | .isn => 474 | .mat => 500
inductive Kd where
  | var | sub | insel | agg | pass | plain
  | name (c : Str)
  | coll (w : Str)
  deriving DecidableEq
inductive T where
  | mk (a : Addr) (k : Kd) (cs : List T)
noncomputable def T.addr : T → Addr
  | .mk a _ _ => a
inductive Wd where
  | variable | select
  | name (a : Addr)
  | collate (w : Str)
  | opn (a : Addr)
  | cls (a : Addr)

mutual
noncomputable def depthT : T → Nat
  | .mk _ _ cs => depthL cs + 1
noncomputable def depthL : List T → Nat
  | [] => 0
  | t :: r => max (depthT t) (depthL r)
end
mutual
noncomputable def wordsT : T → List Wd
  | .mk a k cs => match k with
    | .var => [.variable]
    | .sub => [.select]
    | .name _ => [.name a]
    | .coll w => .collate w :: wordsL cs
    | .insel => .select :: wordsL cs
    | .agg => .opn a :: (wordsL cs ++ [.cls a])
    | .pass => wordsL cs
    | .plain => wordsL cs
noncomputable def wordsL : List T → List Wd
  | [] => []
  | t :: r => wordsT t ++ wordsL r
end
mutual
noncomputable def explT : T → Option Str
  | .mk _ k cs => match k with
    | .coll w => some w
    | .var | .sub | .name _ => none
    | _ => explL cs
noncomputable def explL : List T → Option Str
  | [] => none
  | t :: r => (explT t).or (explL r)
end
noncomputable def colT : T → Option Str
  | .mk _ k cs => match k, cs with
    | .name c, _ => some c
    | .pass, [t] => colT t
    | _, _ => none
mutual
noncomputable def hasVarT : T → Bool
  | .mk _ k cs => match k with
    | .var => true
    | .sub | .name _ => false
    | _ => hasVarL cs
noncomputable def hasVarL : List T → Bool
  | [] => false
  | t :: r => hasVarT t || hasVarL r
end
mutual
noncomputable def hasSubT : T → Bool
  | .mk _ k cs => match k with
    | .sub | .insel => true
    | .var | .name _ => false
    | _ => hasSubL cs
noncomputable def hasSubL : List T → Bool
  | [] => false
  | t :: r => hasSubT t || hasSubL r
end
mutual
noncomputable def namesT : T → List Addr
  | .mk a k cs => match k with
    | .name _ => [a]
    | .var | .sub => []
    | _ => namesL cs
noncomputable def namesL : List T → List Addr
  | [] => []
  | t :: r => namesT t ++ namesL r
end
mutual
noncomputable def aggsT : T → List Addr
  | .mk a k cs => match k with
    | .agg => [a]
    | .var | .sub | .name _ => []
    | _ => aggsL cs
noncomputable def aggsL : List T → List Addr
  | [] => []
  | t :: r => aggsT t ++ aggsL r
end

noncomputable def Wd.coll? : Wd → Option Str
  | .collate w => some w
  | _ => none
noncomputable def Wd.name? : Wd → Option Addr
  | .name a => some a
  | _ => none
noncomputable def Wd.isVar : Wd → Bool
  | .variable => true
  | _ => false
noncomputable def Wd.isSel : Wd → Bool
  | .select => true
  | _ => false
noncomputable def outer : Int → List Wd → List Addr × Int
  | d, [] => ([], d)
  | d, .opn a :: r => let (l, e) := outer (d + 1) r; (if d = 0 then a :: l else l, e)
  | d, .cls _ :: r => outer (d - 1) r
  | d, _ :: r => outer d r

theorem outer_append : ∀ (l r : List Wd) (d : Int), outer d (l ++ r) = ((outer d l).1 ++ (outer (outer d l).2 r).1, (outer (outer d l).2 r).2)
  | [], r, d => by simp [outer]
  | w :: l, r, d => by
    cases w <;> simp only [List.cons_append, outer, outer_append l r] <;> split <;> simp

mutual
theorem outer_T : ∀ (t : T) (d : Int), 0 ≤ d → outer d (wordsT t) = (if d = 0 then aggsT t else [], d)
  | .mk a k cs, d, hd => by
    have h := outer_L cs d hd
    have h1 := outer_L cs (d + 1) (by omega)
    cases k <;> simp only [wordsT, aggsT, outer, h, ite_self]
    rw [outer_append, h1, if_neg (show ¬ d + 1 = 0 by omega)]
    simp only [outer, List.append_nil]
    have : d + 1 - 1 = d := by omega
    rw [this]
theorem outer_L : ∀ (ts : List T) (d : Int), 0 ≤ d → outer d (wordsL ts) = (if d = 0 then aggsL ts else [], d)
  | [], d, _ => by simp [wordsL, aggsL, outer]
  | t :: r, d, hd => by
    simp only [wordsL, aggsL]
    rw [outer_append, outer_T t d hd]
    rw [outer_L r d hd]
    by_cases h : d = 0 <;> simp [h]
end
theorem first_append (l r : List Wd) : ((l ++ r).filterMap Wd.coll?).head? = ((l.filterMap Wd.coll?).head?).or ((r.filterMap Wd.coll?).head?) := by
  rw [List.filterMap_append, List.head?_append]
mutual
theorem expl_T : ∀ t : T, ((wordsT t).filterMap Wd.coll?).head? = explT t
  | .mk a k cs => by
    have h := expl_L cs
    cases k <;> simp only [wordsT, explT, List.filterMap_cons, Wd.coll?, List.filterMap_nil, List.head?_nil, List.head?_cons, h]
    rw [List.filterMap_append]
    simp only [List.filterMap_cons, Wd.coll?, List.filterMap_nil, List.append_nil, h]
theorem expl_L : ∀ ts : List T, ((wordsL ts).filterMap Wd.coll?).head? = explL ts
  | [] => rfl
  | t :: r => by
    simp only [wordsL, explL]
    rw [first_append, expl_T t, expl_L r]
end
mutual
theorem var_T : ∀ t : T, (wordsT t).any Wd.isVar = hasVarT t
  | .mk a k cs => by
    have h := var_L cs
    cases k <;> simp [wordsT, hasVarT, Wd.isVar, h]
theorem var_L : ∀ ts : List T, (wordsL ts).any Wd.isVar = hasVarL ts
  | [] => rfl
  | t :: r => by simp only [wordsL, hasVarL, List.any_append, var_T t, var_L r]
end
mutual
theorem sel_T : ∀ t : T, (wordsT t).any Wd.isSel = hasSubT t
  | .mk a k cs => by
    have h := sel_L cs
    cases k <;> simp [wordsT, hasSubT, Wd.isSel, h]
theorem sel_L : ∀ ts : List T, (wordsL ts).any Wd.isSel = hasSubL ts
  | [] => rfl
  | t :: r => by simp only [wordsL, hasSubL, List.any_append, sel_T t, sel_L r]
end
mutual
theorem names_T : ∀ t : T, (wordsT t).filterMap Wd.name? = namesT t
  | .mk a k cs => by
    have h := names_L cs
    cases k <;> simp [wordsT, namesT, Wd.name?, h, List.filterMap_cons, List.filterMap_append]
theorem names_L : ∀ ts : List T, (wordsL ts).filterMap Wd.name? = namesL ts
  | [] => rfl
  | t :: r => by simp only [wordsL, namesL, List.filterMap_append, names_T t, names_L r]
end
theorem outer_len : ∀ (l : List Wd) (d : Int), (outer d l).1.length ≤ l.length
  | [], d => by simp [outer]
  | w :: l, d => by
    have h1 := outer_len l d
    have h2 := outer_len l (d + 1)
    have h3 := outer_len l (d - 1)
    cases w <;> simp only [outer, List.length_cons] <;> (try split) <;> (try simp only [List.length_cons]) <;> omega
theorem names_len (t : T) : (namesT t).length ≤ (wordsT t).length := by rw [← names_T]; exact List.length_filterMap_le ..
theorem aggs_len (t : T) : (aggsT t).length ≤ (wordsT t).length := by
  have h := outer_T t 0 (by omega)
  have h2 := outer_len (wordsT t) 0
  rw [h] at h2
  simpa using h2
end
section
abbrev Led := List (Addr × Obj)
abbrev Kn := Addr → Obj → Prop
abbrev inL (W : Kn) : Kn := fun a o => W a (o)
abbrev atH (h : Heap) : Kn := fun a o => h.get? a = some o
abbrev tupO (vs : List Value) (n : Nat) : Obj := { cls := .type "tuple", data := .seq vs.toArray n }
noncomputable def foldC (c : Nat) : Nat := if 65 ≤ c ∧ c ≤ 90 then c + 32 else c
noncomputable def foldS (x : Str) : Str := ⟨(x.cps.toList.map foldC).toArray⟩
noncomputable def aggTab : List (Str × Int × Int) := [(Str.ofString "count", 0, 1), (Str.ofString "group_concat", 1, 2), (Str.ofString "max", 1, 1), (Str.ofString "min", 1, 1), (Str.ofString "sum", 1, 1), (Str.ofString "total", 1, 1)]
noncomputable def aggF (f : Str) (k : Int) (star : Bool) : Bool := if star then f == Str.ofString "count" else match aggTab.lookup f with
  | some (lo, hi) => decide (lo ≤ k) && decide (k ≤ hi)
  | none => false
noncomputable def foldedNames : List Str := [Str.ofString "count", Str.ofString "sum", Str.ofString "total", Str.ofString "group_concat", Str.ofString "min", Str.ofString "max", Str.ofString "abs", Str.ofString "coalesce", Str.ofString "none", Str.ofString "changes"]
noncomputable def colls : List Str := [Str.ofString "binary", Str.ofString "nocase", Str.ofString "rtrim"]

inductive NodeIn (W : Kn) : Addr → Cl → Kd → List Value → Prop
  | lit {x d : Addr} {od : Obj} : W x (instObj 112 d) → W d (od) → NodeIn W x .lit .plain []
  | var {x d : Addr} {od : Obj} : W x (instObj 164 d) → W d (od) → NodeIn W x .var .var []
  | scal {x d : Addr} {od : Obj} : W x (instObj 346 d) → W d (od) → NodeIn W x .scal .sub []
  | ex {x d : Addr} {od : Obj} : W x (instObj 320 d) → W d (od) → NodeIn W x .ex .sub []
  | name {x d : Addr} {h1 h2 h3 h4 h5 h6 h7 : Int} {t1 t2 t3 t4 t5 t6 t7 t : Tok} {v1 v2 v3 v4 v5 v6 : Value} {c : Str} {n : Nat} : W x (instObj 138 d) →
      W d (dictOf [⟨h1, .str (Str.ofString "table") t1, v1⟩, ⟨h2, .str (Str.ofString "column") t2, v2⟩, ⟨h3, .str (Str.ofString "source") t3, v3⟩, ⟨h4, .str (Str.ofString "place") t4, v4⟩, ⟨h5, .str (Str.ofString "depth") t5, v5⟩, ⟨h6, .str (Str.ofString "affinity") t6, v6⟩, ⟨h7, .str (Str.ofString "collation") t7, .str c t⟩] n) →
      NodeIn W x .name (.name c) []
  | coll {x d a : Addr} {h1 h2 : Int} {t1 t2 t : Tok} {w : Str} {n : Nat} : W x (instObj 448 d) →
      W d (dictOf [⟨h1, .str (Str.ofString "value") t1, .ref a⟩, ⟨h2, .str (Str.ofString "collation") t2, .str w t⟩] n) → w.cps.size ≤ 100 → NodeIn W x .coll (.coll (foldS w)) [.ref a]
  | cast {x d a : Addr} {h1 h2 : Int} {t1 t2 : Tok} {v : Value} {n : Nat} : W x (instObj 422 d) →
      W d (dictOf [⟨h1, .str (Str.ofString "value") t1, .ref a⟩, ⟨h2, .str (Str.ofString "type_name") t2, v⟩] n) → NodeIn W x .cast .pass [.ref a]
  | un {x d a : Addr} {h1 h2 : Int} {t1 t2 t : Tok} {o : Str} {n : Nat} : W x (instObj 190 d) →
      W d (dictOf [⟨h1, .str (Str.ofString "op") t1, .str o t⟩, ⟨h2, .str (Str.ofString "operand") t2, .ref a⟩] n) → NodeIn W x .un (if o = Str.ofString "+" then .pass else .plain) [.ref a]
  | isn {x d a : Addr} {h1 h2 : Int} {t1 t2 : Tok} {v : Value} {n : Nat} : W x (instObj 474 d) →
      W d (dictOf [⟨h1, .str (Str.ofString "value") t1, .ref a⟩, ⟨h2, .str (Str.ofString "negated") t2, v⟩] n) → NodeIn W x .isn .plain [.ref a]
  | insel {x d a : Addr} {h1 h2 h3 : Int} {t1 t2 t3 : Tok} {v v' : Value} {n : Nat} : W x (instObj 294 d) →
      W d (dictOf [⟨h1, .str (Str.ofString "value") t1, .ref a⟩, ⟨h2, .str (Str.ofString "select") t2, v⟩, ⟨h3, .str (Str.ofString "negated") t3, v'⟩] n) → NodeIn W x .insel .insel [.ref a]
  | betw {x d a b c : Addr} {h1 h2 h3 h4 : Int} {t1 t2 t3 t4 : Tok} {v : Value} {n : Nat} : W x (instObj 242 d) →
      W d (dictOf [⟨h1, .str (Str.ofString "value") t1, .ref a⟩, ⟨h2, .str (Str.ofString "low") t2, .ref b⟩, ⟨h3, .str (Str.ofString "high") t3, .ref c⟩, ⟨h4, .str (Str.ofString "negated") t4, v⟩] n) → NodeIn W x .betw .plain [.ref a, .ref b, .ref c]
  | inl {x d a b c l : Addr} {h1 h2 h3 : Int} {t1 t2 t3 : Tok} {v : Value} {n n' : Nat} : W x (instObj 268 d) →
      W d (dictOf [⟨h1, .str (Str.ofString "value") t1, .ref a⟩, ⟨h2, .str (Str.ofString "items") t2, .ref l⟩, ⟨h3, .str (Str.ofString "negated") t3, v⟩] n) → W l (_root_.PySem.W.listOf #[.ref b, .ref c] n') → NodeIn W x .inl .plain [.ref a, .ref b, .ref c]
  | case1 {x d a b c l p : Addr} {h1 h2 h3 : Int} {t1 t2 t3 : Tok} {n n' n'' : Nat} : W x (instObj 370 d) →
      W d (dictOf [⟨h1, .str (Str.ofString "base") t1, .none⟩, ⟨h2, .str (Str.ofString "whens") t2, .ref l⟩, ⟨h3, .str (Str.ofString "other") t3, .ref c⟩] n) → W l (_root_.PySem.W.listOf #[.ref p] n') → W p (tupO [.ref a, .ref b] n'') → NodeIn W x .case .plain [.ref a, .ref b, .ref c]
  | case2 {x d a b c l p : Addr} {h1 h2 h3 : Int} {t1 t2 t3 : Tok} {n n' n'' : Nat} : W x (instObj 370 d) →
      W d (dictOf [⟨h1, .str (Str.ofString "base") t1, .ref a⟩, ⟨h2, .str (Str.ofString "whens") t2, .ref l⟩, ⟨h3, .str (Str.ofString "other") t3, .none⟩] n) → W l (_root_.PySem.W.listOf #[.ref p] n') → W p (tupO [.ref b, .ref c] n'') → NodeIn W x .case .plain [.ref a, .ref b, .ref c]
  | mat {x d a b c : Addr} {h1 h2 h3 h4 h5 : Int} {t1 t2 t3 t4 t5 : Tok} {v v' : Value} {n : Nat} : W x (instObj 500 d) →
      W d (dictOf [⟨h1, .str (Str.ofString "word") t1, v⟩, ⟨h2, .str (Str.ofString "value") t2, .ref a⟩, ⟨h3, .str (Str.ofString "pattern") t3, .ref b⟩, ⟨h4, .str (Str.ofString "escape") t4, .ref c⟩, ⟨h5, .str (Str.ofString "negated") t5, v'⟩] n) → NodeIn W x .mat .plain [.ref a, .ref b, .ref c]
  | bin {x d a b : Addr} {h1 h2 h3 : Int} {t1 t2 t3 : Tok} {v : Value} {n : Nat} : W x (instObj 216 d) →
      W d (dictOf [⟨h1, .str (Str.ofString "op") t1, v⟩, ⟨h2, .str (Str.ofString "left") t2, .ref a⟩, ⟨h3, .str (Str.ofString "right") t3, .ref b⟩] n) → NodeIn W x .bin .plain [.ref a, .ref b]
  | call {x d l : Addr} {h1 h2 h3 h4 : Int} {t1 t2 t3 t4 t : Tok} {nm : Str} {v : Value} {st : Bool} {vs : List Value} {n n' : Nat} : W x (instObj 396 d) →
      W d (dictOf [⟨h1, .str (Str.ofString "name") t1, .str nm t⟩, ⟨h2, .str (Str.ofString "arguments") t2, .ref l⟩, ⟨h3, .str (Str.ofString "distinct") t3, v⟩, ⟨h4, .str (Str.ofString "star") t4, .bool st⟩] n) →
      W l (_root_.PySem.W.listOf vs.toArray n') → foldS nm ∈ foldedNames → vs.length ≤ 3 → NodeIn W x .call (if aggF (foldS nm) vs.length st then .agg else .plain) vs

mutual
inductive TreeIn (W : Kn) : Value → T → Prop
  | mk {a : Addr} {c : Cl} {k : Kd} {vs : List Value} {ts : List T} : NodeIn W a c k vs → TreesIn W vs ts → TreeIn W (.ref a) (.mk a k ts)
inductive TreesIn (W : Kn) : List Value → List T → Prop
  | nil : TreesIn W [] []
  | cons {v : Value} {t : T} {vs : List Value} {ts : List T} : TreeIn W v t → TreesIn W vs ts → TreesIn W (v :: vs) (t :: ts)
end

theorem NodeIn.mono {W W' : Kn} {a : Addr} {c : Cl} {k : Kd} {vs : List Value} (h : NodeIn W a c k vs) (s : ∀ a o, W a o → W' a o) : NodeIn W' a c k vs := by
  cases h
  · exact .lit (s _ _ ‹_›) (s _ _ ‹_›)
  · exact .var (s _ _ ‹_›) (s _ _ ‹_›)
  · exact .scal (s _ _ ‹_›) (s _ _ ‹_›)
  · exact .ex (s _ _ ‹_›) (s _ _ ‹_›)
  · exact .name (s _ _ ‹_›) (s _ _ ‹_›)
  · exact .coll (s _ _ ‹_›) (s _ _ ‹_›) ‹_›
  · exact .cast (s _ _ ‹_›) (s _ _ ‹_›)
  · exact .un (s _ _ ‹_›) (s _ _ ‹_›)
  · exact .isn (s _ _ ‹_›) (s _ _ ‹_›)
  · exact .insel (s _ _ ‹_›) (s _ _ ‹_›)
  · exact .betw (s _ _ ‹_›) (s _ _ ‹_›)
  · exact .inl (s _ _ ‹_›) (s _ _ ‹_›) (s _ _ ‹_›)
  · exact .case1 (s _ _ ‹_›) (s _ _ ‹_›) (s _ _ ‹_›) (s _ _ ‹_›)
  · exact .case2 (s _ _ ‹_›) (s _ _ ‹_›) (s _ _ ‹_›) (s _ _ ‹_›)
  · exact .mat (s _ _ ‹_›) (s _ _ ‹_›)
  · exact .bin (s _ _ ‹_›) (s _ _ ‹_›)
  · exact .call (s _ _ ‹_›) (s _ _ ‹_›) (s _ _ ‹_›) ‹_› ‹_›
theorem NodeIn.inst {W : Kn} {a : Addr} {c : Cl} {k : Kd} {vs : List Value} (h : NodeIn W a c k vs) : ∃ d od, W a (instObj c.addr d) ∧ W d (od) := by
  cases h <;> exact ⟨_, _, by assumption, by assumption⟩
theorem TreeIn.mono {W W' : Kn} {v : Value} {t : T} (x : TreeIn W v t) (s : ∀ a o, W a o → W' a o) : TreeIn W' v t :=
  TreeIn.rec (motive_1 := fun v t _ => TreeIn W' v t) (motive_2 := fun vs ts _ => TreesIn W' vs ts) (fun h _ ih => .mk (h.mono s) ih) .nil (fun _ _ a b => .cons a b) x
theorem TreesIn.mono {W W' : Kn} {vs : List Value} {ts : List T} (x : TreesIn W vs ts) (s : ∀ a o, W a o → W' a o) : TreesIn W' vs ts :=
  TreesIn.rec (motive_1 := fun v t _ => TreeIn W' v t) (motive_2 := fun vs ts _ => TreesIn W' vs ts) (fun h _ ih => .mk (h.mono s) ih) .nil (fun _ _ a b => .cons a b) x
theorem TreeIn.ref {W : Kn} {v : Value} {t : T} (h : TreeIn W v t) : v = .ref t.addr := by
  cases h; rfl
theorem TreesIn.len {W : Kn} {vs : List Value} {ts : List T} (x : TreesIn W vs ts) : ts.length = vs.length := by
  induction vs generalizing ts with
  | nil => cases x; rfl
  | cons v vs ih => cases x with
    | cons _ hs => exact congrArg (· + 1) (ih hs)

noncomputable def Kp (k : Kd) (c : Cl) (vs : List Value) : Prop := match k with
  | .var => c = .var ∧ vs = []
  | .sub => (c = .ex ∨ c = .scal) ∧ vs = []
  | .name _ => c = .name ∧ vs = []
  | .coll _ => c = .coll
  | .insel => c = .insel
  | .agg => c = .call
  | .pass => c = .cast ∨ c = .un
  | .plain => True
theorem NodeIn.kp {W : Kn} {a : Addr} {c : Cl} {k : Kd} {vs : List Value} (h : NodeIn W a c k vs) : Kp k c vs := by
  cases h with
  | un _ _ => split; exact .inr rfl; trivial
  | call _ _ _ _ _ => split; rfl; trivial
  | _ => first | exact True.intro | exact ⟨rfl, rfl⟩ | exact ⟨.inl rfl, rfl⟩ | exact ⟨.inr rfl, rfl⟩ | exact .inl rfl | rfl
section
variable {W : Kn} {a : Addr} {c : Cl} {k : Kd} {vs : List Value} {ts : List T}
theorem no_kids (hs : TreesIn W vs ts) (e : vs = []) : ts = [] := by
  subst e; cases hs; rfl
theorem expl_other (h : NodeIn W a c k vs) (hs : TreesIn W vs ts) (hc : c ≠ .coll) : explT (.mk a k ts) = explL ts := by
  have z := h.kp
  cases k with
  | coll _ => exact absurd z hc
  | var => rw [no_kids hs z.2]; rfl
  | sub => rw [no_kids hs z.2]; rfl
  | name _ => rw [no_kids hs z.2]; rfl
  | _ => rfl
theorem var_other (h : NodeIn W a c k vs) (hs : TreesIn W vs ts) (hc : c ≠ .var) : hasVarT (.mk a k ts) = hasVarL ts := by
  have z := h.kp
  cases k with
  | var => exact absurd z.1 hc
  | sub => rw [no_kids hs z.2]; rfl
  | name _ => rw [no_kids hs z.2]; rfl
  | _ => rfl
theorem sub_other (h : NodeIn W a c k vs) (hs : TreesIn W vs ts) (hc : c ≠ .insel) (hc2 : c ≠ .ex) (hc3 : c ≠ .scal) : hasSubT (.mk a k ts) = hasSubL ts := by
  have z := h.kp
  cases k with
  | insel => exact absurd z hc
  | sub => exact z.1.elim (fun e => absurd e hc2) (fun e => absurd e hc3)
  | var => rw [no_kids hs z.2]; rfl
  | name _ => rw [no_kids hs z.2]; rfl
  | _ => rfl
theorem names_other (h : NodeIn W a c k vs) (hs : TreesIn W vs ts) (hc : c ≠ .name) : namesT (.mk a k ts) = namesL ts := by
  have z := h.kp
  cases k with
  | name _ => exact absurd z.1 hc
  | var => rw [no_kids hs z.2]; rfl
  | sub => rw [no_kids hs z.2]; rfl
  | _ => rfl
theorem aggs_other (h : NodeIn W a c k vs) (hs : TreesIn W vs ts) (hc : k ≠ .agg) : aggsT (.mk a k ts) = aggsL ts := by
  have z := h.kp
  cases k with
  | agg => exact absurd rfl hc
  | var => rw [no_kids hs z.2]; rfl
  | sub => rw [no_kids hs z.2]; rfl
  | name _ => rw [no_kids hs z.2]; rfl
  | _ => rfl
end

inductive WdIn (W : Kn) : Value → Wd → Prop
  | variable {p : Addr} {t : Tok} {n : Nat} : W p (tupO [.str (Str.ofString "variable") t, .none] n) → WdIn W (.ref p) .variable
  | select {p : Addr} {t : Tok} {n : Nat} : W p (tupO [.str (Str.ofString "select") t, .none] n) → WdIn W (.ref p) .select
  | name {p a : Addr} {t : Tok} {n : Nat} : W p (tupO [.str (Str.ofString "name") t, .ref a] n) → WdIn W (.ref p) (.name a)
  | collate {p : Addr} {w : Str} {t u : Tok} {n : Nat} : W p (tupO [.str (Str.ofString "collate") t, .str w u] n) → WdIn W (.ref p) (.collate w)
  | opn {p a : Addr} {t : Tok} {n : Nat} : W p (tupO [.str (Str.ofString "open") t, .ref a] n) → WdIn W (.ref p) (.opn a)
  | cls {p a : Addr} {t : Tok} {n : Nat} : W p (tupO [.str (Str.ofString "close") t, .ref a] n) → WdIn W (.ref p) (.cls a)
inductive WordsIn (W : Kn) : List Value → List Wd → Prop
  | nil : WordsIn W [] []
  | cons {v : Value} {x : Wd} {vs : List Value} {xs : List Wd} : WdIn W v x → WordsIn W vs xs → WordsIn W (v :: vs) (x :: xs)
inductive ColIs : Value → Option Str → Prop
  | none : ColIs .none none
  | some {c : Str} {t : Tok} : ColIs (.str c t) (some c)
inductive PartIn (W : Kn) : Value → T → Prop
  | mk {p l : Addr} {v cv : Value} {ws : List Value} {t : T} {n n' : Nat} : W p (tupO [v, .ref l, cv] n) → TreeIn W v t → W l (_root_.PySem.W.listOf ws.toArray n') → WordsIn W ws (wordsT t) → ColIs cv (colT t) → PartIn W (.ref p) t
theorem WdIn.mono {W W' : Kn} {v : Value} {x : Wd} (h : WdIn W v x) (s : ∀ a o, W a o → W' a o) : WdIn W' v x := by
  cases h
  · exact .variable (s _ _ ‹_›)
  · exact .select (s _ _ ‹_›)
  · exact .name (s _ _ ‹_›)
  · exact .collate (s _ _ ‹_›)
  · exact .opn (s _ _ ‹_›)
  · exact .cls (s _ _ ‹_›)
theorem WordsIn.mono {W W' : Kn} {vs : List Value} {xs : List Wd} (x : WordsIn W vs xs) (s : ∀ a o, W a o → W' a o) : WordsIn W' vs xs := by
  induction x with
  | nil => exact .nil
  | cons h _ ih => exact .cons (h.mono s) ih
theorem WordsIn.len {W : Kn} {vs : List Value} {xs : List Wd} (x : WordsIn W vs xs) : vs.length = xs.length := by
  induction x with
  | nil => rfl
  | cons _ _ ih => exact congrArg (· + 1) ih
theorem WordsIn.append {W : Kn} {vs : List Value} {xs : List Wd} {us : List Value} {ys : List Wd} (x : WordsIn W vs xs) (k : WordsIn W us ys) : WordsIn W (vs ++ us) (xs ++ ys) := by
  induction x with
  | nil => exact k
  | cons h _ ih => exact .cons h ih
theorem PartIn.mono {W W' : Kn} {v : Value} {t : T} (h : PartIn W v t) (s : ∀ a o, W a o → W' a o) : PartIn W' v t := by
  cases h with
  | mk h1 h2 h3 h4 h5 => exact .mk (s _ _ h1) (h2.mono s) (s _ _ h3) (h4.mono s) h5
structure Good (n : Nat) (t : T) : Prop where
  depth : depthT t ≤ 2 * n + 1
  words : (wordsT t).length ≤ 4 ^ (n + 1)
  expl : ∀ w, explT t = some w → w ∈ colls
  col : ∀ w, colT t = some w → w ∈ colls
theorem pr_map {α β γ : Type} {F : α → β → Prop} {G : α → γ → Prop} {f : β → γ} (H : ∀ a b, F a b → G a (f b)) {l : List α} {r : List β} (x : Paired F l r) : Paired G l (r.map f) := by
  induction x with
  | nil => exact .nil
  | cons h _ ih => exact .cons (H _ _ h) ih
theorem pr_map2 {α β γ : Type} {F : α → β → Prop} {G : α → γ → Prop} {f : γ → β} (H : ∀ a b c, F a b → G a c → b = f c) {l : List α} {r : List β} {s : List γ} (x : Paired F l r) (y : Paired G l s) : r = s.map f := by
  induction x generalizing s with
  | nil => cases y; rfl
  | cons h _ ih => cases y with | cons h' t => rw [List.map_cons, H _ _ _ h h', ih t]
theorem pr_map1 {α β : Type} {F : α → β → Prop} {f : α → β} (H : ∀ a b, F a b → b = f a) {l : List α} {r : List β} (x : Paired F l r) : r = l.map f := by
  induction x with
  | nil => rfl
  | cons h _ ih => rw [List.map_cons, H _ _ h, ih]
theorem paired_mem {α β : Type} {F : α → β → Prop} {l : List α} {r : List β} {v : α} (x : Paired F l r) (m : v ∈ l) : ∃ p, F v p := by
  induction x with
  | nil => cases m
  | cons h _ ih => cases m with
    | head => exact ⟨_, h⟩
    | tail _ m => exact ih m
theorem three_of {α : Type} {l : List α} (h : l.length = 3) : ∃ x y z, l = [x, y, z] := by
  cases l with
  | nil => cases h
  | cons x l => cases l with
    | nil => cases h
    | cons y l => cases l with
      | nil => cases h
      | cons z l => cases l with
        | nil => exact ⟨x, y, z, rfl⟩
        | cons _ _ => cases h
end
section
noncomputable def allCl : List Cl := [.lit, .name, .var, .un, .bin, .betw, .inl, .insel, .ex, .scal, .case, .call, .cast, .coll, .isn, .mat]
theorem allCl_mem (c : Cl) : c ∈ allCl := by cases c <;> decide
noncomputable def clsOk (K : Frag) : Bool :=
  (specialIn K (.builtin "object.__class__") "__get__" == some (some (.builtin "getset_descriptor.__get__"))) && (takesIn K (.builtin "object.__class__") == some true) &&
  allCl.all fun c => plainGet K c.addr "__class__" && hasDictIn K c.addr && (findIn K (.ref c.addr) "__class__" == some (some (.builtin "object.__class__"))) && (mroIn K c.addr (.type "object") == some true) &&
    allCl.all fun D => kitOne K (.ref c.addr) (.ref D.addr) == some (decide (c = D))
theorem clsOk_is (w : World) : clsOk (KK w) = true := by kernel_rfl
theorem cl_kitx (w : World) (c : Cl) {x : Addr} {ox od : Obj} : KitX (KK w) (.ref x) (.ref c.addr) (fun h => InstAt h x ox c.addr (some od)) := by
  have h := clsOk_is w
  unfold clsOk at h
  simp only [Bool.and_eq_true, beq_iff_eq, List.all_eq_true] at h
  obtain ⟨⟨h1, h2⟩, h3⟩ := h
  obtain ⟨⟨⟨⟨a1, a2⟩, a3⟩, a4⟩, _⟩ := h3 c (allCl_mem c)
  exact kitx_own a1 a2 a3 h1 h2 a4
theorem cl_one (w : World) (c D : Cl) : kitOne (KK w) (.ref c.addr) (.ref D.addr) = some (decide (c = D)) := by
  have h := clsOk_is w
  unfold clsOk at h
  simp only [Bool.and_eq_true, beq_iff_eq, List.all_eq_true] at h
  exact ((h.2 c (allCl_mem c)).2 D (allCl_mem D))
theorem inst_base {h₀ h : Heap} {L x C d : Addr} {m : Str → Option Value} {od : Obj} {sl : Array (Option Value)} (F : Fr h₀ L h m) (h1 : h₀.get? x = some ⟨.ref C, some d, .plain, sl⟩) (h2 : h₀.get? d = some od) : InstAt h x ⟨.ref C, some d, .plain, sl⟩ C (some od) :=
  ⟨F.keep _ _ h1, rfl, rfl, F.keep _ _ h2⟩
section
variable {w : World} {A : Around} {E : Value → Shared → Prop} {s : Shared} {Q : Value → Shared → Prop} {h₀ : Heap} {L a : Addr} {m : Str → Option Value} {news : Led} {c : Cl} {k : Kd} {vs : List Value}
theorem isi_one (D : Cl) (F : Fr h₀ L s.heap m) (X : (KK w).In h₀) (H : NodeIn (atH h₀) a c k vs) (h : ∀ tk, Q (.bool (decide (c = D))) { s with toks := tk }) :
    wpAny (MM w) A (call (.builtin "isinstance") [.ref a, .ref D.addr]) Q E s := by
  obtain ⟨d, od, h1, h2⟩ := H.inst
  exact kia_one (cl_kitx w c) (X.keeps F.keep) (inst_base F h1 h2) (cl_one w c D) (by intro e; cases e) h
theorem isi_tup (Ds : List Cl) {tp : Addr} {dd : Option Addr} {n : Nat} {sl : Array (Option Value)} (F : Fr h₀ L s.heap m) (X : (KK w).In h₀) (N : News h₀ L s.heap news) (H : NodeIn (atH h₀) a c k vs)
    (T : (tp, (⟨.type "tuple", dd, .seq (Ds.map fun D => Value.ref D.addr).toArray n, sl⟩ : Obj)) ∈ news) (h : ∀ tk, Q (.bool (decide (c ∈ Ds))) { s with toks := tk }) :
    wpAny (MM w) A (call (.builtin "isinstance") [.ref a, .ref tp]) Q E s := by
  obtain ⟨d, od, h1, h2⟩ := H.inst
  refine kia_tup (cl_kitx w c) (X.keeps F.keep) (inst_base F h1 h2) (N _ T).1 (b := decide (c ∈ Ds)) ?_ (by intro e; cases e) h
  clear T h
  induction Ds with
  | nil => simp [kitAny]
  | cons D r ih =>
    simp only [List.map_cons, kitAny, cl_one, List.mem_cons]
    by_cases e : c = D
    · simp [e]
    · simp [e, ih]
end
noncomputable def Stay (h h' : Heap) : Prop := ∀ b o, h.get? b = some o → h'.get? b = some o
theorem Stay.trans {a b c : Heap} (x : Stay a b) (y : Stay b c) : Stay a c := fun _ _ e => y _ _ (x _ _ e)
theorem gsub_all {h g : Heap} (G : GSub h g ([] : List Addr)) : Stay h g := fun b o e => G b o e (by simp)
theorem stay_of {h H' g : Heap} {L' : Addr} {m' : Str → Option Value} (G : GSub h g ([] : List Addr)) (F' : Fr g L' H' m') : Stay h H' := fun b o e => F'.keep _ _ (gsub_all G b o e)
theorem none_of {h h' g : Heap} {L' l : Addr} {o : Obj} {news' : Led} (G : GSub h g ([] : List Addr)) (N' : News g L' h' news') (hm : (l, o) ∈ news') : h.get? l = none := by
  cases e : h.get? l with
  | none => rfl
  | some o' =>
    have := (N' _ hm).2.2
    rw [gsub_all G l o' e] at this
    cases this
noncomputable def FreshL (vs : List Value) (h h' : Heap) (r : Value) : Prop := Stay h h' ∧ ∃ l n, r = .ref l ∧ h.get? l = none ∧ h'.get? l = some (_root_.PySem.W.listOf vs.toArray n)
theorem freshL_of {h h' g : Heap} {L' l : Addr} {m' : Str → Option Value} {vs : List Value} {n : Nat} {news' : Led} (G : GSub h g ([] : List Addr)) (F' : Fr g L' h' m') (N' : News g L' h' news')
    (hm : (l, _root_.PySem.W.listOf vs.toArray n) ∈ news') : FreshL vs h h' (.ref l) :=
  ⟨stay_of G F', l, n, rfl, none_of G N' hm, (N' _ hm).1⟩
theorem ct_use {w : World} {f : Addr} {vs : List Value} {d u : Nat} {R : Heap → Value → Prop} {mean : ExcName → Option Value} {mg mb : Str → Option Value} {dp un : Nat} {gd : Option (List Code)} {cn : Str} {cs : Scope} {a : Addr} {ccd : Value} {cl : List (Str × Addr)} {outer : List Env} {A₀ : Around} {base h₀ : Heap} {L : Addr}
    {m : Str → Option Value} {news : Led} {s : Shared} {Q E : Value → Shared → Prop} (C : Ct w s.heap f vs d u [] R) (hR : ∀ h' r, R h' r → Stay s.heap h')
    (B : Below A₀ base outer h₀) (F : Fr h₀ L s.heap m) (X : (KK w).In h₀) (N : News h₀ L s.heap news) (T : Top _root_.Mine.top.view_1_40 Lo mean mg mb h₀) (hk : cs.kind = .function) (hd : dp + d < recursionLimit) (hu : un + u < cLine)
    (h : ∀ r h' tk', R h' r → Stay s.heap h' → Fr h₀ L h' m → News h₀ L h' news → Q r { s with heap := h', toks := tk' }) :
    wpAny (MM w) (ktrTop dp un gd cn cs L a ccd cl outer) (call (.ref f) vs) Q E s :=
  C _ _ _ _ _ _ _ _ _ _ _ _ _ _ _ _ _ _ _ _ rfl B F X News.nil T hk hd hu fun r h' tk' hr => h r h' tk' hr (hR _ _ hr) (F.keeps (hR _ _ hr)) (N.grown (hR _ _ hr))
end
section
theorem ne_lt {x D : Addr} {o : Obj} {l : List (Addr × Obj)} (h : AllLt D l) (m : (x, o) ∈ l) : x ≠ D := Nat.ne_of_lt (tb_ltOf h _ m)
theorem ne_gt {x D : Addr} {o : Obj} {l : List (Addr × Obj)} (h : AllLt x l) (m : (D, o) ∈ l) : x ≠ D := Nat.ne_of_gt (tb_ltOf h _ m)
theorem ne_all {x D : Addr} {o : Obj} {l : List (Addr × Obj)} (h : ∀ p ∈ l, p.1 ≠ D) (m : (x, o) ∈ l) : x ≠ D := h _ m
theorem ne_all' {x D : Addr} {o : Obj} {l : List (Addr × Obj)} (h : ∀ p ∈ l, p.1 ≠ x) (m : (D, o) ∈ l) : x ≠ D := (h _ m).symm
theorem allNe_sub {d : Addr} {l tl : List (Addr × Obj)} (h : AllLt d l) (s : ∀ p, p ∈ tl → p ∈ l) : ∀ p ∈ tl, p.1 ≠ d := fun p hp => Nat.ne_of_lt (tb_ltOf h _ (s p hp))
end
section
noncomputable def TurnEnd (h₀ : Heap) (L : Addr) (I : Addr) (own : Led) (J : (Str → Option Value) → Led → Prop) (s : Shared) (Q : Flow → Shared → Prop) (f : Flow) (s₂ : Shared) : Prop :=
  match f with
  | .ret v => Q (.ret v) s₂
  | .brk => Q .next s₂
  | _ => ∃ h' tk m' nw', s₂ = { s with heap := h', toks := tk } ∧ Fr h₀ L h' m' ∧ News h₀ L h' (nw' ++ own) ∧ (∀ p ∈ nw', p.1 ≠ I) ∧ J m' nw'
section
variable {prog : Program} {w : World} {A : Around} {E : Value → Shared → Prop} {s : Shared} {env : Env} {h₀ : Heap} {target : Expr} {body : List Stmt} {Q : Flow → Shared → Prop}
theorem for_items₀ {ax : Addr} {vs : List Value} {m₀ : Str → Option Value} {news : Led} (hh : A.handled = none) (F : Fr h₀ env.locals s.heap m₀) (N : News h₀ env.locals s.heap news) (hl : s.heap.IsList ax vs.toArray) (hL : ax ≠ env.locals)
    (J : Nat → (Str → Option Value) → Led → Prop) (j0 : J 0 m₀ news)
    (turn : ∀ I i v m₁ nw h tk own, vs[i]? = some v → J i m₁ nw → (∀ p ∈ nw, p.1 ≠ I) → (∃ it, (I, it) ∈ own) → (∀ p ∈ own, p.1 = I ∨ p.1 = ax) → Fr h₀ env.locals h m₁ → News h₀ env.locals h (nw ++ own) →
      wpAny (model prog w) A (assign target env v) (fun _ s₂ => wpAny (model prog w) A (execs body env) (TurnEnd h₀ env.locals I own (J (i + 1)) { s with heap := h, toks := tk } Q) E s₂) E { s with heap := h, toks := tk })
    (done : ∀ m' nw h tk, J vs.length m' nw → Fr h₀ env.locals h m' → News h₀ env.locals h nw → Q .next { s with heap := h, toks := tk }) :
    wpAny (model prog w) A (pyIter (.ref ax)) (fun it s₂ => TurnsAt prog w A h₀ env target body Q E it s₂) E s := by
  obtain ⟨lo, hlo, _⟩ := id hl
  have hne : ax ≠ s.heap.objs.size := Nat.ne_of_lt (Heap.lt_size hlo)
  have hI : h₀.get? s.heap.objs.size = none := next_is_new F
  refine wpAny_pyIter_list hl ?_
  have K := KTurns.ofWalks (target := target) (Walks.list (prog := prog) (w := w) hh s.heap.objs.size ax hne vs.toArray) fun i v s Q E st q => letGo_listiter st.1 q
  refine ⟨_, _, _, _, _, _, _, m₀, news, J, rfl, K, ?_, ?_, ?_, ⟨⟨_, Heap.get?_push_size _ rfl, rfl, rfl⟩, hl.at fun o e => Heap.get?_push_of_some _ e⟩, F.push _, (fun p hp => ⟨Heap.get?_push_of_some _ (N p hp).1, (N p hp).2⟩), j0, ?_, ?_⟩
  · intro hm
    rcases List.mem_cons.mp hm with e | hm
    · exact absurd F.ns.lt (e ▸ Nat.lt_irrefl _)
    · exact hL (List.mem_singleton.mp hm).symm
  · intro b hb
    rw [List.mem_singleton.mp hb]
    exact hI
  · intro p hp hI
    exact absurd (Heap.lt_size (N p hp).1) ((List.mem_singleton.mp hI) ▸ Nat.lt_irrefl _)
  · intro i v m₁ nw h₁ tk₁ own hin hP hJ hoff hown hget hall hst F₁ N₁
    have hv : vs[i]? = some v := by
      have hP' : vs.toArray[i]? = some v := hP
      simpa using hP'
    obtain ⟨it, hit, _⟩ := hst.1
    have hmI : (s.heap.objs.size, it) ∈ own := hall _ (.head _) hI it hit
    have N₂ : News h₀ env.locals h₁ (nw ++ own) := fun p hp => N₁ p ((List.mem_append.mp hp).elim (fun h => List.mem_append.mpr (.inr h)) fun h => List.mem_append.mpr (.inl h))
    refine wpAny_mono (turn _ i v m₁ nw h₁ tk₁ own hv hJ (fun p hp e => hoff p hp (List.mem_singleton.mpr e)) ⟨it, hmI⟩ (fun p hp => by simpa using hown p hp) F₁ N₂) (fun _ s₂ h2 => wpAny_mono h2 (fun f s₃ p => ?_) fun _ _ e => e) fun _ _ e => e
    have fin : (∃ h' tk m' nw', s₃ = { ({ s with heap := h₁, toks := tk₁ } : Shared) with heap := h', toks := tk } ∧ Fr h₀ env.locals h' m' ∧ News h₀ env.locals h' (nw' ++ own) ∧ (∀ p ∈ nw', p.1 ≠ s.heap.objs.size) ∧ J (i + 1) m' nw') →
        LoopStepU h₀ env.locals [s.heap.objs.size] own (J (i + 1)) { s with heap := h₁, toks := tk₁ } .next s₃ := by
      rintro ⟨h', tk, m', nw', e, F', N', ho, hj⟩
      exact ⟨rfl, h', tk, m', nw', e, F', fun p hp => N' p ((List.mem_append.mp hp).elim (fun h => List.mem_append.mpr (.inr h)) fun h => List.mem_append.mpr (.inl h)), fun p hp hq => ho p hp (List.mem_singleton.mp hq), hj⟩
    cases f with
    | ret v => exact .ret p
    | brk => exact .brk p
    | next => exact .next (fin p)
    | cont => exact .cont (fin p)
  · intro h' tk m' nw F' N' _ hJ
    have e : vs.toArray.size = vs.length := by simp
    rw [e] at hJ
    exact done m' nw h' tk hJ F' N'
theorem for_items {L : Addr} {ax : Addr} {vs : List Value} {m₀ : Str → Option Value} {news : Led} (hLe : env.locals = L) (hh : A.handled = none) (F : Fr h₀ L s.heap m₀) (N : News h₀ L s.heap news) (hl : s.heap.IsList ax vs.toArray) (hL : ax ≠ L)
    (J : Nat → (Str → Option Value) → Led → Prop) (j0 : J 0 m₀ news)
    (turn : ∀ I i v m₁ nw h tk own, vs[i]? = some v → J i m₁ nw → (∀ p ∈ nw, p.1 ≠ I) → (∃ it, (I, it) ∈ own) → (∀ p ∈ own, p.1 = I ∨ p.1 = ax) → Fr h₀ L h m₁ → News h₀ L h (nw ++ own) →
      wpAny (model prog w) A (assign target env v) (fun _ s₂ => wpAny (model prog w) A (execs body env) (TurnEnd h₀ L I own (J (i + 1)) { s with heap := h, toks := tk } Q) E s₂) E { s with heap := h, toks := tk })
    (done : ∀ m' nw h tk, J vs.length m' nw → Fr h₀ L h m' → News h₀ L h nw → Q .next { s with heap := h, toks := tk }) :
    wpAny (model prog w) A (pyIter (.ref ax)) (fun it s₂ => TurnsAt prog w A h₀ env target body Q E it s₂) E s := by
  subst hLe
  exact for_items₀ hh F N hl hL J j0 turn done
theorem for_one {L : Addr} {ax : Addr} {v : Value} {m₀ : Str → Option Value} {news : Led} (hLe : env.locals = L) (hh : A.handled = none) (F : Fr h₀ L s.heap m₀) (N : News h₀ L s.heap news) (hl : s.heap.IsList ax [v].toArray) (hL : ax ≠ L)
    (turn : ∀ I h tk own, (∀ p ∈ news, p.1 ≠ I) → (∀ p ∈ own, p.1 = I ∨ p.1 = ax) → Fr h₀ L h m₀ → News h₀ L h (news ++ own) →
      wpAny (model prog w) A (assign target env v) (fun _ s₂ => wpAny (model prog w) A (execs body env) (TurnEnd h₀ L I own (fun m nw => ∀ h tk, Fr h₀ L h m → News h₀ L h nw → Q .next { s with heap := h, toks := tk }) { s with heap := h, toks := tk } Q) E s₂) E { s with heap := h, toks := tk }) :
    wpAny (model prog w) A (pyIter (.ref ax)) (fun it s₂ => TurnsAt prog w A h₀ env target body Q E it s₂) E s := by
  refine for_items hLe hh F N hl hL (fun i m nw => match i with
    | 0 => m = m₀ ∧ nw = news
    | _ => ∀ h tk, Fr h₀ L h m → News h₀ L h nw → Q .next { s with heap := h, toks := tk }) ⟨rfl, rfl⟩ ?_ fun m' nw h tk hJ F' N' => hJ h tk F' N'
  intro I i v' m₁ nw h tk own hv hJ hI _ ho F' N'
  cases i with
  | zero =>
    obtain ⟨rfl, rfl⟩ := hJ
    cases hv
    exact turn I h tk own hI ho F' N'
  | succ i => exact nomatch hv
end
theorem isl_base {h₀ h : Heap} {L l : Addr} {m : Str → Option Value} {its : Array Value} {n : Nat} (F : Fr h₀ L h m) (e : h₀.get? l = some (_root_.PySem.W.listOf its n)) : h.IsList l its := ⟨_, F.keep _ _ e, rfl, n, rfl⟩
theorem ne_base {h₀ h : Heap} {L l : Addr} {m : Str → Option Value} {o : Obj} (F : Fr h₀ L h m) (e : h₀.get? l = some o) : l ≠ L := Nat.ne_of_lt (Nat.lt_of_lt_of_le (Heap.lt_size e) F.above)
theorem isl_news {h₀ h : Heap} {L l : Addr} {news : Led} {its : Array Value} {n : Nat} (N : News h₀ L h news) (e : (l, _root_.PySem.W.listOf its n) ∈ news) : h.IsList l its := ⟨_, (N _ e).1, rfl, n, rfl⟩
theorem ist_base {h₀ h : Heap} {L l : Addr} {m : Str → Option Value} {its : List Value} {n : Nat} (F : Fr h₀ L h m) (e : h₀.get? l = some (tupO its n)) : IsTup h l its.toArray := ⟨_, F.keep _ _ e, rfl, n, rfl⟩
theorem own_ne {h₀ h : Heap} {L I ax : Addr} {nw own : Led} (N : News h₀ L h (nw ++ own)) (hI : ∀ p ∈ nw, p.1 ≠ I) (ho : ∀ p ∈ own, p.1 = I ∨ p.1 = ax) (hb : ∃ o, h₀.get? ax = some o) {l : Addr} {ol : Obj} (hm : (l, ol) ∈ nw) : ∀ p ∈ own, p.1 ≠ l := fun p hp e => by
  rcases ho p hp with q | q
  · exact hI _ hm (e ▸ q)
  · obtain ⟨o, ho⟩ := hb
    have := (N p (List.mem_append.mpr (.inr hp))).2.2
    rw [q, ho] at this
    cases this
end
section
theorem TurnEnd.go {h₀ h' : Heap} {L I : Addr} {own nw' : Led} {J : (Str → Option Value) → Led → Prop} {s : Shared} {Q : Flow → Shared → Prop} {m' : Str → Option Value} {tk : Nat} (F' : Fr h₀ L h' m') (N' : News h₀ L h' (nw' ++ own)) (hI : ∀ p ∈ nw', p.1 ≠ I) (j : J m' nw') :
    TurnEnd h₀ L I own J s Q .next { s with heap := h', toks := tk } := ⟨h', tk, m', nw', rfl, F', N', hI, j⟩
theorem TurnEnd.out {h₀ : Heap} {L I : Addr} {own : Led} {J : (Str → Option Value) → Led → Prop} {s s₂ : Shared} {Q : Flow → Shared → Prop} {v : Value} (q : Q (.ret v) s₂) : TurnEnd h₀ L I own J s Q (.ret v) s₂ := q
end
section
section
variable {prog : Program} {w : World} {A : Around} {E : Value → Shared → Prop} {s : Shared} {env : Env} {h₀ : Heap} {L : Addr} {m : Str → Option Value} {news : Led} {elt : Expr} {x : Str} {ifs : List Expr} {scope : Scope} {cl : List (Str × Addr)} {Q : Value → Shared → Prop}
noncomputable def EltEnd (Fn : Value → Value → Prop) (v : Value) (s₃ : Shared) (y : Value) (s₄ : Shared) : Prop := Fn v y ∧ Keeps s₃ s₄
noncomputable def TestEnd (b : Bool) (s₃ : Shared) (ok : Bool) (s₄ : Shared) : Prop := ok = b ∧ Keeps s₃ s₄
noncomputable def CompAsk (prog : Program) (w : World) (A : Around) (env : Env) (elt : Expr) (x : Str) (ifs : List Expr) (scope : Scope) (cl : List (Str × Addr)) (p : Value → Bool) (Fn : Value → Value → Prop) (Q : Value → Shared → Prop) (it : Value) (s₂ : Shared) : Prop :=
  ∃ I fp wr n P St, it = .ref I ∧ Walks prog w A I fp wr n P St ∧ n ≤ sizeLine ∧ St 0 s₂.heap ∧ (∀ b ∈ fp, b < s₂.heap.objs.size) ∧
      QuietOnC prog w A env scope cl x ifs elt wr P p Fn s₂ ∧
      (∀ D h' tk ys (vs : List Value), s₂.heap.get? D = none → h'.IsList D ys → h'.PlainList D ys → vs.length = n → (∀ j v, vs[j]? = some v → P j v) → Paired Fn (vs.filter p) ys.toList →
        (∀ b o, b ∉ wr → s₂.heap.get? b = some o → h'.get? b = some o) → Q (.ref D) { s₂ with heap := h', toks := tk })
theorem comp_of {iter : Expr} {px pos : Pos} (p : Value → Bool) (Fn : Value → Value → Prop)
    (hclos : closureFor scope env = pure cl) (hcell : ∀ y ∈ scope.names, y.2 ≠ .cell) (hkind : scope.kind = .function)
    (hnames : ∀ y ∈ scope.names, y.2 = .local → scope.names.lookup y.1 = some .local) (hx : scope.names.lookup x = some .local)
    (h : wpAny (model prog w) A (eval iter env) (fun xv s₁ => wpAny (model prog w) A (pyIter xv) (CompAsk prog w A env elt x ifs scope cl p Fn Q) E s₁) E s)
    (hs : ∀ x, foldedSetIterable iter env x = pure x := by intro _; rfl) :
    wpAny (model prog w) A (eval (.ListComp elt [⟨.Name x px, iter, ifs, 0⟩] scope pos) env) Q E s :=
  wpAny_ListComp_free p Fn hclos hcell hkind hnames hx h hs
theorem news_but1 {h h' : Heap} {I : Addr} (F : Fr h₀ L h m) (N : News h₀ L h news) (hI : h.get? I = none) (k : ∀ b o, b ∉ [I] → h.get? b = some o → h'.get? b = some o) : Stay h h' := fun b o e => k b o (fun hb => by rw [List.mem_singleton.mp hb, hI] at e; cases e) e
theorem get_size (h : Heap) : h.get? h.objs.size = none := by
  cases e : h.get? h.objs.size with
  | none => rfl
  | some o => exact absurd (Heap.lt_size e) (Nat.lt_irrefl _)
theorem comp_out {h' : Heap} {D : Addr} {ys : Array Value} (F : Fr h₀ L s.heap m) (N : News h₀ L s.heap news) (hD : s.heap.get? D = none) (hl : h'.PlainList D ys) (k : Stay s.heap h') :
    ∃ n, Fr h₀ L h' m ∧ News h₀ L h' ((D, _root_.PySem.W.listOf ys n) :: news) ∧ ∀ p ∈ news, p.1 ≠ D := by
  obtain ⟨n, e⟩ := hl
  refine ⟨n, F.keeps k, fun p hp => ?_, fun p hp e' => ?_⟩
  · rcases List.mem_cons.mp hp with rfl | hp
    · refine ⟨e, fun e' => ?_, ?_⟩
      · obtain ⟨o, _, _, ho, _⟩ := F.ns
        have e2 : D = L := e'
        rw [e2, ho] at hD
        cases hD
      · cases q : h₀.get? D with
        | none => rfl
        | some o => rw [F.keep _ _ q] at hD; cases hD
    · exact (N.grown k) p hp
  · have := (N p hp).1
    rw [e', hD] at this
    cases this
theorem comp_list {ax : Addr} {vs : List Value} {p : Value → Bool} {Fn : Value → Value → Prop} (hh : A.handled = none) (F : Fr h₀ L s.heap m) (N : News h₀ L s.heap news) (hl : s.heap.IsList ax vs.toArray) (hz : vs.length ≤ sizeLine)
    (tests : ∀ C v s₃ m₃ E', v ∈ vs → s₃.heap.Ns C m₃ → m₃ x = some v → Stay s.heap s₃.heap → Fr h₀ L s₃.heap m → News h₀ L s₃.heap news →
      wpAny (model prog w) A (forIn ifs true fun c r => if r = true then do let ok ← isTrue c (compEnvC scope cl C env) (eval c (compEnvC scope cl C env)); pure (ForInStep.yield ok) else pure (ForInStep.yield r))
        (TestEnd (p v) s₃) E' s₃)
    (elts : ∀ C v s₃ m₃ E', v ∈ vs → p v = true → s₃.heap.Ns C m₃ → m₃ x = some v → Stay s.heap s₃.heap → Fr h₀ L s₃.heap m → News h₀ L s₃.heap news →
      wpAny (model prog w) A (eval elt (compEnvC scope cl C env)) (EltEnd Fn v s₃) E' s₃)
    (fin : ∀ D n h' tk ys, Fr h₀ L h' m → News h₀ L h' ((D, _root_.PySem.W.listOf ys.toArray n) :: news) → (∀ p ∈ news, p.1 ≠ D) → Stay s.heap h' → Paired Fn (vs.filter p) ys → Q (.ref D) { s with heap := h', toks := tk }) :
    wpAny (model prog w) A (pyIter (.ref ax)) (CompAsk prog w A env elt x ifs scope cl p Fn Q) E s := by
  obtain ⟨lo, hlo, _⟩ := id hl
  have hne : ax ≠ s.heap.objs.size := Nat.ne_of_lt (Heap.lt_size hlo)
  refine wpAny_pyIter_list hl ?_
  have W := Walks.list (prog := prog) (w := w) hh s.heap.objs.size ax hne vs.toArray
  have up : Stay s.heap (s.heap.push { cls := .type "list_iterator", data := .fields #[.ref ax, .int 0 0] }) := fun b o e => Heap.get?_push_of_some _ e
  have ext : ∀ {h' : Heap}, (∀ b o, b ∉ [s.heap.objs.size] → (s.heap.push { cls := .type "list_iterator", data := .fields #[.ref ax, .int 0 0] }).get? b = some o → h'.get? b = some o) → Stay s.heap h' := fun k b o e =>
    k b o (fun hb => by rw [List.mem_singleton.mp hb, get_size] at e; cases e) (up b o e)
  refine ⟨_, _, _, _, _, _, rfl, W, by simpa using hz, ⟨⟨_, Heap.get?_push_size _ rfl, rfl, rfl⟩, hl.at fun o e => Heap.get?_push_of_some _ e⟩, ?_, ⟨?_, ?_⟩, ?_⟩
  · intro b hb
    have hb' : b = s.heap.objs.size ∨ b = ax := by simpa using hb
    rw [Heap.size_push]
    rcases hb' with e | e
    · rw [e]; exact Nat.lt_succ_self _
    · rw [e]; exact Nat.lt_succ_of_lt (Heap.lt_size hlo)
  · intro C i v s₃ m₃ E' _ hP hns hv hk _
    have hP' : vs.toArray[i]? = some v := hP
    have st := ext hk
    exact tests C v s₃ m₃ E' (List.mem_of_getElem? (by simpa using hP')) hns hv st (F.keeps st) (N.grown st)
  · intro C i v s₃ m₃ E' _ hP hp hns hv hk _
    have hP' : vs.toArray[i]? = some v := hP
    have st := ext hk
    exact elts C v s₃ m₃ E' (List.mem_of_getElem? (by simpa using hP')) hp hns hv st (F.keeps st) (N.grown st)
  · intro D h' tk ys us hD hil hpl hlen hP hF hk
    have st := ext hk
    have eu : us = vs := by
      refine List.ext_getElem? fun j => ?_
      by_cases hj : j < us.length
      · have h1 : us[j]? = some us[j] := List.getElem?_eq_getElem hj
        have h2 : vs.toArray[j]? = some us[j] := hP j _ h1
        rw [h1]
        simpa using h2.symm
      · have hj2 : vs.length ≤ j := by
          have : us.length = vs.length := by rw [hlen]; simp
          omega
        rw [List.getElem?_eq_none (by omega), List.getElem?_eq_none hj2]
    subst eu
    have hD' : s.heap.get? D = none := by
      cases q : s.heap.get? D with
      | none => rfl
      | some o => have z := up D o q; dsimp only at hD; rw [z] at hD; cases hD
    obtain ⟨n, F', N', nd⟩ := comp_out F N hD' hpl st
    exact fin D n h' tk ys.toList F' (by simpa using N') nd st hF
theorem comp_str {y : Str} {t : Tok} {Fn : Value → Value → Prop} (hh : A.handled = none) (F : Fr h₀ L s.heap m) (N : News h₀ L s.heap news) (hz : y.cps.size ≤ sizeLine) (hi : ifs = [])
    (elts : ∀ C c u s₃ m₃ E', c ∈ y.cps.toList → s₃.heap.Ns C m₃ → m₃ x = some (.str ⟨#[c]⟩ u) → Stay s.heap s₃.heap → Fr h₀ L s₃.heap m → News h₀ L s₃.heap news →
      wpAny (model prog w) A (eval elt (compEnvC scope cl C env)) (EltEnd Fn (.str ⟨#[c]⟩ u) s₃) E' s₃)
    (fin : ∀ D n h' tk (us ys : List Value), Fr h₀ L h' m → News h₀ L h' ((D, _root_.PySem.W.listOf ys.toArray n) :: news) → (∀ p ∈ news, p.1 ≠ D) → Stay s.heap h' → us.length = y.cps.size → (∀ j v, us[j]? = some v → SignAt y j v) → Paired Fn us ys → Q (.ref D) { s with heap := h', toks := tk }) :
    wpAny (model prog w) A (pyIter (.str y t)) (CompAsk prog w A env elt x ifs scope cl (fun _ => true) Fn Q) E s := by
  subst hi
  refine wpAny_pyIter_str fun o St W hSt => ?_
  have up : Stay s.heap (s.heap.push o) := fun b o e => Heap.get?_push_of_some _ e
  have ext : ∀ {h' : Heap}, (∀ b o', b ∉ [s.heap.objs.size] → (s.heap.push o).get? b = some o' → h'.get? b = some o') → Stay s.heap h' := fun k b o' e =>
    k b o' (fun hb => by rw [List.mem_singleton.mp hb, get_size] at e; cases e) (up b o' e)
  refine ⟨_, _, _, _, _, _, rfl, W A hh, hz, hSt, ?_, ⟨?_, ?_⟩, ?_⟩
  · intro b hb
    rw [List.mem_singleton.mp hb, Heap.size_push]
    exact Nat.lt_succ_self _
  · intro C i v s₃ m₃ E' _ hP hns hv hk _
    exact wpAny_pure ⟨rfl, s₃.heap, s₃.toks, rfl, fun _ _ e => e⟩
  · intro C i v s₃ m₃ E' _ hP _ hns hv hk _
    have st := ext hk
    obtain ⟨c, u, hc, hv'⟩ := id hP
    subst hv'
    exact elts C c u s₃ m₃ E' (by have := Array.mem_of_getElem? hc; simpa using this) hns hv st (F.keeps st) (N.grown st)
  · intro D h' tk ys us hD hil hpl hlen hP hF hk
    have st := ext hk
    have hD' : s.heap.get? D = none := by
      cases q : s.heap.get? D with
      | none => rfl
      | some o' => have z := up D o' q; dsimp only at hD; rw [z] at hD; cases hD
    obtain ⟨n, F', N', nd⟩ := comp_out F N hD' hpl st
    exact fin D n h' tk us ys.toList F' (by simpa using N') nd st hlen hP ((congrArg (fun l => Paired Fn l ys.toList) (List.filter_eq_self.mpr fun _ _ => rfl)).mp hF)
end
end
section
noncomputable def Cl.of (n : Nat) : Cl := if n = 112 then .lit else if n = 138 then .name else if n = 164 then .var else if n = 190 then .un else if n = 216 then .bin else if n = 242 then .betw else if n = 268 then .inl else if n = 294 then .insel else
  if n = 320 then .ex else if n = 346 then .scal else if n = 370 then .case else if n = 396 then .call else if n = 422 then .cast else if n = 448 then .coll else if n = 474 then .isn else .mat
theorem Cl.of_addr (c : Cl) : Cl.of c.addr = c := by cases c <;> rfl
theorem Cl.addr_inj {c c' : Cl} (h : c.addr = c'.addr) : c = c' := by rw [← Cl.of_addr c, h, Cl.of_addr]
theorem at_inj {h : Heap} {a : Addr} {o o' : Obj} (x : atH h a o) (y : atH h a o') : o = o' := Option.some.inj (x.symm.trans y)
noncomputable def valsAt (h : Heap) (x : Addr) : List Value :=
  match (h.get? x).bind Obj.dict with
  | some d => match (h.get? d).map Obj.data with
    | some (.dict es _) => es.toList.map DictEntry.val
    | _ => []
  | none => []
noncomputable def seqAt (h : Heap) (v : Value) : List Value :=
  match v with
  | .ref l => match (h.get? l).map Obj.data with
    | some (.seq its _) => its.toList
    | _ => []
  | _ => []
noncomputable def strAt (v : Value) : Str := match v with | .str c _ => c | _ => Str.ofString ""
noncomputable def boolAt (v : Value) : Bool := match v with | .bool b => b | _ => false
noncomputable def noN (v : Value) : Bool := match v with | .none => false | _ => true
noncomputable def readK (h : Heap) (c : Cl) (vs : List Value) : Kd × List Value :=
  match c with
  | .lit => (.plain, [])
  | .var => (.var, [])
  | .scal => (.sub, [])
  | .ex => (.sub, [])
  | .name => (.name (strAt (vs.getD 6 .none)), [])
  | .coll => (.coll (foldS (strAt (vs.getD 1 .none))), [vs.getD 0 .none])
  | .cast => (.pass, [vs.getD 0 .none])
  | .un => (if strAt (vs.getD 0 .none) = Str.ofString "+" then .pass else .plain, [vs.getD 1 .none])
  | .isn => (.plain, [vs.getD 0 .none])
  | .insel => (.insel, [vs.getD 0 .none])
  | .betw => (.plain, [vs.getD 0 .none, vs.getD 1 .none, vs.getD 2 .none])
  | .inl => (.plain, vs.getD 0 .none :: seqAt h (vs.getD 1 .none))
  | .case => (.plain, (vs.getD 0 .none :: (seqAt h ((seqAt h (vs.getD 1 .none)).getD 0 .none) ++ [vs.getD 2 .none])).filter noN)
  | .mat => (.plain, [vs.getD 1 .none, vs.getD 2 .none, vs.getD 3 .none])
  | .bin => (.plain, [vs.getD 1 .none, vs.getD 2 .none])
  | .call => (if aggF (foldS (strAt (vs.getD 0 .none))) (seqAt h (vs.getD 1 .none)).length (boolAt (vs.getD 3 .none)) then .agg else .plain, seqAt h (vs.getD 1 .none))
theorem valsAt_of {h : Heap} {x d C : Addr} {es : List DictEntry} {n : Nat} (e1 : atH h x (instObj C d)) (e2 : atH h d (dictOf es n)) : valsAt h x = es.map DictEntry.val := by
  have e1 : h.get? x = some (instObj C d) := e1
  have e2 : h.get? d = some (dictOf es n) := e2
  unfold valsAt; rw [e1]; simp only [Option.bind_some]; rw [e2]; rfl
theorem seqAt_of {h : Heap} {l : Addr} {o : Obj} {its : Array Value} {n : Nat} (e : atH h l o) (eo : o.data = .seq its n) : seqAt h (.ref l) = its.toList := by
  have e : h.get? l = some o := e
  simp only [seqAt, e, Option.map_some, eo]
theorem NodeIn.read {h : Heap} {a : Addr} {c : Cl} {k : Kd} {vs : List Value} (x : NodeIn (atH h) a c k vs) : readK h c (valsAt h a) = (k, vs) := by
  cases x with
  | lit _ _ => rfl
  | var _ _ => rfl
  | scal _ _ => rfl
  | ex _ _ => rfl
  | name e1 e2 => exact congrArg (readK h .name) (valsAt_of e1 e2)
  | coll e1 e2 _ => exact congrArg (readK h .coll) (valsAt_of e1 e2)
  | cast e1 e2 => exact congrArg (readK h .cast) (valsAt_of e1 e2)
  | un e1 e2 => exact congrArg (readK h .un) (valsAt_of e1 e2)
  | isn e1 e2 => exact congrArg (readK h .isn) (valsAt_of e1 e2)
  | insel e1 e2 => exact congrArg (readK h .insel) (valsAt_of e1 e2)
  | betw e1 e2 => exact congrArg (readK h .betw) (valsAt_of e1 e2)
  | mat e1 e2 => exact congrArg (readK h .mat) (valsAt_of e1 e2)
  | bin e1 e2 => exact congrArg (readK h .bin) (valsAt_of e1 e2)
  | inl e1 e2 e3 => exact (congrArg (readK h .inl) (valsAt_of e1 e2)).trans (congrArg (fun s => (Kd.plain, Value.ref _ :: s)) (seqAt_of e3 rfl))
  | @case1 d a b c l p h1 h2 h3 t1 t2 t3 n n' n'' e1 e2 e3 e4 => exact (congrArg (readK h .case) (valsAt_of e1 e2)).trans ((congrArg (fun s => (Kd.plain, (Value.none :: (seqAt h (s.getD 0 .none) ++ [Value.ref c])).filter noN)) (seqAt_of e3 rfl)).trans (congrArg (fun s => (Kd.plain, (Value.none :: (s ++ [Value.ref c])).filter noN)) (seqAt_of e4 rfl)))
  | @case2 d a b c l p h1 h2 h3 t1 t2 t3 n n' n'' e1 e2 e3 e4 => exact (congrArg (readK h .case) (valsAt_of e1 e2)).trans ((congrArg (fun s => (Kd.plain, (Value.ref a :: (seqAt h (s.getD 0 .none) ++ [Value.none])).filter noN)) (seqAt_of e3 rfl)).trans (congrArg (fun s => (Kd.plain, (Value.ref a :: (s ++ [Value.none])).filter noN)) (seqAt_of e4 rfl)))
  | call e1 e2 e3 _ _ => exact (congrArg (readK h .call) (valsAt_of e1 e2)).trans (congrArg (fun s => (if aggF (foldS _) (List.length s) _ then Kd.agg else .plain, s)) (seqAt_of e3 rfl))
theorem NodeIn.det {h : Heap} {a : Addr} {c c' : Cl} {k k' : Kd} {vs vs' : List Value} (x : NodeIn (atH h) a c k vs) (y : NodeIn (atH h) a c' k' vs') : c = c' ∧ k = k' ∧ vs = vs' := by
  have hc : c = c' := by
    obtain ⟨d, _, e, _⟩ := x.inst
    obtain ⟨d', _, e', _⟩ := y.inst
    have := at_inj e e'
    simp only [instObj, Obj.mk.injEq, Value.ref.injEq] at this
    exact Cl.addr_inj this.1
  subst hc
  exact ⟨rfl, Prod.mk.inj (x.read.symm.trans y.read)⟩
end
section
theorem TreeIn.det {h : Heap} {v : Value} {t t' : T} (x : TreeIn (atH h) v t) (y : TreeIn (atH h) v t') : t = t' :=
  TreeIn.rec (motive_1 := fun v t _ => ∀ t', TreeIn (atH h) v t' → t = t') (motive_2 := fun vs ts _ => ∀ ts', TreesIn (atH h) vs ts' → ts = ts')
    (fun n _ ih t' y => by
      cases y with
      | mk n' s' =>
        obtain ⟨_, rfl, rfl⟩ := n.det n'
        rw [ih _ s'])
    (fun ts' y => by cases y; rfl)
    (fun _ _ ih1 ih2 ts' y => by cases y with | cons t' s' => rw [ih1 _ t', ih2 _ s']) x t' y
theorem TreesIn.det {h : Heap} {vs : List Value} {ts ts' : List T} (x : TreesIn (atH h) vs ts) (y : TreesIn (atH h) vs ts') : ts = ts' := by
  induction vs generalizing ts ts' with
  | nil => cases x; cases y; rfl
  | cons v vs ih =>
    cases x with
    | cons t s => cases y with
      | cons t' s' => rw [t.det t', ih s s']
noncomputable def OfTree (H : Heap) (f : T → Value) (v y : Value) : Prop := ∃ t, TreeIn (atH H) v t ∧ y = f t
theorem ofTree_all {H : Heap} {f : T → Value} {vs ys : List Value} {ts : List T} (x : Paired (OfTree H f) vs ys) (y : TreesIn (atH H) vs ts) : ys = ts.map f := by
  induction x generalizing ts with
  | nil => cases y; rfl
  | cons h _ ih => cases y with
    | cons ht' hs =>
      obtain ⟨t, ht, e⟩ := h
      rw [e, ht.det ht', ih hs]; rfl
theorem tree_of {W : Kn} : ∀ {vs : List Value} {ts : List T} {v : Value}, TreesIn W vs ts → v ∈ vs → ∃ t, TreeIn W v t ∧ depthT t ≤ depthL ts := by
  intro vs
  induction vs with
  | nil => intro ts v _ m; cases m
  | cons u vs ih =>
    intro ts v x m
    cases x with
    | cons h hs => cases m with
      | head => exact ⟨_, h, by rw [depthL]; exact Nat.le_max_left _ _⟩
      | tail _ m =>
        obtain ⟨t, a, b⟩ := ih hs m
        exact ⟨t, a, by rw [depthL]; exact Nat.le_trans b (Nat.le_max_right _ _)⟩
theorem any_var : ∀ {ts : List T}, hasVarL ts = ts.any hasVarT
  | [] => rfl
  | t :: ts => by rw [hasVarL, List.any_cons, any_var]
theorem any_sub : ∀ {ts : List T}, hasSubL ts = ts.any hasSubT
  | [] => rfl
  | t :: ts => by rw [hasSubL, List.any_cons, any_sub]
end
section
section
variable {prog : Program} {w : World} {A : Around} {E : Value → Shared → Prop} {s : Shared} {h₀ : Heap} {L : Addr} {m : Str → Option Value} {news : Led} {Q : Value → Shared → Prop}
theorem range_any (bs : List Bool) : (List.range bs.length).any (fun i => bs.getD i false) = bs.any id := by
  rw [Bool.eq_iff_iff, List.any_eq_true, List.any_eq_true]
  constructor
  · rintro ⟨i, hi, h⟩
    have hi := List.mem_range.mp hi
    rw [List.getD_eq_getElem?_getD, List.getElem?_eq_getElem hi] at h
    exact ⟨_, List.getElem_mem hi, h⟩
  · rintro ⟨b, hb, h⟩
    obtain ⟨i, hi, rfl⟩ := List.mem_iff_getElem.mp hb
    exact ⟨i, List.mem_range.mpr hi, by rw [List.getD_eq_getElem?_getD, List.getElem?_eq_getElem hi]; exact h⟩
theorem any_bools {ax : Addr} {bs : List Bool} (hh : A.handled = none) (F : Fr h₀ L s.heap m) (N : News h₀ L s.heap news) (hl : s.heap.IsList ax (bs.map Value.bool).toArray)
    (h : ∀ h' tk, Stay s.heap h' → Fr h₀ L h' m → News h₀ L h' news → Q (.bool (bs.any id)) { s with heap := h', toks := tk }) :
    wpAny (model prog w) A (call (.builtin "any") [.ref ax]) Q E s := by
  obtain ⟨lo, hlo, _⟩ := id hl
  have hne : ax ≠ s.heap.objs.size := Nat.ne_of_lt (Heap.lt_size hlo)
  refine call_any_walk (wpAny_pyIter_list hl ?_)
  have W := Walks.list (prog := prog) (w := w) (A := A.in1) hh s.heap.objs.size ax hne (bs.map Value.bool).toArray
  have ext : ∀ {h' : Heap}, (∀ b o, b ∉ [s.heap.objs.size] → (s.heap.push { cls := .type "list_iterator", data := .fields #[.ref ax, .int 0 0] }).get? b = some o → h'.get? b = some o) → Stay s.heap h' := fun k b o e =>
    k b o (fun hb => by rw [List.mem_singleton.mp hb, get_size] at e; cases e) (Heap.get?_push_of_some _ e)
  refine ⟨_, _, _, _, _, _, fun i => bs.getD i false, rfl, W, ⟨⟨_, Heap.get?_push_size _ rfl, rfl, rfl⟩, hl.at fun o e => Heap.get?_push_of_some _ e⟩, ?_, fun h' tk k => ?_⟩
  · intro i v s Q E hP hq
    have hP' : (bs.map Value.bool).toArray[i]? = some v := hP
    rw [List.getElem?_toArray, List.getElem?_map] at hP'
    dsimp only at hq
    rw [List.getD_eq_getElem?_getD] at hq
    cases e : bs[i]? with
    | none => rw [e] at hP'; cases hP'
    | some b =>
      rw [e] at hP' hq
      cases hP'
      exact wpAny_truthy_bool hq
  · have st := ext k
    have e : (bs.map Value.bool).toArray.size = bs.length := by simp
    rw [e, range_any]
    exact h _ _ st (F.keeps st) (N.grown st)
end
end
section
section
variable {prog : Program} {w : World} {A : Around} {E : Value → Shared → Prop} {s : Shared} {h₀ : Heap} {L : Addr} {m : Str → Option Value} {news : Led} {Q : Value → Shared → Prop}
theorem any_trees {ax : Addr} {ts : List T} {f : T → Bool} (hh : A.handled = none) (F : Fr h₀ L s.heap m) (N : News h₀ L s.heap news) (hl : s.heap.IsList ax (ts.map (fun t => Value.bool (f t))).toArray)
    (h : ∀ h' tk, Stay s.heap h' → Fr h₀ L h' m → News h₀ L h' news → Q (.bool (ts.any f)) { s with heap := h', toks := tk }) :
    wpAny (model prog w) A (call (.builtin "any") [.ref ax]) Q E s := by
  refine any_bools (bs := ts.map f) hh F N (by rw [List.map_map]; exact hl) ?_
  rw [List.any_map]
  exact h
theorem kids3 {W : Kn} {a : Addr} {c : Cl} {k : Kd} {vs : List Value} (Hn : NodeIn W a c k vs) : vs.length ≤ 3 := by
  cases Hn <;> first | assumption | exact Nat.le_of_ble_eq_true rfl
theorem ofTree_fil {H : Heap} {f : T → Value} {vs ys : List Value} {ts : List T} (h : Paired (OfTree H f) (vs.filter (fun _ => true)) ys) (hs : TreesIn (atH H) vs ts) : ys = ts.map f := by
  rw [show vs.filter (fun _ => true) = vs from List.filter_eq_self.mpr fun _ _ => rfl] at h
  exact ofTree_all h hs
theorem comp_trees {env : Env} {elt iter : Expr} {x : Str} {ifs : List Expr} {scope : Scope} {cl : List (Str × Addr)} {px pos : Pos} (f : T → Value) {H : Heap} {vs : List Value} {ts : List T} (Hs : TreesIn (atH H) vs ts)
    (hclos : closureFor scope env = pure cl) (hcell : ∀ y ∈ scope.names, y.2 ≠ .cell) (hkind : scope.kind = .function)
    (hnames : ∀ y ∈ scope.names, y.2 = .local → scope.names.lookup y.1 = some .local) (hx : scope.names.lookup x = some .local)
    (h : wpAny (model prog w) A (eval iter env) (fun xv s₁ => wpAny (model prog w) A (pyIter xv) (CompAsk prog w A env elt x ifs scope cl (fun _ => true) (OfTree H f) Q) E s₁) E s)
    (hs : ∀ x, foldedSetIterable iter env x = pure x := by intro _; rfl) :
    wpAny (model prog w) A (eval (.ListComp elt [⟨.Name x px, iter, ifs, 0⟩] scope pos) env) Q E s :=
  comp_of _ _ hclos hcell hkind hnames hx h hs
theorem elt_tree {H : Heap} {f : T → Value} {v : Value} {t : T} {s : Shared} {h' : Heap} {tk : Nat} (hT : TreeIn (atH H) v t) (k : Stay s.heap h') : EltEnd (OfTree H f) v s (f t) { s with heap := h', toks := tk } :=
  ⟨⟨t, hT, rfl⟩, h', tk, rfl, k⟩
end
end
section
theorem test_true {v : Value} {s : Shared} {prog : Program} {w : World} {A : Around} {E : Value → Shared → Prop} : wpAny (model prog w) A (pure true) (TestEnd ((fun _ => true) v) s) E s :=
  wpAny_pure ⟨rfl, s.heap, s.toks, rfl, fun _ _ e => e⟩
end
section
theorem kids_line {W : Kn} {a : Addr} {c : Cl} {k : Kd} {vs : List Value} (Hn : NodeIn W a c k vs) : vs.length ≤ sizeLine := by
  have := kids3 Hn
  rw [sizeLine_eq]
  omega
end
section
theorem test_nil {f : Expr → Bool → Sem (ForInStep Bool)} {s : Shared} {prog : Program} {w : World} {A : Around} {E : Value → Shared → Prop} : wpAny (model prog w) A (forIn ([] : List Expr) true f) (TestEnd true s) E s :=
  wpAny_pure ⟨rfl, s.heap, s.toks, rfl, fun _ _ e => e⟩
end
section
theorem sub_in {W : Kn} {a : Addr} {c : Cl} {k : Kd} {vs : List Value} {ts : List T} (Hn : NodeIn W a c k vs) (h : c ∈ [Cl.insel, Cl.ex, Cl.scal]) : Value.bool true = Value.bool (hasSubT (.mk a k ts)) := by
  simp only [List.mem_cons, List.not_mem_nil, or_false] at h
  rcases h with rfl | rfl | rfl <;> cases Hn <;> rfl
theorem sub_out {W : Kn} {a : Addr} {c : Cl} {k : Kd} {vs : List Value} {ts : List T} (Hn : NodeIn W a c k vs) (Hs : TreesIn W vs ts) (h : ¬ c ∈ [Cl.insel, Cl.ex, Cl.scal]) : Value.bool (ts.any hasSubT) = Value.bool (hasSubT (.mk a k ts)) := by
  simp only [List.mem_cons, List.not_mem_nil, or_false, not_or] at h
  rw [sub_other Hn Hs h.1 h.2.1 h.2.2, any_sub]
end
section
theorem one_tree {W : Kn} {v : Value} {ts : List T} {n : Nat} (h : TreesIn W [v] ts) (hd : depthL ts ≤ n) : ∃ t, ts = [t] ∧ TreeIn W v t ∧ depthT t ≤ n := by
  cases h with
  | cons a b =>
    cases b
    exact ⟨_, rfl, a, by simpa [depthL] using hd⟩
end
section
theorem col_name {r : Value} {a : Addr} {c : Str} {t : Tok} {ts : List T} (h : r = .str c t) : ColIs r (colT (.mk a (.name c) ts)) := by subst h; simp only [colT]; exact .some
theorem col_pass {r : Value} {a : Addr} {t : T} (h : ColIs r (colT t)) : ColIs r (colT (.mk a .pass [t])) := by simpa only [colT] using h
theorem col_plus {r : Value} {a : Addr} {t : T} {o : Str} (e : (o == Str.ofString "+") = true) (h : ColIs r (colT t)) : ColIs r (colT (.mk a (if o = Str.ofString "+" then .pass else .plain) [t])) := by
  rw [if_pos (by simpa using e)]
  exact col_pass h
theorem col_minus {a : Addr} {ts : List T} {o : Str} (e : (o == Str.ofString "+") = false) : ColIs .none (colT (.mk a (if o = Str.ofString "+" then .pass else .plain) ts)) := by
  rw [if_neg (by simpa using e)]
  simp only [colT]
  exact .none
theorem col_rest {W : Kn} {a : Addr} {c : Cl} {k : Kd} {vs : List Value} {ts : List T} (Hn : NodeIn W a c k vs) (h1 : ¬c = Cl.name) (h2 : ¬c = Cl.cast) (h3 : ¬c = Cl.un) : ColIs .none (colT (.mk a k ts)) := by
  have z := Hn.kp
  have : colT (.mk a k ts) = none := by
    cases k with
    | pass => exact z.elim (fun e => absurd e h2) (fun e => absurd e h3)
    | name _ => exact absurd z.1 h1
    | _ => simp only [colT]
  rw [this]
  exact .none
end
section
noncomputable def PairAt (h : Heap) (v : Value) (p : Value × Value) : Prop := ∃ t, v = .ref t ∧ h.IsTuple t #[p.1, p.2]
theorem paired_get {α β : Type} {F : α → β → Prop} : ∀ {l : List α} {r : List β} {i : Nat} {v : α}, Paired F l r → l[i]? = some v → ∃ p, r[i]? = some p ∧ F v p
  | _, _, 0, _, .cons h _, e => by cases e; exact ⟨_, rfl, h⟩
  | _, _, i + 1, _, .cons _ hs, e => paired_get (i := i) hs (by simpa using e)
theorem isTuple_stay {h h' : Heap} {t : Addr} {its : Array Value} (x : h.IsTuple t its) (k : Stay h h') : h'.IsTuple t its := let ⟨o, e, r⟩ := x; ⟨o, k _ _ e, r⟩
section
variable {prog : Program} {w : World} {A : Around} {E : Value → Shared → Prop} {s : Shared} {env : Env} {Q : Value → Shared → Prop}

noncomputable def PairAskT (prog : Program) (w : World) (A : Around) (env : Env) (c : Expr) (elt : Expr) (a b : Str) (scope : Scope) (cl : List (Str × Addr)) (p : Value × Value → Bool) (Fn : Value × Value → Value → Prop) (Q : Value → Shared → Prop) (xv : Value) (s : Shared) : Prop :=
  ∃ ax vs ps, xv = .ref ax ∧ s.heap.IsList ax (List.toArray vs) ∧ vs.length ≤ sizeLine ∧ Paired (PairAt s.heap) vs ps ∧
    (∀ C s₃ m₃ E' q, q ∈ ps → s₃.heap.Ns C m₃ → m₃ a = some q.1 → m₃ b = some q.2 → Stay s.heap s₃.heap → wpAny (model prog w) A (isTrue c (compEnvC scope cl C env) (eval c (compEnvC scope cl C env))) (fun ok s₄ => ok = p q ∧ Keeps s₃ s₄) E' s₃) ∧
    (∀ C s₃ m₃ E' q, q ∈ ps → p q = true → s₃.heap.Ns C m₃ → m₃ a = some q.1 → m₃ b = some q.2 → Stay s.heap s₃.heap → wpAny (model prog w) A (eval elt (compEnvC scope cl C env)) (fun y s₄ => Fn q y ∧ Keeps s₃ s₄) E' s₃) ∧
    (∀ D n h' tk ys, s.heap.get? D = none → h'.get? D = some (_root_.PySem.W.listOf (List.toArray ys) n) → Stay s.heap h' → Paired Fn (ps.filter p) ys → Q (.ref D) { s with heap := h', toks := tk })
theorem pair_compT {elt iter c : Expr} {a b : Str} {pa pb tp pos : Pos} {kk : Nat} {scope : Scope} {cl : List (Str × Addr)} (p : Value × Value → Bool) (Fn : Value × Value → Value → Prop) (hh : A.handled = none)
    (hclos : closureFor scope env = pure cl) (hcell : ∀ y ∈ scope.names, y.2 ≠ .cell) (hkind : scope.kind = .function)
    (hnames : ∀ y ∈ scope.names, y.2 = .local → scope.names.lookup y.1 = some .local) (hxa : scope.names.lookup a = some .local) (hxb : scope.names.lookup b = some .local) (hab : ¬ a = b)
    (h : wpAny (model prog w) A (eval iter env) (fun xv s₁ => PairAskT prog w A env c elt a b scope cl p Fn Q xv s₁) E s)
    (hs : ∀ x, foldedSetIterable iter env x = pure x := by intro _; rfl) :
    wpAny (model prog w) A (eval (.ListComp elt [⟨.Tuple [.Name a pa, .Name b pb] kk tp, iter, [c], 0⟩] scope pos) env) Q E s := by
  rw [eval_ListComp]
  refine wpAny_comprehension_free (use := none) rfl hs hclos hkind hnames (wpAny_mono h (fun xv s₁ h₁ => ?_) fun _ _ e => e)
  obtain ⟨ax, vs, ps, rfl, hl, hsz, hps, tst, helt, fin⟩ := h₁
  obtain ⟨lo, hlo, _⟩ := id hl
  have hlen : vs.length = ps.length := hps.length
  have hne : ax ≠ s₁.heap.objs.size := Nat.ne_of_lt (Heap.lt_size hlo)
  refine wpAny_pyIter_list hl ?_
  have W := KTurns.ofWalks (target := .Tuple [.Name a pa, .Name b pb] kk tp) (Walks.list (prog := prog) (w := w) hh s₁.heap.objs.size ax hne vs.toArray) fun i v s Q E st q => letGo_listiter st.1 q
  generalize hI : s₁.heap.objs.size = I at W hne ⊢
  have hII : s₁.heap.get? I = none := by rw [← hI]; exact get_size _
  generalize hH1 : s₁.heap.push { cls := .type "list_iterator", data := .fields #[.ref ax, .int 0 0] } = H1
  have st1 : Stay s₁.heap H1 := fun b o e => hH1 ▸ Heap.get?_push_of_some _ e
  have itI : H1.IsListIter I ax 0 := hH1 ▸ hI ▸ ⟨_, Heap.get?_push_size _ rfl, rfl, rfl⟩
  have hlt1 : I < H1.objs.size := let ⟨_, e, _⟩ := itI; Heap.lt_size e
  refine wpAny_newObj_type (wpAny_newFunctionEnv hcell (by intro y hy; simp at hy) (fun h₁ hns₁ hsb₁ => ?_) hkind)
  dsimp only at hns₁ hsb₁ ⊢
  have nD : H1.get? H1.objs.size = none := get_size _
  generalize hD : H1.objs.size = D at nD hns₁ hsb₁ ⊢
  have hH2D : (H1.push { cls := .type "list", dict := none, data := .seq ([] : List Value).toArray }).get? D = some (_root_.PySem.W.listOf ([] : List Value).toArray 0) := hD ▸ Heap.get?_push_size _ rfl
  have st2 : Stay H1 (H1.push { cls := .type "list", dict := none, data := .seq ([] : List Value).toArray }) := fun b o e => Heap.get?_push_of_some _ e
  generalize H1.push { cls := .type "list", dict := none, data := .seq ([] : List Value).toArray } = H2 at hns₁ hsb₁ hH2D st2 ⊢
  have nC : H2.get? H2.objs.size = none := get_size _
  generalize hC : H2.objs.size = C at nC hns₁ hsb₁ ⊢
  have hDC : D ≠ C := fun e => by rw [← e, hH2D] at nC; cases nC
  have hCI : C ≠ I := fun e => by
    obtain ⟨_, e1, _⟩ := itI
    rw [e, st2 _ _ e1] at nC; cases nC
  have hDI : D ≠ I := fun e => by
    obtain ⟨_, e1, _⟩ := itI
    rw [e, e1] at nD; cases nD
  have nD0 : s₁.heap.get? D = none := by
    cases q : s₁.heap.get? D with
    | none => rfl
    | some o => have z := st1 _ _ q; rw [nD] at z; cases z
  have nC0 : s₁.heap.get? C = none := by
    cases q : s₁.heap.get? C with
    | none => rfl
    | some o => have z := st2 _ _ (st1 _ _ q); rw [nC] at z; cases z
  have up1 : ∀ b o, b ≠ C → H2.get? b = some o → h₁.get? b = some o := fun b o hb e => hsb₁.extBut b o hb (Heap.get?_push_of_some _ e)
  have off : ∀ {b : Addr} {o : Obj}, s₁.heap.get? b = some o → b ≠ I ∧ b ≠ D ∧ b ≠ C := fun {b o} e =>
    ⟨fun q => by (rw [q, hII] at e; cases e), fun q => by (rw [q, nD0] at e; cases e), fun q => by (rw [q, nC0] at e; cases e)⟩
  have st3 : Stay s₁.heap h₁ := fun b o e => up1 b o (off e).2.2 (st2 _ _ (st1 _ _ e))
  have itI1 : h₁.IsListIter I ax 0 := let ⟨o, e, r⟩ := itI; ⟨o, up1 _ _ (Ne.symm hCI) (st2 _ _ e), r⟩
  have hacc : h₁.get? D = some (_root_.PySem.W.listOf ([] : List Value).toArray 0) := up1 _ _ hDC hH2D
  have loop : ∀ s₃ : Shared, s₃ = { s₁ with heap := h₁, toks := s₁.toks + ([] : List (Str × Value)).length } →
      codeAny (model prog w) A (.compLoop (.ListComp elt [⟨.Tuple [.Name a pa, .Name b pb] kk tp, iter, [c], 0⟩] scope pos) 0 (.ref I) (.ref D) (compEnvC scope cl C env))
        (compPost (model prog w) A E none Q (.ref D) C) s₃ := by
    rintro s₃ rfl
    refine kct_loop
      (fun k s' => ∃ h' tk i ys n m', s' = { s₁ with heap := h', toks := tk } ∧ i ≤ vs.length ∧ k = vs.length + 1 - i ∧ ys.length ≤ i ∧ h'.IsListIter I ax i ∧ Stay s₁.heap h' ∧ h'.Ns C m' ∧
        h'.get? D = some (_root_.PySem.W.listOf (List.toArray ys) n) ∧ Paired Fn ((ps.take i).filter p) ys) ?_ (vs.length + 1)
      ⟨h₁, _, 0, [], 0, _, rfl, Nat.zero_le _, rfl, Nat.le_refl _, itI1, st3, hns₁, hacc, by simpa using Paired.nil⟩
    rintro k s' ⟨h', tk, i, ys, n, m', rfl, hi, rfl, hyl, hit, hst, hn', hD', hP⟩
    by_cases hlt : i < vs.length
    · refine W.item i _ _ _ (by simpa using hlt) ⟨hit, hl.at fun o e => hst _ _ e⟩ fun v h₂ tk₂ hMd hk₂ => ?_
      refine W.go i v _ _ _ hMd fun h₃ hv hst₃ hk₃ => ?_
      have hv' : vs[i]? = some v := by
        have : vs.toArray[i]? = some v := hv
        simpa using this
      obtain ⟨q, hq, T, rfl, hT⟩ := paired_get hps hv'
      have up₃ : ∀ c o, c ≠ I → h'.get? c = some o → h₃.get? c = some o := fun c o hc e => hk₃ c o (by simpa using hc) (hk₂ c o (by simpa using hc) e)
      have s3 : Stay s₁.heap h₃ := fun c o e => up₃ c o (off e).1 (hst c o e)
      refine kcp_assign (env := compEnvC scope cl C env) hh (isTuple_stay hT s3) (lookup_relabel_local hxa) (lookup_relabel_local hxb) (by simp [compEnvC, relabel, hkind]) (hn'.at' fun o e => up₃ _ o hCI e) fun h₄ tk₄ hn₄ hs₄ => ?_
      have s4 : Stay s₁.heap h₄ := fun c o e => hs₄ c o (off e).2.2 (s3 c o e)
      have it4 : h₄.IsListIter I ax (i + 1) := let ⟨o, e, r⟩ := hst₃.1; ⟨o, hs₄ _ _ (Ne.symm hCI) e, r⟩
      have hD4 : h₄.get? D = some (_root_.PySem.W.listOf (List.toArray ys) n) := hs₄ _ _ hDC (up₃ _ _ hDI hD')
      have hqm : q ∈ ps := List.mem_of_getElem? hq
      have step : ps.take (i + 1) = ps.take i ++ [q] := by rw [List.take_add_one, hq]; rfl
      have nsk : ∀ {h5 : Heap}, (∀ b o, h₄.get? b = some o → h5.get? b = some o) → h5.Ns C (fun z => if z = b then some q.2 else if z = a then some q.1 else m' z) := fun k => hn₄.at' fun o e => k _ _ e
      have itk : ∀ {h5 : Heap}, (∀ b o, h₄.get? b = some o → h5.get? b = some o) → h5.IsListIter I ax (i + 1) := fun k => let ⟨o, e, r⟩ := it4; ⟨o, k _ _ e, r⟩
      have z := tst C { s₁ with heap := h₄, toks := tk₄ } _ (notedBy (model prog w) A (compEnvC scope cl C env) fun e s' => compPost (model prog w) A E none Q (.ref D) C (.error e) s') q hqm hn₄ (by simp [hab]) (by simp) s4
      refine wpAny_mono z (fun okb s₅ h₅ => ?_) fun _ _ e => e
      obtain ⟨rfl, h5, tk5, rfl, k5⟩ := h₅
      dsimp only at k5
      cases hp : p q with
      | false =>
        simp only [Bool.false_eq_true, if_false]
        exact ⟨vs.length + 1 - (i + 1), by omega, h5, tk5, i + 1, ys, n, _, rfl, hlt, rfl, Nat.le_succ_of_le hyl, itk k5, fun c o e => k5 _ _ (s4 c o e), nsk k5, k5 _ _ hD4, by rw [step, List.filter_append]; simpa [hp] using hP⟩
      | true =>
        simp only [if_true]
        have z := helt C { s₁ with heap := h5, toks := tk5 } _ (notedBy (model prog w) A (compEnvC scope cl C env) fun e s' => compPost (model prog w) A E none Q (.ref D) C (.error e) s') q hqm hp (nsk k5) (by simp [hab]) (by simp) (fun c o e => k5 _ _ (s4 c o e))
        refine wpAny_mono z (fun y s₆ h₆ => ?_) fun _ _ e => e
        obtain ⟨hF, h6, tk6, rfl, k6⟩ := h₆
        dsimp only at k6
        have k64 : ∀ b o, h₄.get? b = some o → h6.get? b = some o := fun b o e => k6 _ _ (k5 _ _ e)
        refine append_at (hsz := by rw [List.size_toArray]; omega) (k64 _ _ hD4) fun h7 hs7 hD7 => ?_
        rw [List.push_toArray] at hD7
        exact ⟨vs.length + 1 - (i + 1), by omega, h7, _, i + 1, ys ++ [y], n + 1, _, rfl, hlt, rfl, by rw [List.length_append, List.length_singleton]; omega, (let ⟨o, e, r⟩ := itk k64; ⟨o, hs7.extBut _ _ (Ne.symm hDI) e, r⟩), fun c o e => hs7.extBut _ _ (off e).2.1 (k64 _ _ (s4 c o e)), (nsk k64).at' fun o e => hs7.extBut _ _ (Ne.symm hDC) e, hD7, by (rw [step, List.filter_append, show [q].filter p = [q] by simp [hp]]; exact hP.snoc hF)⟩
    · have hin : i = vs.length := Nat.le_antisymm hi (Nat.not_lt.mp hlt)
      subst hin
      refine W.done _ _ _ (by rw [List.size_toArray]; exact ⟨hit, hl.at fun o e => hst _ _ e⟩) fun h₂ tk₂ hk₂ => ?_
      have up₂ : ∀ c o, c ≠ I → h'.get? c = some o → h₂.get? c = some o := fun c o hc e => hk₂ c o (by simpa using hc) e
      refine ⟨m', hn'.at' fun o e => up₂ _ o hCI e, fun h5 hs5 => ?_⟩
      have e : ps.take vs.length = ps := by rw [hlen, List.take_length]
      rw [e] at hP
      exact fin D n h5 _ ys nD0 (hs5.extBut _ _ hDC (up₂ _ _ hDI hD')) (fun c o e => hs5.extBut c o (off e).2.2 (up₂ c o (off e).1 (hst c o e))) hP
  exact codeAny_compStart_list (loop _ rfl) ((Walks.list (prog := prog) (w := w) hh I ax hne vs.toArray).self 0 _ _ _ ⟨itI1, hl.at fun o e => st3 _ _ e⟩ (loop _ rfl))

noncomputable def PairAskN (prog : Program) (w : World) (A : Around) (env : Env) (elt : Expr) (a b : Str) (scope : Scope) (cl : List (Str × Addr)) (Fn : Value × Value → Value → Prop) (Q : Value → Shared → Prop) (xv : Value) (s : Shared) : Prop :=
  ∃ ax vs ps, xv = .ref ax ∧ s.heap.IsList ax (List.toArray vs) ∧ vs.length ≤ sizeLine ∧ Paired (PairAt s.heap) vs ps ∧
    (∀ C s₃ m₃ E' q, q ∈ ps → s₃.heap.Ns C m₃ → m₃ a = some q.1 → m₃ b = some q.2 → Stay s.heap s₃.heap → wpAny (model prog w) A (eval elt (compEnvC scope cl C env)) (fun y s₄ => Fn q y ∧ Keeps s₃ s₄) E' s₃) ∧
    (∀ D n h' tk ys, s.heap.get? D = none → h'.get? D = some (_root_.PySem.W.listOf (List.toArray ys) n) → Stay s.heap h' → Paired Fn ps ys → Q (.ref D) { s with heap := h', toks := tk })
theorem pair_compN {elt iter : Expr} {a b : Str} {pa pb tp pos : Pos} {kk : Nat} {scope : Scope} {cl : List (Str × Addr)} (Fn : Value × Value → Value → Prop) (hh : A.handled = none)
    (hclos : closureFor scope env = pure cl) (hcell : ∀ y ∈ scope.names, y.2 ≠ .cell) (hkind : scope.kind = .function)
    (hnames : ∀ y ∈ scope.names, y.2 = .local → scope.names.lookup y.1 = some .local) (hxa : scope.names.lookup a = some .local) (hxb : scope.names.lookup b = some .local) (hab : ¬ a = b)
    (h : wpAny (model prog w) A (eval iter env) (fun xv s₁ => PairAskN prog w A env elt a b scope cl Fn Q xv s₁) E s)
    (hs : ∀ x, foldedSetIterable iter env x = pure x := by intro _; rfl) :
    wpAny (model prog w) A (eval (.ListComp elt [⟨.Tuple [.Name a pa, .Name b pb] kk tp, iter, [], 0⟩] scope pos) env) Q E s := by
  rw [eval_ListComp]
  refine wpAny_comprehension_free (use := none) rfl hs hclos hkind hnames (wpAny_mono h (fun xv s₁ h₁ => ?_) fun _ _ e => e)
  obtain ⟨ax, vs, ps, rfl, hl, hsz, hps, helt, fin⟩ := h₁
  obtain ⟨lo, hlo, _⟩ := id hl
  have hlen : vs.length = ps.length := hps.length
  have hne : ax ≠ s₁.heap.objs.size := Nat.ne_of_lt (Heap.lt_size hlo)
  refine wpAny_pyIter_list hl ?_
  have W := KTurns.ofWalks (target := .Tuple [.Name a pa, .Name b pb] kk tp) (Walks.list (prog := prog) (w := w) hh s₁.heap.objs.size ax hne vs.toArray) fun i v s Q E st q => letGo_listiter st.1 q
  generalize hI : s₁.heap.objs.size = I at W hne ⊢
  have hII : s₁.heap.get? I = none := by rw [← hI]; exact get_size _
  generalize hH1 : s₁.heap.push { cls := .type "list_iterator", data := .fields #[.ref ax, .int 0 0] } = H1
  have st1 : Stay s₁.heap H1 := fun b o e => hH1 ▸ Heap.get?_push_of_some _ e
  have itI : H1.IsListIter I ax 0 := hH1 ▸ hI ▸ ⟨_, Heap.get?_push_size _ rfl, rfl, rfl⟩
  have hlt1 : I < H1.objs.size := let ⟨_, e, _⟩ := itI; Heap.lt_size e
  refine wpAny_newObj_type (wpAny_newFunctionEnv hcell (by intro y hy; simp at hy) (fun h₁ hns₁ hsb₁ => ?_) hkind)
  dsimp only at hns₁ hsb₁ ⊢
  have nD : H1.get? H1.objs.size = none := get_size _
  generalize hD : H1.objs.size = D at nD hns₁ hsb₁ ⊢
  have hH2D : (H1.push { cls := .type "list", dict := none, data := .seq ([] : List Value).toArray }).get? D = some (_root_.PySem.W.listOf ([] : List Value).toArray 0) := hD ▸ Heap.get?_push_size _ rfl
  have st2 : Stay H1 (H1.push { cls := .type "list", dict := none, data := .seq ([] : List Value).toArray }) := fun b o e => Heap.get?_push_of_some _ e
  generalize H1.push { cls := .type "list", dict := none, data := .seq ([] : List Value).toArray } = H2 at hns₁ hsb₁ hH2D st2 ⊢
  have nC : H2.get? H2.objs.size = none := get_size _
  generalize hC : H2.objs.size = C at nC hns₁ hsb₁ ⊢
  have hDC : D ≠ C := fun e => by rw [← e, hH2D] at nC; cases nC
  have hCI : C ≠ I := fun e => by
    obtain ⟨_, e1, _⟩ := itI
    rw [e, st2 _ _ e1] at nC; cases nC
  have hDI : D ≠ I := fun e => by
    obtain ⟨_, e1, _⟩ := itI
    rw [e, e1] at nD; cases nD
  have nD0 : s₁.heap.get? D = none := by
    cases q : s₁.heap.get? D with
    | none => rfl
    | some o => have z := st1 _ _ q; rw [nD] at z; cases z
  have nC0 : s₁.heap.get? C = none := by
    cases q : s₁.heap.get? C with
    | none => rfl
    | some o => have z := st2 _ _ (st1 _ _ q); rw [nC] at z; cases z
  have up1 : ∀ b o, b ≠ C → H2.get? b = some o → h₁.get? b = some o := fun b o hb e => hsb₁.extBut b o hb (Heap.get?_push_of_some _ e)
  have off : ∀ {b : Addr} {o : Obj}, s₁.heap.get? b = some o → b ≠ I ∧ b ≠ D ∧ b ≠ C := fun {b o} e =>
    ⟨fun q => by (rw [q, hII] at e; cases e), fun q => by (rw [q, nD0] at e; cases e), fun q => by (rw [q, nC0] at e; cases e)⟩
  have st3 : Stay s₁.heap h₁ := fun b o e => up1 b o (off e).2.2 (st2 _ _ (st1 _ _ e))
  have itI1 : h₁.IsListIter I ax 0 := let ⟨o, e, r⟩ := itI; ⟨o, up1 _ _ (Ne.symm hCI) (st2 _ _ e), r⟩
  have hacc : h₁.get? D = some (_root_.PySem.W.listOf ([] : List Value).toArray 0) := up1 _ _ hDC hH2D
  have loop : ∀ s₃ : Shared, s₃ = { s₁ with heap := h₁, toks := s₁.toks + ([] : List (Str × Value)).length } →
      codeAny (model prog w) A (.compLoop (.ListComp elt [⟨.Tuple [.Name a pa, .Name b pb] kk tp, iter, [], 0⟩] scope pos) 0 (.ref I) (.ref D) (compEnvC scope cl C env))
        (compPost (model prog w) A E none Q (.ref D) C) s₃ := by
    rintro s₃ rfl
    refine kcp_loop
      (fun k s' => ∃ h' tk i ys n m', s' = { s₁ with heap := h', toks := tk } ∧ i ≤ vs.length ∧ k = vs.length + 1 - i ∧ ys.length ≤ i ∧ h'.IsListIter I ax i ∧ Stay s₁.heap h' ∧ h'.Ns C m' ∧
        h'.get? D = some (_root_.PySem.W.listOf (List.toArray ys) n) ∧ Paired Fn (ps.take i) ys) ?_ (vs.length + 1)
      ⟨h₁, _, 0, [], 0, _, rfl, Nat.zero_le _, rfl, Nat.le_refl _, itI1, st3, hns₁, hacc, by simpa using Paired.nil⟩
    rintro k s' ⟨h', tk, i, ys, n, m', rfl, hi, rfl, hyl, hit, hst, hn', hD', hP⟩
    by_cases hlt : i < vs.length
    · refine W.item i _ _ _ (by simpa using hlt) ⟨hit, hl.at fun o e => hst _ _ e⟩ fun v h₂ tk₂ hMd hk₂ => ?_
      refine W.go i v _ _ _ hMd fun h₃ hv hst₃ hk₃ => ?_
      have hv' : vs[i]? = some v := by
        have : vs.toArray[i]? = some v := hv
        simpa using this
      obtain ⟨q, hq, T, rfl, hT⟩ := paired_get hps hv'
      have up₃ : ∀ c o, c ≠ I → h'.get? c = some o → h₃.get? c = some o := fun c o hc e => hk₃ c o (by simpa using hc) (hk₂ c o (by simpa using hc) e)
      have s3 : Stay s₁.heap h₃ := fun c o e => up₃ c o (off e).1 (hst c o e)
      refine kcp_assign (env := compEnvC scope cl C env) hh (isTuple_stay hT s3) (lookup_relabel_local hxa) (lookup_relabel_local hxb) (by simp [compEnvC, relabel, hkind]) (hn'.at' fun o e => up₃ _ o hCI e) fun h₄ tk₄ hn₄ hs₄ => ?_
      have s4 : Stay s₁.heap h₄ := fun c o e => hs₄ c o (off e).2.2 (s3 c o e)
      have it4 : h₄.IsListIter I ax (i + 1) := let ⟨o, e, r⟩ := hst₃.1; ⟨o, hs₄ _ _ (Ne.symm hCI) e, r⟩
      have hD4 : h₄.get? D = some (_root_.PySem.W.listOf (List.toArray ys) n) := hs₄ _ _ hDC (up₃ _ _ hDI hD')
      have hqm : q ∈ ps := List.mem_of_getElem? hq
      have step : ps.take (i + 1) = ps.take i ++ [q] := by rw [List.take_add_one, hq]; rfl
      have nsk : ∀ {h5 : Heap}, (∀ b o, h₄.get? b = some o → h5.get? b = some o) → h5.Ns C (fun z => if z = b then some q.2 else if z = a then some q.1 else m' z) := fun k => hn₄.at' fun o e => k _ _ e
      have itk : ∀ {h5 : Heap}, (∀ b o, h₄.get? b = some o → h5.get? b = some o) → h5.IsListIter I ax (i + 1) := fun k => let ⟨o, e, r⟩ := it4; ⟨o, k _ _ e, r⟩
      have z := helt C { s₁ with heap := h₄, toks := tk₄ } _ (notedBy (model prog w) A (compEnvC scope cl C env) fun e s' => compPost (model prog w) A E none Q (.ref D) C (.error e) s') q hqm hn₄ (by simp [hab]) (by simp) s4
      refine wpAny_mono z (fun y s₆ h₆ => ?_) fun _ _ e => e
      obtain ⟨hF, h6, tk6, rfl, k64⟩ := h₆
      dsimp only at k64
      refine append_at (hsz := by rw [List.size_toArray]; omega) (k64 _ _ hD4) fun h7 hs7 hD7 => ?_
      rw [List.push_toArray] at hD7
      exact ⟨vs.length + 1 - (i + 1), by omega, h7, _, i + 1, ys ++ [y], n + 1, _, rfl, hlt, rfl, by rw [List.length_append, List.length_singleton]; omega, (let ⟨o, e, r⟩ := itk k64; ⟨o, hs7.extBut _ _ (Ne.symm hDI) e, r⟩), fun c o e => hs7.extBut _ _ (off e).2.1 (k64 _ _ (s4 c o e)), (nsk k64).at' fun o e => hs7.extBut _ _ (Ne.symm hDC) e, hD7, by rw [step]; exact hP.snoc hF⟩
    · have hin : i = vs.length := Nat.le_antisymm hi (Nat.not_lt.mp hlt)
      subst hin
      refine W.done _ _ _ (by rw [List.size_toArray]; exact ⟨hit, hl.at fun o e => hst _ _ e⟩) fun h₂ tk₂ hk₂ => ?_
      have up₂ : ∀ c o, c ≠ I → h'.get? c = some o → h₂.get? c = some o := fun c o hc e => hk₂ c o (by simpa using hc) e
      refine ⟨m', hn'.at' fun o e => up₂ _ o hCI e, fun h5 hs5 => ?_⟩
      have e : ps.take vs.length = ps := by rw [hlen, List.take_length]
      rw [e] at hP
      exact fin D n h5 _ ys nD0 (hs5.extBut _ _ hDC (up₂ _ _ hDI hD')) (fun c o e => hs5.extBut c o (off e).2.2 (up₂ c o (off e).1 (hst c o e))) hP
  exact codeAny_compStart_list (loop _ rfl) ((Walks.list (prog := prog) (w := w) hh I ax hne vs.toArray).self 0 _ _ _ ⟨itI1, hl.at fun o e => st3 _ _ e⟩ (loop _ rfl))
end
end
section
theorem fresh_news {h₀ h h' : Heap} {L l : Addr} {m : Str → Option Value} {o : Obj} {news : Led} (F : Fr h₀ L h m) (N : News h₀ L h news) (k : Stay h h') (hl : h.get? l = none) (hg : h'.get? l = some o) : News h₀ L h' ((l, o) :: news) ∧ ∀ p ∈ news, p.1 ≠ l := by
  refine ⟨fun p hp => ?_, fun p hp e => ?_⟩
  · rcases List.mem_cons.mp hp with rfl | hp
    · refine ⟨hg, fun e => ?_, ?_⟩
      · obtain ⟨o', _, _, ho, _⟩ := F.ns
        have e2 : l = L := e
        rw [e2, ho] at hl
        cases hl
      · cases q : h₀.get? l with
        | none => rfl
        | some o' => rw [F.keep _ _ q] at hl; cases hl
    · exact (N.grown k) p hp
  · have := (N p hp).1
    rw [e, hl] at this
    cases this
theorem TreesIn.at {W : Kn} {vs : List Value} {ts : List T} {i : Nat} {v : Value} (x : TreesIn W vs ts) (e : vs[i]? = some v) : ∃ t, ts[i]? = some t ∧ TreeIn W v t := by
  induction vs generalizing ts i with
  | nil => simp at e
  | cons u vs ih => cases x with
    | cons h hs => cases i with
      | zero => cases e; exact ⟨_, rfl, h⟩
      | succ i => exact ih (i := i) hs e
theorem depth_mem {ts : List T} {t : T} (h : t ∈ ts) : depthT t ≤ depthL ts := by
  induction h with
  | head _ => rw [depthL]; exact Nat.le_max_left _ _
  | tail _ _ ih => rw [depthL]; exact Nat.le_trans ih (Nat.le_max_right _ _)
theorem forget2 {x y : Str} {m m₀ : Str → Option Value} (h : ∀ z, z ≠ x → z ≠ y → m z = m₀ z) : m = fun z => if z = x then m z else if z = y then m z else m₀ z := by
  funext z
  by_cases h1 : z = x
  · simp [h1]
  · by_cases h2 : z = y
    · simp [h2]
    · simp [h1, h2, h z h1 h2]
theorem forget1 {x y : Str} {v : Value} {m m₀ : Str → Option Value} (hy : m y = some v) (h : ∀ z, z ≠ x → z ≠ y → m z = m₀ z) : m = fun z => if z = x then m z else if z = y then some v else m₀ z := by
  funext z
  by_cases h1 : z = x
  · simp [h1]
  · by_cases h2 : z = y
    · simp [h2, hy]
    · simp [h1, h2, h z h1 h2]
section
variable {prog : Program} {w : World} {A : Around} {E : Value → Shared → Prop} {s : Shared} {env : Env} {h₀ : Heap} {target : Expr} {body : List Stmt} {Q : Flow → Shared → Prop}
theorem for_trees (x y : Str) (P : List T → Prop) {L l : Addr} {n : Nat} {vs : List Value} {ts : List T} {m₀ : Str → Option Value} {news : Led} (hLe : env.locals = L) (hh : A.handled = none) (F : Fr h₀ L s.heap m₀) (N : News h₀ L s.heap news) (hm : (l, _root_.PySem.W.listOf vs.toArray n) ∈ news) (Ts : TreesIn (atH h₀) vs ts) (p0 : P [])
    (turn : ∀ I v t us h tk own (u : Str → Option Value), TreeIn (atH h₀) v t → depthT t ≤ depthL ts → (∃ rest, ts = us ++ t :: rest) → P us → (∀ p ∈ news, p.1 ≠ I) → Fr h₀ L h (fun z => if z = x then u z else if z = y then u z else m₀ z) → News h₀ L h (news ++ own) →
      wpAny (model prog w) A (assign target env v) (fun _ s₂ => wpAny (model prog w) A (execs body env) (TurnEnd h₀ L I own (fun m nw => nw = news ∧ P (us ++ [t]) ∧ ∀ z, z ≠ x → z ≠ y → m z = m₀ z) { s with heap := h, toks := tk } Q) E s₂) E { s with heap := h, toks := tk })
    (done : ∀ h tk (u : Str → Option Value), P ts → Fr h₀ L h (fun z => if z = x then u z else if z = y then u z else m₀ z) → News h₀ L h news → Q .next { s with heap := h, toks := tk }) :
    wpAny (model prog w) A (pyIter (.ref l)) (fun it s₂ => TurnsAt prog w A h₀ env target body Q E it s₂) E s := by
  refine for_items hLe hh F N (isl_news N hm) (N _ hm).2.1 (fun i m nw => nw = news ∧ P (ts.take i) ∧ ∀ z, z ≠ x → z ≠ y → m z = m₀ z) ⟨rfl, by simpa using p0, fun _ _ _ => rfl⟩ ?_ ?_
  · rintro I i v m₁ nw h tk own hv ⟨rfl, hp, hm₁⟩ hI _ ho F' N'
    obtain ⟨t, ht, hT⟩ := Ts.at hv
    rw [forget2 hm₁] at F'
    have e : ts.take (i + 1) = ts.take i ++ [t] := by rw [List.take_add_one, ht]; rfl
    have := turn I v t (ts.take i) h tk own m₁ hT (depth_mem (List.mem_of_getElem? ht)) ⟨ts.drop (i + 1), ?_⟩ hp hI F' N'
    · rw [e]; exact this
    · obtain ⟨hi, hg⟩ := List.getElem?_eq_some_iff.mp ht
      rw [← hg, ← List.drop_eq_getElem_cons hi, List.take_append_drop]
  · rintro m' nw h tk ⟨rfl, hp, hm₁⟩ F' N'
    rw [forget2 hm₁] at F'
    rw [← Ts.len, List.take_length] at hp
    exact done h tk m' hp F' N'
theorem for_fill (x y : Str) (val : List T → List Value) {L l f₀ : Addr} {n n₀ : Nat} {vs : List Value} {ts : List T} {m₀ : Str → Option Value} {news : Led} (hLe : env.locals = L) (hh : A.handled = none) (F : Fr h₀ L s.heap m₀) (N : News h₀ L s.heap ((f₀, _root_.PySem.W.listOf (val []).toArray n₀) :: news)) (hm : (l, _root_.PySem.W.listOf vs.toArray n) ∈ news) (hy : m₀ y = some (.ref f₀)) (Ts : TreesIn (atH h₀) vs ts)
    (turn : ∀ I it v t us f n' h tk own (u : Str → Option Value), TreeIn (atH h₀) v t → depthT t ≤ depthL ts → (∃ rest, ts = us ++ t :: rest) → (∀ p ∈ news, p.1 ≠ I) → f ≠ I → (I, it) ∈ own → Fr h₀ L h (fun z => if z = x then u z else if z = y then some (.ref f) else m₀ z) → News h₀ L h ((f, _root_.PySem.W.listOf (val us).toArray n') :: (news ++ own)) →
      wpAny (model prog w) A (assign target env v) (fun _ s₂ => wpAny (model prog w) A (execs body env) (TurnEnd h₀ L I own (fun m nw => ∃ f' n'', nw = (f', _root_.PySem.W.listOf (val (us ++ [t])).toArray n'') :: news ∧ m y = some (.ref f') ∧ ∀ z, z ≠ x → z ≠ y → m z = m₀ z) { s with heap := h, toks := tk } Q) E s₂) E { s with heap := h, toks := tk })
    (done : ∀ f n' h tk (u : Str → Option Value), Fr h₀ L h (fun z => if z = x then u z else if z = y then some (.ref f) else m₀ z) → News h₀ L h ((f, _root_.PySem.W.listOf (val ts).toArray n') :: news) → Q .next { s with heap := h, toks := tk }) :
    wpAny (model prog w) A (pyIter (.ref l)) (fun it s₂ => TurnsAt prog w A h₀ env target body Q E it s₂) E s := by
  refine for_items hLe hh F N (isl_news N (List.mem_cons_of_mem _ hm)) (N _ (List.mem_cons_of_mem _ hm)).2.1 (fun i m nw => ∃ f' n'', nw = (f', _root_.PySem.W.listOf (val (ts.take i)).toArray n'') :: news ∧ m y = some (.ref f') ∧ ∀ z, z ≠ x → z ≠ y → m z = m₀ z) ⟨f₀, n₀, by simp, hy, fun _ _ _ => rfl⟩ ?_ ?_
  · rintro I i v m₁ nw h tk own hv ⟨f, n', rfl, hy₁, hm₁⟩ hI ⟨it, hit⟩ ho F' N'
    obtain ⟨t, ht, hT⟩ := Ts.at hv
    rw [forget1 hy₁ hm₁] at F'
    have e : ts.take (i + 1) = ts.take i ++ [t] := by rw [List.take_add_one, ht]; rfl
    have := turn I it v t (ts.take i) f n' h tk own m₁ hT (depth_mem (List.mem_of_getElem? ht)) ⟨ts.drop (i + 1), ?_⟩ (fun p hp => hI p (List.mem_cons_of_mem _ hp)) (hI _ (List.Mem.head _)) hit F' N'
    · rw [e]; exact this
    · obtain ⟨hi, hg⟩ := List.getElem?_eq_some_iff.mp ht
      rw [← hg, ← List.drop_eq_getElem_cons hi, List.take_append_drop]
  · rintro m' nw h tk ⟨f, n', rfl, hy₁, hm₁⟩ F' N'
    rw [forget1 hy₁ hm₁] at F'
    rw [← Ts.len, List.take_length] at N'
    exact done f n' h tk m' F' N'
end
theorem explL_append : ∀ (l r : List T), explL (l ++ r) = (explL l).or (explL r)
  | [], r => by simp [explL]
  | t :: l, r => by rw [List.cons_append, explL, explL, explL_append l r, Option.or_assoc]
theorem namesL_append : ∀ (l r : List T), namesL (l ++ r) = namesL l ++ namesL r
  | [], r => by simp [namesL]
  | t :: l, r => by rw [List.cons_append, namesL, namesL, namesL_append l r, List.append_assoc]
theorem aggsL_append : ∀ (l r : List T), aggsL (l ++ r) = aggsL l ++ aggsL r
  | [], r => by simp [aggsL]
  | t :: l, r => by rw [List.cons_append, aggsL, aggsL, aggsL_append l r, List.append_assoc]
end
section
theorem FreshL.out {vs : List Value} {h h' : Heap} {r : Value} (x : FreshL vs h h' r) : Stay h h' ∧ ∃ l n, r = .ref l ∧ h.get? l = none ∧ h'.get? l = some (_root_.PySem.W.listOf vs.toArray n) := x
end
section
structure Tag (k : Nat) (P : Prop) : Prop where
  out : P
end
section
theorem explL_next {us : List T} {t : T} (hu : explL us = none) (ht : explT t = none) : explL (us ++ [t]) = none := by rw [explL_append, hu, explL, ht]; rfl
theorem explL_found {us ts : List T} {t : T} {c : Str} (hr : ∃ rest, ts = us ++ t :: rest) (hu : explL us = none) (ht : explT t = some c) : explL ts = some c := by
  obtain ⟨r, rfl⟩ := hr
  rw [explL_append, hu, explL, ht]; rfl
theorem col_none {r : Value} {o : Option Str} (e : o = none) (h : r = .none) : ColIs r o := by subst e; subst h; exact .none
theorem col_some {c : Str} {t : Tok} {o : Option Str} (e : o = some c) : ColIs (.str c t) o := by subst e; exact .some
end
section
theorem news_swap {h₀ h : Heap} {L : Addr} {a b : Addr × Obj} {r : Led} (N : News h₀ L h (a :: b :: r)) : News h₀ L h (b :: a :: r) := fun p hp => N p (by
  simp only [List.mem_cons] at hp ⊢
  rcases hp with h | h | h
  · exact .inr (.inl h)
  · exact .inl h
  · exact .inr (.inr h))
theorem ne_allLt {f I : Addr} {it : Obj} {a b : Led} (h : AllLt f (a ++ b)) (hit : (I, it) ∈ b) : f ≠ I := fun e => Nat.lt_irrefl _ (e ▸ tb_ltOf h _ (List.mem_append.mpr (.inr hit)))
theorem words_le {W : Kn} {a : Addr} {c : Cl} {k : Kd} {vs : List Value} {ts : List T} (Hn : NodeIn W a c k vs) (Hs : TreesIn W vs ts) : (wordsL ts).length ≤ (wordsT (.mk a k ts)).length := by
  have z := Hn.kp
  cases k with
  | var => rw [no_kids Hs z.2]; exact Nat.zero_le _
  | sub => rw [no_kids Hs z.2]; exact Nat.zero_le _
  | name _ => rw [no_kids Hs z.2]; exact Nat.zero_le _
  | agg => rw [wordsT, List.length_cons, List.length_append]; exact Nat.le_succ_of_le (Nat.le_add_right _ _)
  | coll _ => rw [wordsT]; exact Nat.le_succ _
  | insel => rw [wordsT]; exact Nat.le_succ _
  | pass => rw [wordsT]; exact Nat.le_refl _
  | plain => rw [wordsT]; exact Nat.le_refl _
theorem words_mem {ts : List T} {t : T} (h : t ∈ ts) : (wordsT t).length ≤ (wordsL ts).length := by
  induction h with
  | head _ => rw [wordsL, List.length_append]; exact Nat.le_add_right _ _
  | tail _ _ ih => rw [wordsL, List.length_append]; exact Nat.le_trans ih (Nat.le_add_left _ _)
theorem wordsL_append : ∀ (l r : List T), wordsL (l ++ r) = wordsL l ++ wordsL r
  | [], r => by simp [wordsL]
  | t :: l, r => by rw [List.cons_append, wordsL, wordsL, wordsL_append l r, List.append_assoc]
theorem namesL_len (ts : List T) : (namesL ts).length ≤ (wordsL ts).length := by rw [← names_L]; exact List.length_filterMap_le ..
theorem aggsL_len (ts : List T) : (aggsL ts).length ≤ (wordsL ts).length := by
  have h := outer_L ts 0 (by omega)
  have h2 := outer_len (wordsL ts) 0
  rw [h] at h2
  simpa using h2
theorem names_next {us : List T} {t : T} : namesL (us ++ [t]) = namesL us ++ namesT t := by rw [namesL_append, namesL, namesL, List.append_nil]
theorem aggs_next {us : List T} {t : T} : aggsL (us ++ [t]) = aggsL us ++ aggsT t := by rw [aggsL_append, aggsL, aggsL, List.append_nil]
theorem turn_len {ts us : List T} {t : T} (hr : ∃ rest, ts = us ++ t :: rest) : (wordsT t).length ≤ (wordsL ts).length ∧ (wordsL us).length ≤ (wordsL ts).length := by
  obtain ⟨r, rfl⟩ := hr
  rw [wordsL_append]
  simp only [wordsL, List.length_append]
  omega
end
section
theorem my_add {prog : Program} {w : World} {A : Around} {E : Value → Shared → Prop} {s : Shared} {h₀ : Heap} {L l b : Addr} {m : Str → Option Value} {news : Led} {vs ws : List Value} {n n' : Nat} {Q : Value → Shared → Prop} (F : Fr h₀ L s.heap m) (N : News h₀ L s.heap news)
    (hl : (l, _root_.PySem.W.listOf vs.toArray n) ∈ news) (hb : (b, _root_.PySem.W.listOf ws.toArray n') ∈ news) (hz : vs.length + ws.length ≤ sizeLine)
    (h : ∀ D h', Fr h₀ L h' m → News h₀ L h' ((D, _root_.PySem.W.listOf (vs ++ ws).toArray 0) :: news) → (∀ p ∈ news, p.1 < D) → Q (.ref D) { s with heap := h' }) :
    wpAny (model prog w) A (binaryOp .Add (.ref l) (.ref b)) Q E s :=
  add_lists (hsz := hz) F N (isl_news N hl) (isl_news N hb) fun h' F' N' => h _ h' F' N' fun p hp => Heap.lt_size (N p hp).1
theorem fill_end {x y : Str} {val : List T → List Value} {us : List T} {t : T} {h₀ h' : Heap} {L I D : Addr} {it : Obj} {own news rest : Led} {s : Shared} {Q : Flow → Shared → Prop} {m' m₀ : Str → Option Value} {tk n : Nat} {vs : List Value}
    (F' : Fr h₀ L h' m') (N' : News h₀ L h' ((D, _root_.PySem.W.listOf vs.toArray n) :: rest)) (lt : ∀ p ∈ rest, p.1 < D) (hs : ∀ p ∈ news ++ own, p ∈ rest) (hit : (I, it) ∈ own) (hI : ∀ p ∈ news, p.1 ≠ I) (e : vs = val (us ++ [t])) (hy : m' y = some (.ref D)) (hm : ∀ z, z ≠ x → z ≠ y → m' z = m₀ z) :
    TurnEnd h₀ L I own (fun m nw => ∃ f' n'', nw = (f', _root_.PySem.W.listOf (val (us ++ [t])).toArray n'') :: news ∧ m y = some (.ref f') ∧ ∀ z, z ≠ x → z ≠ y → m z = m₀ z) s Q .next { s with heap := h', toks := tk } := by
  refine TurnEnd.go F' (nw' := (D, _root_.PySem.W.listOf vs.toArray n) :: news) (fun p hp => ?_) (fun p hp => ?_) ⟨D, n, by rw [e], hy, hm⟩
  · rcases List.mem_cons.mp hp with rfl | hp
    · exact N' _ (.head _)
    · exact N' _ (.tail _ (hs p hp))
  · rcases List.mem_cons.mp hp with rfl | hp
    · exact fun q => Nat.lt_irrefl _ (q ▸ lt _ (hs _ (List.mem_append.mpr (.inr hit))))
    · exact hI p hp
theorem names_add {ts us : List T} {t : T} (hr : ∃ rest, ts = us ++ t :: rest) (hw : (wordsL ts).length ≤ 10000) : ((namesL us).map Value.ref).length + ((namesT t).map Value.ref).length ≤ sizeLine := by
  rw [sizeLine_eq, List.length_map, List.length_map]
  have a := turn_len hr
  have b := namesL_len us
  have c := names_len t
  omega
theorem aggs_add {ts us : List T} {t : T} (hr : ∃ rest, ts = us ++ t :: rest) (hw : (wordsL ts).length ≤ 10000) : ((aggsL us).map Value.ref).length + ((aggsT t).map Value.ref).length ≤ sizeLine := by
  rw [sizeLine_eq, List.length_map, List.length_map]
  have a := turn_len hr
  have b := aggsL_len us
  have c := aggs_len t
  omega
theorem names_val {us : List T} {t : T} : (namesL us).map Value.ref ++ (namesT t).map Value.ref = (namesL (us ++ [t])).map Value.ref := by rw [names_next, List.map_append]
theorem aggs_val {us : List T} {t : T} : (aggsL us).map Value.ref ++ (aggsT t).map Value.ref = (aggsL (us ++ [t])).map Value.ref := by rw [aggs_next, List.map_append]
end
section
inductive WdP : Value × Value → Wd → Prop
  | variable {t : Tok} : WdP (.str (Str.ofString "variable") t, .none) .variable
  | select {t : Tok} : WdP (.str (Str.ofString "select") t, .none) .select
  | name {a : Addr} {t : Tok} : WdP (.str (Str.ofString "name") t, .ref a) (.name a)
  | collate {w : Str} {t u : Tok} : WdP (.str (Str.ofString "collate") t, .str w u) (.collate w)
  | opn {a : Addr} {t : Tok} : WdP (.str (Str.ofString "open") t, .ref a) (.opn a)
  | cls {a : Addr} {t : Tok} : WdP (.str (Str.ofString "close") t, .ref a) (.cls a)
theorem wdP_of {h : Heap} {v : Value} {x : Wd} (H : WdIn (atH h) v x) : ∃ p, PairAt h v p ∧ WdP p x := by
  cases H
  · exact ⟨_, ⟨_, rfl, _, by assumption, rfl, _, rfl⟩, .variable⟩
  · exact ⟨_, ⟨_, rfl, _, by assumption, rfl, _, rfl⟩, .select⟩
  · exact ⟨_, ⟨_, rfl, _, by assumption, rfl, _, rfl⟩, .name⟩
  · exact ⟨_, ⟨_, rfl, _, by assumption, rfl, _, rfl⟩, .collate⟩
  · exact ⟨_, ⟨_, rfl, _, by assumption, rfl, _, rfl⟩, .opn⟩
  · exact ⟨_, ⟨_, rfl, _, by assumption, rfl, _, rfl⟩, .cls⟩
theorem wordsP_of {h : Heap} {vs : List Value} {xs : List Wd} (x : WordsIn (atH h) vs xs) : ∃ ps, Paired (PairAt h) vs ps ∧ Paired WdP ps xs := by
  induction x with
  | nil => exact ⟨[], .nil, .nil⟩
  | cons H _ ih =>
    obtain ⟨p, a, b⟩ := wdP_of H
    obtain ⟨ps, c, d⟩ := ih
    exact ⟨p :: ps, .cons a c, .cons b d⟩
noncomputable def tagIs (kd : Str) (q : Value × Value) : Bool := match q.1 with
  | .str w _ => w == kd
  | _ => false
noncomputable def IsSnd (q : Value × Value) (y : Value) : Prop := y = q.2
theorem isSnd_all {ps : List (Value × Value)} {ys : List Value} (x : Paired IsSnd ps ys) : ys = ps.map (·.2) := pr_map1 (fun _ _ e => e) x
theorem tag_str {q : Value × Value} {x : Wd} (h : WdP q x) : ∃ w t v, q = (.str w t, v) ∧ w.cps.size ≤ 8 := by
  cases h <;> exact ⟨_, _, _, rfl, by decide +kernel⟩
theorem tag_of {ps : List (Value × Value)} {xs : List Wd} {q : Value × Value} (h : Paired WdP ps xs) (hq : q ∈ ps) : ∃ w t v, q = (.str w t, v) ∧ w.cps.size ≤ 8 :=
  let ⟨_, e⟩ := paired_mem h hq
  tag_str e
end
section
theorem pairs_up {h h' : Heap} {vs : List Value} {ps : List (Value × Value)} (H : Paired (PairAt h) vs ps) (k : ∀ b o, h.get? b = some o → h'.get? b = some o) : Paired (PairAt h') vs ps :=
  H.mono fun _ _ ⟨t, e, x⟩ => ⟨t, e, isTuple_stay x k⟩
end
section
noncomputable def EltEnd2 (Fn : Value × Value → Value → Prop) (q : Value × Value) (s₃ : Shared) (y : Value) (s₄ : Shared) : Prop := Fn q y ∧ Keeps s₃ s₄
end
section
noncomputable def KdIs (_ : Str) : Prop := True
section
variable {prog : Program} {w : World} {A : Around} {E : Value → Shared → Prop} {s : Shared} {env : Env} {Q : Value → Shared → Prop}
theorem pairAskT_intro {c elt : Expr} {a b : Str} {scope : Scope} {cl : List (Str × Addr)} {p : Value × Value → Bool} {Fn : Value × Value → Value → Prop} {ax : Addr} {vs : List Value} {ps : List (Value × Value)}
    (hl : s.heap.IsList ax vs.toArray) (hz : vs.length ≤ sizeLine) (hp : Paired (PairAt s.heap) vs ps)
    (tst : ∀ C s₃ m₃ E' q, q ∈ ps → s₃.heap.Ns C m₃ → m₃ a = some q.1 → m₃ b = some q.2 → Stay s.heap s₃.heap → wpAny (model prog w) A (isTrue c (compEnvC scope cl C env) (eval c (compEnvC scope cl C env))) (TestEnd (p q) s₃) E' s₃)
    (elts : ∀ C s₃ m₃ E' q, q ∈ ps → p q = true → s₃.heap.Ns C m₃ → m₃ a = some q.1 → m₃ b = some q.2 → Stay s.heap s₃.heap → wpAny (model prog w) A (eval elt (compEnvC scope cl C env)) (EltEnd2 Fn q s₃) E' s₃)
    (fin : ∀ D n h' tk ys, s.heap.get? D = none → h'.get? D = some (_root_.PySem.W.listOf (List.toArray ys) n) → Stay s.heap h' → Paired Fn (ps.filter p) ys → Q (.ref D) { s with heap := h', toks := tk }) :
    PairAskT prog w A env c elt a b scope cl p Fn Q (.ref ax) s :=
  ⟨ax, vs, ps, rfl, hl, hz, hp, tst, elts, fin⟩
theorem comp_all {elt iter c : Expr} {kd : Str} {a b : Str} {pa pb tp pos : Pos} {kk : Nat} {scope : Scope} {cl : List (Str × Addr)} (hkd : KdIs kd) (hh : A.handled = none)
    (hclos : closureFor scope env = pure cl) (hcell : ∀ y ∈ scope.names, y.2 ≠ .cell) (hkind : scope.kind = .function)
    (hnames : ∀ y ∈ scope.names, y.2 = .local → scope.names.lookup y.1 = some .local) (hxa : scope.names.lookup a = some .local) (hxb : scope.names.lookup b = some .local) (hab : ¬ a = b)
    (h : wpAny (model prog w) A (eval iter env) (fun xv s₁ => PairAskT prog w A env c elt a b scope cl (tagIs kd) IsSnd Q xv s₁) E s)
    (hs : ∀ x, foldedSetIterable iter env x = pure x := by intro _; rfl) :
    wpAny (model prog w) A (eval (.ListComp elt [⟨.Tuple [.Name a pa, .Name b pb] kk tp, iter, [c], 0⟩] scope pos) env) Q E s :=
  pair_compT _ _ hh hclos hcell hkind hnames hxa hxb hab h hs
end
end
section
theorem keeps_refl (s : Shared) : Keeps s s := ⟨s.heap, s.toks, rfl, fun _ _ e => e⟩
theorem tag_test {kd w : Str} {t : Tok} {v : Value} {s : Shared} : TestEnd (tagIs kd (.str w t, v)) s (w == kd) s := ⟨rfl, keeps_refl s⟩
theorem snd_elt {a v : Value} {s : Shared} : EltEnd2 IsSnd (a, v) s v s := ⟨rfl, keeps_refl s⟩
end
section
noncomputable def notNone : Value → Bool
  | .none => false
  | _ => true
noncomputable def firstV : List Value → Value → Value
  | [], v => v
  | a :: _, _ => a
noncomputable def IsSame (v y : Value) : Prop := y = v
theorem isSame_all {vs ys : List Value} (x : Paired IsSame vs ys) : ys = vs := (pr_map1 (f := fun v => v) (fun _ _ e => e) x).trans (List.map_id _)
noncomputable def NoneStr (v : Value) : Prop := v = .none ∨ ∃ c t, v = .str c t
theorem firstV_at {ys : List Value} {v : Value} : (ys ++ [v])[(0 : Int).toNat]? = some (firstV ys v) := by cases ys <;> rfl
section
variable {prog : Program} {w : World} {A : Around} {E : Value → Shared → Prop} {s : Shared} {env : Env} {Q : Value → Shared → Prop}
theorem test_one {c : Expr} {e : Env} {b : Bool} {s₃ : Shared} {E' : Value → Shared → Prop} (h : wpAny (model prog w) A (isTrue c e (eval c e)) (TestEnd b s₃) E' s₃) :
    wpAny (model prog w) A (forIn [c] true fun c r => if r = true then do let ok ← isTrue c e (eval c e); pure (ForInStep.yield ok) else pure (ForInStep.yield r)) (TestEnd b s₃) E' s₃ := by
  simp only [List.forIn_cons, List.forIn_nil, if_true]
  refine wpAny_bind (wpAny_bind (wpAny_mono h (fun ok s' h' => wpAny_pure (wpAny_pure h')) fun _ _ e => e))
theorem comp_first {elt iter c : Expr} {x : Str} {scope : Scope} {cl : List (Str × Addr)} {px pos : Pos} 
    (hclos : closureFor scope env = pure cl) (hcell : ∀ y ∈ scope.names, y.2 ≠ .cell) (hkind : scope.kind = .function)
    (hnames : ∀ y ∈ scope.names, y.2 = .local → scope.names.lookup y.1 = some .local) (hx : scope.names.lookup x = some .local)
    (h : wpAny (model prog w) A (eval iter env) (fun xv s₁ => wpAny (model prog w) A (pyIter xv) (CompAsk prog w A env elt x [c] scope cl notNone IsSame Q) E s₁) E s)
    (hs : ∀ x, foldedSetIterable iter env x = pure x := by intro _; rfl) :
    wpAny (model prog w) A (eval (.ListComp elt [⟨.Name x px, iter, [c], 0⟩] scope pos) env) Q E s :=
  comp_of _ _ hclos hcell hkind hnames hx h hs
theorem test_none {s : Shared} : TestEnd (notNone .none) s false s := ⟨rfl, s.heap, s.toks, rfl, fun _ _ e => e⟩
theorem test_str {c : Str} {t : Tok} {s : Shared} : TestEnd (notNone (.str c t)) s true s := ⟨rfl, s.heap, s.toks, rfl, fun _ _ e => e⟩
theorem elt_same {v : Value} {s : Shared} : EltEnd IsSame v s v s := ⟨rfl, s.heap, s.toks, rfl, fun _ _ e => e⟩
end
end
section
noncomputable def qp (q : Nat → Bool) : Value → Bool
  | .int i _ => q i.toNat
  | _ => false
theorem ints_of : ∀ {us : List Value}, (∀ v ∈ us, ∃ i t, v = .int i t) → ∃ ks, IntsAre us ks ∧ (ks = [] ↔ us = [])
  | [], _ => ⟨[], .nil, by simp⟩
  | v :: us, h => by
    obtain ⟨i, t, rfl⟩ := h v (.head _)
    obtain ⟨ks, a, _⟩ := ints_of fun v hv => h v (.tail _ hv)
    exact ⟨i :: ks, .cons _ _ a, by simp⟩
section
variable {prog : Program} {w : World} {A : Around} {E : Value → Shared → Prop} {s : Shared} {env : Env} {h₀ : Heap} {L : Addr} {m : Str → Option Value} {news : Led} {elt : Expr} {x : Str} {ifs : List Expr} {scope : Scope} {cl : List (Str × Addr)} {Q : Value → Shared → Prop}
theorem comp_rng {q : Nat → Bool} {r : Addr} {k : Nat} {t u v : Tok} (hh : A.handled = none) (F : Fr h₀ L s.heap m) (N : News h₀ L s.heap news) (hr : IsRange s.heap r 0 (k : Int) 1 t u v) (hk : k ≤ 10000)
    (tests : ∀ C i t' s₃ m₃ E', i < k → s₃.heap.Ns C m₃ → m₃ x = some (.int ((i : Nat) : Int) t') → Stay s.heap s₃.heap → Fr h₀ L s₃.heap m → News h₀ L s₃.heap news →
      wpAny (model prog w) A (forIn ifs true fun c r => if r = true then do let ok ← isTrue c (compEnvC scope cl C env) (eval c (compEnvC scope cl C env)); pure (ForInStep.yield ok) else pure (ForInStep.yield r))
        (TestEnd (q i) s₃) E' s₃)
    (elts : ∀ C i t' s₃ m₃ E', i < k → q i = true → s₃.heap.Ns C m₃ → m₃ x = some (.int ((i : Nat) : Int) t') → Stay s.heap s₃.heap → Fr h₀ L s₃.heap m → News h₀ L s₃.heap news →
      wpAny (model prog w) A (eval elt (compEnvC scope cl C env)) (EltEnd IsSame (.int ((i : Nat) : Int) t') s₃) E' s₃)
    (fin : ∀ D n h' tk ys ks, Fr h₀ L h' m → News h₀ L h' ((D, _root_.PySem.W.listOf (List.toArray ys) n) :: news) → (∀ p ∈ news, p.1 ≠ D) → Stay s.heap h' → IntsAre ys ks → (ks = [] ↔ ∀ i < k, q i = false) → Q (.ref D) { s with heap := h', toks := tk }) :
    wpAny (model prog w) A (pyIter (.ref r)) (CompAsk prog w A env elt x ifs scope cl (qp q) IsSame Q) E s := by
  have hn : Builtin.Range.rangeSize 0 (k : Int) 1 = (k : Int) := by rw [rangeSize_pos (len := (k : Int)) (c := 1) (by decide) (by omega)]; omega
  have fl : ∀ z : Int, -100000 ≤ z → z ≤ 100000 → Builtin.Range.rangeFitsLong z = true := fun z h1 h2 => by unfold Builtin.Range.rangeFitsLong; simp; omega
  have hsm : Builtin.Range.small 0 (k : Int) 1 = true := by unfold Builtin.Range.small; rw [hn, fl 0 (by omega) (by omega), fl k (by omega) (by omega), fl 1 (by omega) (by omega), if_pos (by decide), fl (k + (1 - 1)) (by omega) (by omega)]; simp
  have W := (Walks.range (prog := prog) (w := w) hh s.heap.objs.size 0 1 k).bound
  refine wpAny_pyIter_range hr hsm ?_
  have up : Stay s.heap (s.heap.push { cls := .type "range_iterator", data := .fields #[rawInt 0, rawInt (Builtin.Range.rangeSize 0 (k : Int) 1), rawInt 1] }) := fun b o e => Heap.get?_push_of_some _ e
  have ext : ∀ {h' : Heap}, (∀ b o', b ∉ [s.heap.objs.size] → (s.heap.push { cls := .type "range_iterator", data := .fields #[rawInt 0, rawInt (Builtin.Range.rangeSize 0 (k : Int) 1), rawInt 1] }).get? b = some o' → h'.get? b = some o') → Stay s.heap h' := fun kk b o' e =>
    kk b o' (fun hb => by rw [List.mem_singleton.mp hb, get_size] at e; cases e) (up b o' e)
  have eqi : ∀ i : Nat, (0 : Int) + (i : Nat) * 1 = (i : Int) := fun i => by omega
  refine ⟨_, _, _, _, _, _, rfl, W, by rw [sizeLine_eq]; omega, ?_, ?_, ⟨?_, ?_⟩, ?_⟩
  · show IsRangeIter _ _ _ _ _
    rw [hn]; simpa using Heap.get?_push_size _ rfl
  · intro b hb
    rw [List.mem_singleton.mp hb, Heap.size_push]
    exact Nat.lt_succ_self _
  · intro C i v s₃ m₃ E' _ hP hns hv hk' _
    have st := ext hk'
    obtain ⟨hi, t', e⟩ := hP
    rw [eqi] at e
    subst e
    exact tests C i t' s₃ m₃ E' hi hns hv st (F.keeps st) (N.grown st)
  · intro C i v s₃ m₃ E' _ hP hp hns hv hk' _
    have st := ext hk'
    obtain ⟨hi, t', e⟩ := hP
    rw [eqi] at e
    subst e
    exact elts C i t' s₃ m₃ E' hi (by simpa [qp] using hp) hns hv st (F.keeps st) (N.grown st)
  · intro D h' tk ys us hD hil hpl hlen hP hF hk'
    have st := ext hk'
    have hD' : s.heap.get? D = none := by
      cases q' : s.heap.get? D with
      | none => rfl
      | some o' => have z := up D o' q'; dsimp only at hD; rw [z] at hD; cases hD
    obtain ⟨n, F', N', nd⟩ := comp_out F N hD' hpl st
    have eys := isSame_all hF
    have hu : ∀ v ∈ us, ∃ i t, v = .int i t := fun v hv => by
      obtain ⟨j, hj⟩ := List.getElem?_of_mem hv
      obtain ⟨_, t', e⟩ := hP j v hj
      exact ⟨_, _, e⟩
    obtain ⟨ks, hi, hks⟩ := ints_of (us := ys.toList) fun v hv => hu v (by rw [eys] at hv; exact (List.mem_filter.mp hv).1)
    refine fin D n h' tk ys.toList ks F' (by simpa using N') nd st hi (hks.trans ?_)
    rw [eys, List.filter_eq_nil_iff]
    refine ⟨fun h i hik => ?_, fun h v hv => ?_⟩
    · have hv : us[i]? = some us[i] := List.getElem?_eq_getElem (by omega)
      obtain ⟨_, t', e⟩ := hP i _ hv
      have := h us[i] (List.getElem_mem _)
      rw [e, eqi] at this
      simpa [qp] using this
    · obtain ⟨j, hj⟩ := List.getElem?_of_mem hv
      obtain ⟨hj', t', e⟩ := hP j v hj
      rw [e, eqi]
      have := h j hj'
      simp [qp, this]
end
theorem are_eq {ns os : List Addr} (hl : ns.length = os.length) : (∀ i < ns.length, decide (ns[i]? ≠ os[i]?) = false) ↔ ns = os := by
  refine ⟨fun h => List.ext_getElem? fun i => ?_, fun h i _ => by simp [h]⟩
  by_cases hi : i < ns.length
  · simpa using h i hi
  · rw [List.getElem?_eq_none (by omega), List.getElem?_eq_none (by omega)]
theorem refs_at {ns : List Addr} {i : Nat} (h : i < ns.length) : (ns.map Value.ref)[((i : Nat) : Int).toNat]? = some (.ref ns[i]) := by simp [h]
noncomputable def NoTup (h : Heap) (a : Addr) : Prop := ∃ o, h.get? a = some o ∧ o.cls ≠ .type "tuple"
theorem NoTup.up {h h' : Heap} {a : Addr} (x : NoTup h a) (k : ∀ b o, h.get? b = some o → h'.get? b = some o) : NoTup h' a := let ⟨o, e, r⟩ := x; ⟨o, k _ _ e, r⟩
theorem isNot_refs {M : Model} {A : Around} {E : Value → Shared → Prop} {s : Shared} {Q : Value → Shared → Prop} {x y : Addr} (hx : NoTup s.heap x) (hy : NoTup s.heap y) (h : Q (.bool (!decide (x = y))) s) : wpAny M A (compareOp .IsNot (.ref x) (.ref y)) Q E s := by
  by_cases e : x = y
  · subst e
    exact wpAny_isNot_ref_self (by simpa using h)
  · obtain ⟨ox, a, b⟩ := hx
    obtain ⟨oy, c, _⟩ := hy
    show wpAny M A (do return .bool (!(← isSame (.ref x) (.ref y)))) Q E s
    exact wpAny_bind (wpAny_isSame_ref_other e a c b (wpAny_pure (by simpa [e] using h)))
theorem is_refs {M : Model} {A : Around} {E : Value → Shared → Prop} {s : Shared} {Q : Value → Shared → Prop} {x y : Addr} (hx : NoTup s.heap x) (hy : NoTup s.heap y) (h : Q (.bool (decide (x = y))) s) : wpAny M A (compareOp .Is (.ref x) (.ref y)) Q E s := by
  by_cases e : x = y
  · subst e
    exact wpAny_is_ref_self (by simpa using h)
  · obtain ⟨ox, a, b⟩ := hx
    obtain ⟨oy, c, _⟩ := hy
    show wpAny M A (do return .bool (← isSame (.ref x) (.ref y))) Q E s
    exact wpAny_bind (wpAny_isSame_ref_other e a c b (wpAny_pure (by simpa [e] using h)))
theorem are_ends {ns os : List Addr} {ks : List Int} (hl : ((ns.length : Nat) : Int) = ((os.length : Nat) : Int)) (h : ks = [] ↔ ∀ (i : Nat), i < ns.length → decide (ns[i]? ≠ os[i]?) = false) : Value.bool (decide (ks = [])) = .bool (decide (ns = os)) := by
  have e := h.trans (are_eq (by omega))
  simp only [e]
theorem are_not {ns os : List Addr} (hl : ¬ ((ns.length : Nat) : Int) = ((os.length : Nat) : Int)) : Value.bool (((ns.length : Nat) : Int) == ((os.length : Nat) : Int)) = .bool (decide (ns = os)) := by
  have e : ¬ ns = os := fun e => hl (by rw [e])
  simp [e, hl]
end
section
section
variable {prog : Program} {w : World} {A : Around} {E : Value → Shared → Prop} {s : Shared} {env : Env} {h₀ : Heap} {target : Expr} {body : List Stmt} {Q : Flow → Shared → Prop}
theorem for_fillP {α : Type} {Fp : Value → α → Prop} (x y : Str) (val : List α → List Value) {L l f₀ : Addr} {n₀ : Nat} {vs : List Value} {qs : List α} {m₀ : Str → Option Value} {news : Led} (hLe : env.locals = L) (hh : A.handled = none) (F : Fr h₀ L s.heap m₀) (N : News h₀ L s.heap ((f₀, _root_.PySem.W.listOf (val []).toArray n₀) :: news)) (hl : s.heap.IsList l vs.toArray) (hL : l ≠ L) (hy : m₀ y = some (.ref f₀)) (Ps : Paired Fp vs qs)
    (turn : ∀ I it v q us f n' h tk own (u : Str → Option Value), Fp v q → (∃ rest, qs = us ++ q :: rest) → (∀ p ∈ news, p.1 ≠ I) → f ≠ I → (I, it) ∈ own → Fr h₀ L h (fun z => if z = x then u z else if z = y then some (.ref f) else m₀ z) → News h₀ L h ((f, _root_.PySem.W.listOf (val us).toArray n') :: (news ++ own)) →
      wpAny (model prog w) A (assign target env v) (fun _ s₂ => wpAny (model prog w) A (execs body env) (TurnEnd h₀ L I own (fun m nw => ∃ f' n'', nw = (f', _root_.PySem.W.listOf (val (us ++ [q])).toArray n'') :: news ∧ m y = some (.ref f') ∧ ∀ z, z ≠ x → z ≠ y → m z = m₀ z) { s with heap := h, toks := tk } Q) E s₂) E { s with heap := h, toks := tk })
    (done : ∀ f n' h tk (u : Str → Option Value), Fr h₀ L h (fun z => if z = x then u z else if z = y then some (.ref f) else m₀ z) → News h₀ L h ((f, _root_.PySem.W.listOf (val qs).toArray n') :: news) → Q .next { s with heap := h, toks := tk }) :
    wpAny (model prog w) A (pyIter (.ref l)) (fun it s₂ => TurnsAt prog w A h₀ env target body Q E it s₂) E s := by
  refine for_items hLe hh F N hl hL (fun i m nw => ∃ f' n'', nw = (f', _root_.PySem.W.listOf (val (qs.take i)).toArray n'') :: news ∧ m y = some (.ref f') ∧ ∀ z, z ≠ x → z ≠ y → m z = m₀ z) ⟨f₀, n₀, by simp, hy, fun _ _ _ => rfl⟩ ?_ ?_
  · rintro I i v m₁ nw h tk own hv ⟨f, n', rfl, hy₁, hm₁⟩ hI ⟨it, hit⟩ ho F' N'
    obtain ⟨q, hq, hF⟩ := paired_get Ps hv
    rw [forget1 hy₁ hm₁] at F'
    have e : qs.take (i + 1) = qs.take i ++ [q] := by rw [List.take_add_one, hq]; rfl
    have := turn I it v q (qs.take i) f n' h tk own m₁ hF ⟨qs.drop (i + 1), ?_⟩ (fun p hp => hI p (List.mem_cons_of_mem _ hp)) (hI _ (List.Mem.head _)) hit F' N'
    · rw [e]; exact this
    · obtain ⟨hi, hg⟩ := List.getElem?_eq_some_iff.mp hq
      rw [← hg, ← List.drop_eq_getElem_cons hi, List.take_append_drop]
  · rintro m' nw h tk ⟨f, n', rfl, hy₁, hm₁⟩ F' N'
    rw [forget1 hy₁ hm₁] at F'
    rw [Ps.length, List.take_length] at N'
    exact done f n' h tk m' F' N'
theorem fill_endP {α : Type} {x y : Str} {val : List α → List Value} {us : List α} {t : α} {h' : Heap} {L I D : Addr} {it : Obj} {own news rest : Led} {m' m₀ : Str → Option Value} {tk n : Nat} {vs : List Value}
    (F' : Fr h₀ L h' m') (N' : News h₀ L h' ((D, _root_.PySem.W.listOf vs.toArray n) :: rest)) (lt : ∀ p ∈ rest, p.1 < D) (hs : ∀ p ∈ news ++ own, p ∈ rest) (hit : (I, it) ∈ own) (hI : ∀ p ∈ news, p.1 ≠ I) (e : vs = val (us ++ [t])) (hy : m' y = some (.ref D)) (hm : ∀ z, z ≠ x → z ≠ y → m' z = m₀ z) :
    TurnEnd h₀ L I own (fun m nw => ∃ f' n'', nw = (f', _root_.PySem.W.listOf (val (us ++ [t])).toArray n'') :: news ∧ m y = some (.ref f') ∧ ∀ z, z ≠ x → z ≠ y → m z = m₀ z) s Q .next { s with heap := h', toks := tk } := by
  refine TurnEnd.go F' (nw' := (D, _root_.PySem.W.listOf vs.toArray n) :: news) (fun p hp => ?_) (fun p hp => ?_) ⟨D, n, by rw [e], hy, hm⟩
  · rcases List.mem_cons.mp hp with rfl | hp
    · exact N' _ (.head _)
    · exact N' _ (.tail _ (hs p hp))
  · rcases List.mem_cons.mp hp with rfl | hp
    · exact fun q => Nat.lt_irrefl _ (q ▸ lt _ (hs _ (List.mem_append.mpr (.inr hit))))
    · exact hI p hp
end
theorem my_addB {prog : Program} {w : World} {A : Around} {E : Value → Shared → Prop} {s : Shared} {h₀ : Heap} {L l b : Addr} {m : Str → Option Value} {news : Led} {vs ws : List Value} {n n' : Nat} {Q : Value → Shared → Prop} (F : Fr h₀ L s.heap m) (N : News h₀ L s.heap news)
    (hl : (l, _root_.PySem.W.listOf vs.toArray n) ∈ news) (hb : h₀.get? b = some (_root_.PySem.W.listOf ws.toArray n')) (hz : vs.length + ws.length ≤ sizeLine)
    (h : ∀ D h', Fr h₀ L h' m → News h₀ L h' ((D, _root_.PySem.W.listOf (vs ++ ws).toArray 0) :: news) → (∀ p ∈ news, p.1 < D) → Q (.ref D) { s with heap := h' }) :
    wpAny (model prog w) A (binaryOp .Add (.ref l) (.ref b)) Q E s :=
  add_lists (hsz := hz) F N (isl_news N hl) (isl_base F hb) fun h' F' N' => h _ h' F' N' fun p hp => Heap.lt_size (N p hp).1
noncomputable def PartW (h : Heap) (v : Value) (ws : List Value) : Prop := ∃ p a l cv n n', v = .ref p ∧ h.get? p = some (tupO [a, .ref l, cv] n) ∧ h.get? l = some (_root_.PySem.W.listOf ws.toArray n')
theorem PartW.up {h h' : Heap} {v : Value} {ws : List Value} (x : PartW h v ws) (k : ∀ b o, h.get? b = some o → h'.get? b = some o) : PartW h' v ws := by
  obtain ⟨p, a, l, cv, n, n', e, e1, e2⟩ := x
  exact ⟨p, a, l, cv, n, n', e, k _ _ e1, k _ _ e2⟩
theorem flat_next {us : List (List Value)} {q : List Value} : us.flatten ++ q = (us ++ [q]).flatten := by simp
theorem flat_room {qs us : List (List Value)} {q : List Value} (hr : ∃ rest, qs = us ++ q :: rest) (hz : qs.flatten.length ≤ 10000) : us.flatten.length + q.length ≤ sizeLine := by
  obtain ⟨r, rfl⟩ := hr
  rw [sizeLine_eq]
  simp only [List.flatten_append, List.flatten_cons, List.length_append] at hz
  omega
end
section
theorem outer_snoc {l : List Wd} {x : Wd} : outer 0 (l ++ [x]) = ((outer 0 l).1 ++ (outer (outer 0 l).2 [x]).1, (outer (outer 0 l).2 [x]).2) := outer_append l [x] 0
theorem outer_opn0 {a : Addr} {d : Int} (h : d = 0) : outer d [.opn a] = ([a], d + 1) := by simp [outer, h]
theorem outer_opn1 {a : Addr} {d : Int} (h : ¬ d = 0) : outer d [.opn a] = ([], d + 1) := by simp [outer, h]
theorem outer_cls {a : Addr} {d : Int} : outer d [.cls a] = ([], d - 1) := by simp [outer]
theorem outer_var {d : Int} : outer d [.variable] = ([], d) := by simp [outer]
theorem outer_sel {d : Int} : outer d [.select] = ([], d) := by simp [outer]
theorem outer_name {a : Addr} {d : Int} : outer d [.name a] = ([], d) := by simp [outer]
theorem outer_coll {c : Str} {d : Int} : outer d [.collate c] = ([], d) := by simp [outer]
noncomputable def outV (xs : List Wd) : List Value := (outer 0 xs).1.map Value.ref
section
variable {prog : Program} {w : World} {A : Around} {E : Value → Shared → Prop} {s : Shared} {env : Env} {h₀ : Heap} {target : Expr} {body : List Stmt} {Q : Flow → Shared → Prop}
theorem forget4 {a b c : Str} {v : Value} {m m₀ : Str → Option Value} (hc : m c = some v) (h : ∀ z, z ≠ a → z ≠ b → z ≠ c → m z = m₀ z) : m = fun z => if z = a then m z else if z = b then m z else if z = c then some v else m₀ z := by
  funext z
  by_cases h1 : z = a
  · simp [h1]
  · by_cases h2 : z = b
    · simp [h2]
    · by_cases h3 : z = c
      · simp [h3, hc]
      · simp [h1, h2, h3, h z h1 h2 h3]
noncomputable def OutJ (f : Addr) (a b c : Str) (m₀ : Str → Option Value) (news : Led) (xs : List Wd) (m : Str → Option Value) (nw : Led) : Prop :=
  ∃ n t, nw = (f, _root_.PySem.W.listOf (outV xs).toArray n) :: news ∧ m c = some (.int (outer 0 xs).2 t) ∧ ∀ z, z ≠ a → z ≠ b → z ≠ c → m z = m₀ z
theorem for_outer (a b c : Str) {L l f : Addr} {n₀ : Nat} {t₀ : Tok} {vs : List Value} {ps : List (Value × Value)} {xs : List Wd} {m₀ : Str → Option Value} {news : Led} (hLe : env.locals = L) (hh : A.handled = none) (F : Fr h₀ L s.heap m₀) (N : News h₀ L s.heap ((f, _root_.PySem.W.listOf (([] : List Value).toArray) n₀) :: news)) (hl : s.heap.IsList l vs.toArray) (hL : l ≠ L) (hb : ∃ o, h₀.get? l = some o) (hc : m₀ c = some (.int 0 t₀)) (Ps : Paired (PairAt h₀) vs ps) (Ws : Paired WdP ps xs)
    (turn : ∀ I it p us x n' d t h tk own (u : Str → Option Value) q1 q2, WdP (q1, q2) x → h₀.IsTuple p #[q1, q2] → (outer 0 us).2 = d → us.length ≤ xs.length → (∀ p ∈ (f, _root_.PySem.W.listOf (outV us).toArray n') :: news, p.1 ≠ I) → (I, it) ∈ own → (∀ p ∈ own, p.1 ≠ f) → Fr h₀ L h (fun z => if z = a then u z else if z = b then u z else if z = c then some (.int d t) else m₀ z) → News h₀ L h ((f, _root_.PySem.W.listOf (outV us).toArray n') :: (news ++ own)) →
      wpAny (model prog w) A (assign target env (.ref p)) (fun _ s₂ => wpAny (model prog w) A (execs body env) (TurnEnd h₀ L I own (OutJ f a b c m₀ news (us ++ [x])) { s with heap := h, toks := tk } Q) E s₂) E { s with heap := h, toks := tk })
    (done : ∀ n' d t h tk (u : Str → Option Value), Fr h₀ L h (fun z => if z = a then u z else if z = b then u z else if z = c then some (.int d t) else m₀ z) → News h₀ L h ((f, _root_.PySem.W.listOf (outV xs).toArray n') :: news) → Q .next { s with heap := h, toks := tk }) :
    wpAny (model prog w) A (pyIter (.ref l)) (fun it s₂ => TurnsAt prog w A h₀ env target body Q E it s₂) E s := by
  refine for_items hLe hh F N hl hL (fun i m nw => OutJ f a b c m₀ news (xs.take i) m nw) ⟨n₀, t₀, by simp [outV, outer], by simpa [outer] using hc, fun _ _ _ _ => rfl⟩ ?_ ?_
  · rintro I i v m₁ nw h tk own hv ⟨n', t, rfl, hc₁, hm₁⟩ hI ⟨it, hit⟩ ho F' N'
    obtain ⟨q, hq, p, rfl, hp⟩ := paired_get Ps hv
    obtain ⟨x, hx, hW⟩ := paired_get Ws hq
    rw [forget4 hc₁ hm₁] at F'
    have e : xs.take (i + 1) = xs.take i ++ [x] := by rw [List.take_add_one, hx]; rfl
    rw [e]
    exact turn I it p (xs.take i) x n' _ t h tk own m₁ q.1 q.2 hW hp rfl (by rw [List.length_take]; exact Nat.min_le_right _ _) hI hit (own_ne N' hI ho hb (List.Mem.head _)) F' N'
  · rintro m' nw h tk ⟨n', t, rfl, hc₁, hm₁⟩ F' N'
    rw [forget4 hc₁ hm₁] at F'
    rw [Ps.length, Ws.length, List.take_length] at N'
    exact done n' _ t h tk m' F' N'
end
theorem ne_pre {f D I : Addr} {o : Obj} {own : Led} (h : D ≠ f) (ho : ∀ p ∈ own, p.1 ≠ f) : ∀ p ∈ [(D, o)] ++ own, p.1 ≠ f := fun p hp => by
  rcases List.mem_append.mp hp with q | q
  · rw [List.mem_singleton.mp q]; exact h
  · exact ho p q
theorem out_room {us xs : List Wd} (h : us.length ≤ xs.length) (hz : xs.length ≤ 10000) : (outV us).toArray.size ≤ sizeLine := by
  have := outer_len us 0
  rw [sizeLine_eq, List.size_toArray, outV, List.length_map]; omega
theorem outV_same {us : List Wd} {x : Wd} (h : (outer (outer 0 us).2 [x]).1 = []) : (outV us).toArray = (outV (us ++ [x])).toArray := by
  rw [outV, outV, outer_snoc, h, List.append_nil]
theorem outV_more {us : List Wd} {a : Addr} (h : (outer 0 us).2 = 0) : (outV us).toArray.push (.ref a) = (outV (us ++ [.opn a])).toArray := by
  rw [List.push_toArray, outV, outV, outer_snoc, outer_opn0 h, List.map_append]; rfl
theorem out_end {h₀ h' : Heap} {L I f : Addr} {a b c : Str} {own news : Led} {us : List Wd} {x : Wd} {oX : Obj} {arr : Array Value} {n : Nat} {d' : Int} {t : Tok} {s : Shared} {Q : Flow → Shared → Prop} {m' m₀ : Str → Option Value} {tk : Nat} (F' : Fr h₀ L h' m') (N' : News h₀ L h' ((f, _root_.PySem.W.listOf arr n) :: (news ++ own)))
    (hI : ∀ p ∈ (f, oX) :: news, p.1 ≠ I) (ea : arr = (outV (us ++ [x])).toArray) (hc : m' c = some (.int d' t)) (ed : d' = (outer 0 (us ++ [x])).2) (hm : ∀ z, z ≠ a → z ≠ b → z ≠ c → m' z = m₀ z) :
    TurnEnd h₀ L I own (OutJ f a b c m₀ news (us ++ [x])) s Q .next { s with heap := h', toks := tk } :=
  TurnEnd.go (nw' := (f, _root_.PySem.W.listOf arr n) :: news) F' N' (fun p hp => by
    rcases List.mem_cons.mp hp with rfl | hp
    · exact hI (f, oX) (.head _)
    · exact hI p (.tail _ hp)) ⟨n, t, by rw [ea], by rw [← ed]; exact hc, hm⟩
theorem dd_variable_open : (Str.ofString "variable" == Str.ofString "open") = false := by decide +kernel
theorem dd_variable_close : (Str.ofString "variable" == Str.ofString "close") = false := by decide +kernel
theorem dd_select_open : (Str.ofString "select" == Str.ofString "open") = false := by decide +kernel
theorem dd_select_close : (Str.ofString "select" == Str.ofString "close") = false := by decide +kernel
theorem dd_name_open : (Str.ofString "name" == Str.ofString "open") = false := by decide +kernel
theorem dd_name_close : (Str.ofString "name" == Str.ofString "close") = false := by decide +kernel
theorem dd_collate_open : (Str.ofString "collate" == Str.ofString "open") = false := by decide +kernel
theorem dd_collate_close : (Str.ofString "collate" == Str.ofString "close") = false := by decide +kernel
theorem dd_open_open : (Str.ofString "open" == Str.ofString "open") = true := by decide +kernel
theorem dd_open_close : (Str.ofString "open" == Str.ofString "close") = false := by decide +kernel
theorem dd_close_open : (Str.ofString "close" == Str.ofString "open") = false := by decide +kernel
theorem dd_close_close : (Str.ofString "close" == Str.ofString "close") = true := by decide +kernel
end
section
noncomputable def SrcOk (o : Obj) : Prop := ∃ (x y : Int) (t1 t2 : Tok) (n : Nat), o = _root_.PySem.W.listOf #[.int x t1, .int y t2] n ∧ 0 ≤ x ∧ 0 ≤ y ∧ y < 2147483647
noncomputable def StayX (src : Addr) (h h' : Heap) : Prop := ∀ b o, b ≠ src → h.get? b = some o → h'.get? b = some o
abbrev atX (src : Addr) (h : Heap) : Kn := fun a o => a ≠ src ∧ h.get? a = some o
theorem StayX.trans {src : Addr} {a b c : Heap} (x : StayX src a b) (y : StayX src b c) : StayX src a c := fun _ _ n e => y _ _ n (x _ _ n e)
theorem StayX.kn {src : Addr} {h h' : Heap} (x : StayX src h h') : ∀ a o, atX src h a o → atX src h' a o := fun a o e => ⟨e.1, x a o e.1 e.2⟩
theorem Stay.x {src : Addr} {h h' : Heap} (x : Stay h h') : StayX src h h' := fun b o _ e => x b o e
theorem atX_at {src : Addr} {h : Heap} : ∀ a o, atX src h a o → atH h a o := fun _ _ e => e.2
noncomputable def DrawR (src : Addr) (H : Heap) (R : Heap → Value → Prop) (h' : Heap) (r : Value) : Prop := StayX src H h' ∧ (∃ o', h'.get? src = some o' ∧ SrcOk o') ∧ R h' r
theorem gsub_x {h g : Heap} {src : Addr} {o : Obj} (G : GSub h g (List.map (·.1) [(src, o)])) : ∀ b o', b ≠ src → h.get? b = some o' → g.get? b = some o' := fun b o' n e => G b o' e (by simpa using n)
theorem ct_draw {w : World} {f : Addr} {vs : List Value} {d u : Nat} {src : Addr} {o : Obj} {R : Heap → Value → Prop} {mean : ExcName → Option Value} {mg mb : Str → Option Value} {dp un : Nat} {gd : Option (List Code)} {cn : Str} {cs : Scope} {a : Addr} {ccd : Value} {cl : List (Str × Addr)} {outer : List Env} {A₀ : Around} {base h₀ : Heap} {L : Addr}
    {m : Str → Option Value} {news : Led} {g : Obj → Led} {s : Shared} {Q E : Value → Shared → Prop} (C : Ct w s.heap f vs d u [(src, o)] (DrawR src s.heap R))
    (B : Below A₀ base outer h₀) (F : Fr h₀ L s.heap m) (X : (KK w).In h₀) (N : News h₀ L s.heap news) (U : UpdF src o news g) (T : Top _root_.Mine.top.view_1_40 Lo mean mg mb h₀) (hk : cs.kind = .function) (hd : dp + d < recursionLimit) (hu : un + u < cLine)
    (h : ∀ r h' tk' o', R h' r → SrcOk o' → StayX src s.heap h' → Fr h₀ L h' m → News h₀ L h' (g o') → Q r { s with heap := h', toks := tk' }) :
    wpAny (MM w) (ktrTop dp un gd cn cs L a ccd cl outer) (call (.ref f) vs) Q E s := by
  obtain ⟨pre, post, e, eg, n1, n2⟩ := U.split
  subst e
  have hs := N (src, o) (by simp)
  refine C _ _ _ _ _ _ _ _ _ _ _ _ _ _ _ _ _ _ _ _ rfl B F X (fun p hp => ?_) T hk hd hu fun r h' tk' hr => ?_
  · rw [List.mem_singleton.mp hp]; exact hs
  · obtain ⟨st, ⟨o', ho, hok⟩, hr⟩ := hr
    refine h r h' tk' o' hr hok st ⟨?_, fun b x q => st b x (fun z => ?_) (F.keep b x q), F.above⟩ ?_
    · obtain ⟨oL, es, ep, hL, r⟩ := F.ns
      exact ⟨oL, es, ep, st _ _ (Ne.symm hs.2.1) hL, r⟩
    · have := hs.2.2; rw [← z, q] at this; cases this
    · rw [eg]
      intro p hp
      rcases List.mem_append.mp hp with q | q
      · have P := N p (List.mem_append_left _ q); exact ⟨st _ _ (n1 p q) P.1, P.2⟩
      · rcases List.mem_cons.mp q with rfl | q
        · exact ⟨ho, hs.2⟩
        · have P := N p (List.mem_append_right _ (.tail _ q)); exact ⟨st _ _ (n2 p q) P.1, P.2⟩
theorem draw_end {g h h' : Heap} {L' src : Addr} {o o' : Obj} {m' : Str → Option Value} {news : Led} {R : Heap → Value → Prop} {r : Value} (G : GSub h g (List.map (·.1) [(src, o)])) (F' : Fr g L' h' m') (N' : News g L' h' news) (hm : (src, o') ∈ news) (hok : SrcOk o') (hr : R h' r) : DrawR src h R h' r :=
  ⟨fun b x n e => F'.keep _ _ (gsub_x G b x n e), ⟨o', (N' _ hm).1, hok⟩, hr⟩
end
section
theorem sq_ok {x z : Int} : IntMulOk ([x, z.fmod 2147483647].getD (Int.toNat 1) 0) ([x, z.fmod 2147483647].getD (Int.toNat 1) 0) := by
  have e : [x, z.fmod 2147483647].getD (Int.toNat 1) 0 = z % 2147483647 := Int.fmod_eq_emod_of_nonneg z (by decide)
  rw [e]
  exact IntMulOk.of_left (intBits_le_64 (by omega) (by omega))
theorem rest_ok {a top : Int} (h : 2 ≤ top) : 0 ≤ a.fmod top ∧ a.fmod top < top := by
  rw [Int.fmod_eq_emod_of_nonneg a (by omega)]
  exact ⟨Int.emod_nonneg a (by omega), Int.emod_lt_of_pos a (by omega)⟩
theorem fdiv_ok {a top : Int} (ha : 0 ≤ a) (h : 2 ≤ top) : 0 ≤ a.fdiv top := by
  rw [Int.fdiv_eq_ediv_of_nonneg a (by omega)]
  exact Int.ediv_nonneg ha (by omega)
theorem src_a {x y top : Int} {t t' : Tok} {n : Nat} (hx : 0 ≤ x) (hy : 0 ≤ y) (hy2 : y < 2147483647) (h : 2 ≤ top) : SrcOk (_root_.PySem.W.listOf #[.int (([x, y].getD (Int.toNat 0) 0).fdiv top) t, .int y t'] n) :=
  ⟨_, _, _, _, _, rfl, fdiv_ok hx h, hy, hy2⟩
theorem src_b {x z : Int} {t t' : Tok} {n : Nat} (hx : 0 ≤ x) : SrcOk (_root_.PySem.W.listOf #[.int x t, .int (z.fmod 2147483647) t'] n) := by
  have := rest_ok (a := z) (top := 2147483647) (by decide)
  exact ⟨_, _, _, _, _, rfl, hx, this.1, this.2⟩
end
section
abbrev inLed (tl : Led) : Kn := fun a o => (a, o) ∈ tl
noncomputable def Fresh (H h' : Heap) (tl : Led) : Prop := ∀ p ∈ tl, h'.get? p.1 = some p.2 ∧ H.get? p.1 = none
noncomputable def NewR (H : Heap) (P : Led → Value → Prop) (h' : Heap) (r : Value) : Prop := Stay H h' ∧ ∃ tl, Fresh H h' tl ∧ P tl r
noncomputable def MakeR (src : Addr) (H : Heap) (P : Led → Value → Prop) : Heap → Value → Prop := DrawR src H fun h' r => ∃ tl, Fresh H h' tl ∧ P tl r
inductive UpdT (src : Addr) (o : Obj) (tl : Led) : Led → (Obj → Led → Led) → Prop
  | head : UpdT src o tl ((src, o) :: tl) (fun o' tl' => (src, o') :: tl')
  | tail {p : Addr × Obj} {r : Led} {g : Obj → Led → Led} : p.1 ≠ src → UpdT src o tl r g → UpdT src o tl (p :: r) (fun o' tl' => p :: g o' tl')
theorem UpdT.split {src : Addr} {o : Obj} {tl : Led} {l : Led} {g : Obj → Led → Led} (x : UpdT src o tl l g) : ∃ pre, l = pre ++ (src, o) :: tl ∧ (∀ o' tl', g o' tl' = pre ++ (src, o') :: tl') ∧ ∀ p ∈ pre, p.1 ≠ src := by
  induction x with
  | head => exact ⟨[], rfl, fun _ _ => rfl, fun _ h => nomatch h⟩
  | @tail p r g h _ ih =>
    obtain ⟨pre, a, b, c⟩ := ih
    exact ⟨p :: pre, by rw [a]; rfl, fun o' tl' => by show p :: _ = _; rw [b]; rfl, fun q hq => by rcases List.mem_cons.mp hq with rfl | hq; exact h; exact c q hq⟩
theorem fresh_ledger {h₀ h h' : Heap} {L : Addr} {m : Str → Option Value} {tl : Led} (F : Fr h₀ L h m) (hf : Fresh h h' tl) : News h₀ L h' tl := fun p hp => by
  obtain ⟨a, b⟩ := hf p hp
  refine ⟨a, fun e => ?_, ?_⟩
  · obtain ⟨o', _, _, ho, _⟩ := F.ns
    rw [e, ho] at b; cases b
  · cases q : h₀.get? p.1 with
    | none => rfl
    | some o' => rw [F.keep _ _ q] at b; cases b
section
variable {w : World} {f : Addr} {vs : List Value} {d u : Nat} {src : Addr} {o : Obj} {P : Led → Value → Prop} {mean : ExcName → Option Value} {mg mb : Str → Option Value} {dp un : Nat} {gd : Option (List Code)} {cn : Str} {cs : Scope} {a : Addr} {ccd : Value} {cl : List (Str × Addr)} {outer : List Env} {A₀ : Around} {base h₀ : Heap} {L : Addr}
    {m : Str → Option Value} {news tl : Led} {g : Obj → Led → Led} {s : Shared} {Q E : Value → Shared → Prop}
theorem ct_make (C : Ct w s.heap f vs d u [(src, o)] (MakeR src s.heap P))
    (B : Below A₀ base outer h₀) (F : Fr h₀ L s.heap m) (X : (KK w).In h₀) (N : News h₀ L s.heap news) (U : UpdT src o tl news g) (hT : ∀ p ∈ tl, p.1 ≠ src) (T : Top _root_.Mine.top.view_1_40 Lo mean mg mb h₀) (hk : cs.kind = .function) (hd : dp + d < recursionLimit) (hu : un + u < cLine)
    (h : ∀ r h' tk' o' tl₁ tl', (∀ a b, inLed tl a b → inLed tl' a b) → P tl₁ r → (∀ a b, inLed tl₁ a b → inLed tl' a b) → (∀ p ∈ tl', p.1 ≠ src) → SrcOk o' → StayX src s.heap h' → Fr h₀ L h' m → News h₀ L h' (g o' tl') → Q r { s with heap := h', toks := tk' }) :
    wpAny (MM w) (ktrTop dp un gd cn cs L a ccd cl outer) (call (.ref f) vs) Q E s := by
  obtain ⟨pre, e, eg, n1⟩ := U.split
  subst e
  have hs := N (src, o) (by simp)
  refine C _ _ _ _ _ _ _ _ _ _ _ _ _ _ _ _ _ _ _ _ rfl B F X (fun p hp => ?_) T hk hd hu fun r h' tk' hr => ?_
  · rw [List.mem_singleton.mp hp]; exact hs
  · obtain ⟨st, ⟨o', ho, hok⟩, tl₁, hf, hr⟩ := hr
    have NF := fresh_ledger F hf
    refine h r h' tk' o' tl₁ (tl ++ tl₁) (fun a b x => List.mem_append.mpr (.inl x)) hr (fun a b x => List.mem_append.mpr (.inr x)) (fun p hp => ?_) hok st ⟨?_, fun b x q => st b x (fun z => ?_) (F.keep b x q), F.above⟩ ?_
    · rcases List.mem_append.mp hp with q | q
      · exact hT p q
      · intro e
        have := (hf p q).2
        rw [e, hs.1] at this; cases this
    · obtain ⟨oL, es, ep, hL, r⟩ := F.ns
      exact ⟨oL, es, ep, st _ _ (Ne.symm hs.2.1) hL, r⟩
    · have := hs.2.2; rw [← z, q] at this; cases this
    · rw [eg]
      intro p hp
      rcases List.mem_append.mp hp with q | q
      · have P := N p (List.mem_append_left _ q); exact ⟨st _ _ (n1 p q) P.1, P.2⟩
      · rcases List.mem_cons.mp q with rfl | q
        · exact ⟨ho, hs.2⟩
        · rcases List.mem_append.mp q with q | q
          · have P := N p (List.mem_append_right _ (.tail _ q)); exact ⟨st _ _ (hT p q) P.1, P.2⟩
          · exact NF p q
theorem ct_new (C : Ct w s.heap f vs d u [] (NewR s.heap P)) (hok : SrcOk o)
    (B : Below A₀ base outer h₀) (F : Fr h₀ L s.heap m) (X : (KK w).In h₀) (N : News h₀ L s.heap news) (U : UpdT src o tl news g) (hT : ∀ p ∈ tl, p.1 ≠ src) (T : Top _root_.Mine.top.view_1_40 Lo mean mg mb h₀) (hk : cs.kind = .function) (hd : dp + d < recursionLimit) (hu : un + u < cLine)
    (h : ∀ r h' tk' tl₁ tl', (∀ a b, inLed tl a b → inLed tl' a b) → P tl₁ r → (∀ a b, inLed tl₁ a b → inLed tl' a b) → (∀ p ∈ tl', p.1 ≠ src) → StayX src s.heap h' → Fr h₀ L h' m → News h₀ L h' (g o tl') → Q r { s with heap := h', toks := tk' }) :
    wpAny (MM w) (ktrTop dp un gd cn cs L a ccd cl outer) (call (.ref f) vs) Q E s := by
  obtain ⟨pre, e, eg, n1⟩ := U.split
  subst e
  have hs := N (src, o) (by simp)
  refine C _ _ _ _ _ _ _ _ _ _ _ _ _ _ _ _ _ _ _ _ rfl B F X News.nil T hk hd hu fun r h' tk' hr => ?_
  obtain ⟨st, tl₁, hf, hr⟩ := hr
  have NF := fresh_ledger F hf
  refine h r h' tk' tl₁ (tl ++ tl₁) (fun a b x => List.mem_append.mpr (.inl x)) hr (fun a b x => List.mem_append.mpr (.inr x)) (fun p hp => ?_) st.x (F.keeps st) ?_
  · rcases List.mem_append.mp hp with q | q
    · exact hT p q
    · intro e
      have := (hf p q).2
      rw [e, hs.1] at this; cases this
  · rw [eg]
    intro p hp
    have NG := N.grown st
    rcases List.mem_append.mp hp with q | q
    · exact NG p (List.mem_append_left _ q)
    · rcases List.mem_cons.mp q with rfl | q
      · exact NG _ (by simp)
      · rcases List.mem_append.mp q with q | q
        · exact NG p (List.mem_append_right _ (.tail _ q))
        · exact NF p q
end
abbrev offS (src : Addr) (news : Led) : Kn := fun a o => (a, o) ∈ news ∧ a ≠ src
theorem offS_in {src : Addr} {news : Led} : ∀ a o, offS src news a o → inLed (news.filter fun p => decide (p.1 ≠ src)) a o := fun a o h => List.mem_filter.mpr ⟨h.1, by simpa using h.2⟩
theorem make_end {g h h' : Heap} {L' src : Addr} {o o' : Obj} {m' : Str → Option Value} {news : Led} {P : Led → Value → Prop} {r : Value} (G : GSub h g (List.map (·.1) [(src, o)])) (F' : Fr g L' h' m') (N' : News g L' h' news) (hm : (src, o') ∈ news) (hok : SrcOk o')
    (hr : P (news.filter fun p => decide (p.1 ≠ src)) r) : MakeR src h P h' r :=
  have hf : Fresh h h' (news.filter fun p => decide (p.1 ≠ src)) := fun p hp => by
    obtain ⟨hp, hn⟩ := List.mem_filter.mp hp
    have hn : p.1 ≠ src := by simpa using hn
    refine ⟨(N' p hp).1, ?_⟩
    cases q : h.get? p.1 with
    | none => rfl
    | some x => have := (N' p hp).2.2; rw [gsub_x G _ _ hn q] at this; cases this
  draw_end G F' N' hm hok ⟨_, hf, hr⟩
theorem new_end {g h h' : Heap} {L' : Addr} {m' : Str → Option Value} {news : Led} {P : Led → Value → Prop} {r : Value} (G : GSub h g (List.map (·.1) ([] : Led))) (F' : Fr g L' h' m') (N' : News g L' h' news) (hr : P news r) : NewR h P h' r :=
  have hf : Fresh h h' news := fun p hp => ⟨(N' p hp).1, by
    cases q : h.get? p.1 with
    | none => rfl
    | some x => have := (N' p hp).2.2; rw [gsub_all G _ _ q] at this; cases this⟩
  ⟨stay_of G F', news, hf, hr⟩
theorem allNe {d : Addr} {tl : Led} (h : AllLt d tl) : ∀ p ∈ tl, p.1 ≠ d := fun p hp e => Nat.lt_irrefl _ (e ▸ tb_ltOf h p hp)
theorem allLt_id {d : Addr} {tl : Led} (h : AllLt d tl) : AllLt d tl := h
theorem news_drop {h₀ h : Heap} {L : Addr} {news : Led} (k : Nat) (N : News h₀ L h news) : News h₀ L h (news.drop k) := fun p hp => N p (List.mem_of_mem_drop hp)
end
section
noncomputable def PartG (W : Kn) (n : Nat) (r : Value) : Prop := ∃ t, PartIn W r t ∧ Good n t
theorem PartG.mono {W W' : Kn} {n : Nat} {r : Value} (h : PartG W n r) (s : ∀ a o, W a o → W' a o) : PartG W' n r := let ⟨t, a, b⟩ := h; ⟨t, a.mono s, b⟩
theorem part_end {src : Addr} {news : Led} {n : Nat} {r : Value} (h : PartG (offS src news) n r) : PartG (inLed (news.filter fun p => decide (p.1 ≠ src))) n r := h.mono offS_in
theorem in_cons {tl : Led} {p : Addr × Obj} {r : Led} (h : ∀ a b, inLed tl a b → inLed r a b) : ∀ a b, inLed tl a b → inLed (p :: r) a b := fun a b x => List.Mem.tail _ (h a b x)
theorem in_self {tl : Led} : ∀ a b, inLed tl a b → inLed tl a b := fun _ _ x => x
theorem in_off {src : Addr} {tl news : Led} (h : ∀ a b, inLed tl a b → inLed news a b) (hT : ∀ p ∈ tl, p.1 ≠ src) : ∀ a b, inLed tl a b → offS src news a b := fun a b x => ⟨h a b x, hT (a, b) x⟩
theorem good_flat {a : Addr} {k : Kd} (h1 : (wordsT (.mk a k [])).length ≤ 4) (h2 : explT (.mk a k []) = none) (h3 : ∀ w, colT (.mk a k []) = some w → w ∈ colls) : Good 0 (.mk a k []) :=
  ⟨by simp [depthT, depthL], by simpa using h1, by rw [h2]; simp, h3⟩
section
variable {W : Kn} {D l x d p : Addr} {od : Obj} {n n' n'' : Nat} {t : Tok}
theorem part_lit (hD : W D (tupO [.ref x, .ref l, .none] n)) (hl : W l (_root_.PySem.W.listOf #[] n')) (hx : W x (instObj 112 d)) (hd : W d od) : PartG W 0 (.ref D) :=
  ⟨.mk x .plain [], .mk hD (.mk (.lit hx hd) .nil) (ws := []) hl .nil .none, good_flat (by simp [wordsT, wordsL]) rfl (by simp [colT])⟩
theorem part_var (hD : W D (tupO [.ref x, .ref l, .none] n)) (hl : W l (_root_.PySem.W.listOf #[.ref p] n')) (hp : W p (tupO [.str (Str.ofString "variable") t, .none] n'')) (hx : W x (instObj 164 d)) (hd : W d od) : PartG W 0 (.ref D) :=
  ⟨.mk x .var [], .mk hD (.mk (.var hx hd) .nil) (ws := [.ref p]) hl (.cons (.variable hp) .nil) .none, good_flat (by simp [wordsT]) rfl (by simp [colT])⟩
theorem part_scal (hD : W D (tupO [.ref x, .ref l, .none] n)) (hl : W l (_root_.PySem.W.listOf #[.ref p] n')) (hp : W p (tupO [.str (Str.ofString "select") t, .none] n'')) (hx : W x (instObj 346 d)) (hd : W d od) : PartG W 0 (.ref D) :=
  ⟨.mk x .sub [], .mk hD (.mk (.scal hx hd) .nil) (ws := [.ref p]) hl (.cons (.select hp) .nil) .none, good_flat (by simp [wordsT]) rfl (by simp [colT])⟩
theorem part_ex (hD : W D (tupO [.ref x, .ref l, .none] n)) (hl : W l (_root_.PySem.W.listOf #[.ref p] n')) (hp : W p (tupO [.str (Str.ofString "select") t, .none] n'')) (hx : W x (instObj 320 d)) (hd : W d od) : PartG W 0 (.ref D) :=
  ⟨.mk x .sub [], .mk hD (.mk (.ex hx hd) .nil) (ws := [.ref p]) hl (.cons (.select hp) .nil) .none, good_flat (by simp [wordsT]) rfl (by simp [colT])⟩
theorem part_name {c : Str} {t' : Tok} (hc : c ∈ colls) (hD : W D (tupO [.ref x, .ref l, .str c t'] n)) (hl : W l (_root_.PySem.W.listOf #[.ref p] n')) (hp : W p (tupO [.str (Str.ofString "name") t, .ref x] n'')) (hx : NodeIn W x .name (.name c) []) : PartG W 0 (.ref D) :=
  ⟨.mk x (.name c) [], .mk hD (.mk hx .nil) (ws := [.ref p]) hl (.cons (.name hp) .nil) (by simp only [colT]; exact .some), good_flat (by simp [wordsT]) rfl (by simpa [colT] using hc)⟩
end
theorem two_of {r a b : Value} (h : r ∈ [a, b]) : r = a ∨ r = b := by simpa using h
end
section
noncomputable def bareNames : List Str := [Str.ofString "COUNT", Str.ofString "sum", Str.ofString "changes"]
theorem bare_of {r : Value} {t1 t2 t3 : Tok} (h : r ∈ [Value.str (Str.ofString "COUNT") t1, .str (Str.ofString "sum") t2, .str (Str.ofString "changes") t3]) : ∃ c t, r = .str c t ∧ c ∈ bareNames := by
  simp only [List.mem_cons, List.not_mem_nil, or_false] at h
  rcases h with rfl | rfl | rfl <;> exact ⟨_, _, rfl, by decide +kernel⟩
theorem bare_in : ∀ nm ∈ bareNames, foldS nm ∈ foldedNames := by decide +kernel
theorem bare_agg : ∀ nm ∈ bareNames, ∀ st, aggF (foldS nm) ((([] : List Value).length : Nat) : Int) st = (nm == Str.ofString "COUNT") := by decide +kernel
theorem good_agg {a : Addr} : Good 0 (.mk a .agg []) := good_flat (by simp [wordsT, wordsL]) rfl (by simp [colT])
section
variable {W : Kn} {D l x d p q la : Addr} {n n' n'' n₃ n₄ n₅ : Nat} {t u : Tok} {h1 h2 h3 h4 : Int} {t1 t2 t3 t4 t5 : Tok} {nm : Str} {v : Value} {st : Bool}
theorem part_bare1 (hm : nm ∈ bareNames) (hc : (nm == Str.ofString "COUNT") = true) (hD : W D (tupO [.ref x, .ref l, .none] n)) (hl : W l (_root_.PySem.W.listOf #[.ref p, .ref q] n')) (hp : W p (tupO [.str (Str.ofString "open") t, .ref x] n'')) (hq : W q (tupO [.str (Str.ofString "close") u, .ref x] n₃))
    (hx : W x (instObj 396 d)) (hd : W d (dictOf [⟨h1, .str (Str.ofString "name") t1, .str nm t5⟩, ⟨h2, .str (Str.ofString "arguments") t2, .ref la⟩, ⟨h3, .str (Str.ofString "distinct") t3, v⟩, ⟨h4, .str (Str.ofString "star") t4, .bool st⟩] n₄)) (ha : W la (_root_.PySem.W.listOf #[] n₅)) : PartG W 0 (.ref D) := by
  have H := NodeIn.call (vs := []) hx hd ha (bare_in nm hm) (by simp)
  rw [bare_agg nm hm st, if_pos hc] at H
  exact ⟨.mk x .agg [], .mk hD (.mk H .nil) (ws := [.ref p, .ref q]) hl (by simp only [wordsT, wordsL]; exact .cons (.opn hp) (.cons (.cls hq) .nil)) (by simp only [colT]; exact .none), good_agg⟩
theorem part_bare0 (hm : nm ∈ bareNames) (hc : (nm == Str.ofString "COUNT") = false) (hD : W D (tupO [.ref x, .ref l, .none] n)) (hl : W l (_root_.PySem.W.listOf #[] n'))
    (hx : W x (instObj 396 d)) (hd : W d (dictOf [⟨h1, .str (Str.ofString "name") t1, .str nm t5⟩, ⟨h2, .str (Str.ofString "arguments") t2, .ref la⟩, ⟨h3, .str (Str.ofString "distinct") t3, v⟩, ⟨h4, .str (Str.ofString "star") t4, .bool st⟩] n₄)) (ha : W la (_root_.PySem.W.listOf #[] n₅)) : PartG W 0 (.ref D) := by
  have H := NodeIn.call (vs := []) hx hd ha (bare_in nm hm) (by simp)
  rw [bare_agg nm hm st, if_neg (by rw [hc]; decide)] at H
  exact ⟨.mk x .plain [], .mk hD (.mk H .nil) (ws := []) hl .nil (by simp only [colT]; exact .none), good_flat (by simp [wordsT, wordsL]) rfl (by simp [colT])⟩
end
end
section
theorem Good.mono {n m : Nat} {t : T} (h : Good n t) (hn : n ≤ m) : Good m t :=
  ⟨Nat.le_trans h.depth (by omega), Nat.le_trans h.words (Nat.pow_le_pow_right (by decide) (by omega)), h.expl, h.col⟩
theorem PartG.up {W : Kn} {n m : Nat} {r : Value} (h : PartG W n r) (hn : n ≤ m) : PartG W m r := let ⟨t, a, b⟩ := h; ⟨t, a, b.mono hn⟩
theorem four_pow (n : Nat) : 4 ≤ 4 ^ (n + 1) := by rw [Nat.pow_succ]; have : 0 < 4 ^ n := Nat.pos_of_ne_zero (by simp); omega
theorem good_words {n : Nat} : ∀ {ts : List T}, (∀ t ∈ ts, Good n t) → (wordsL ts).length ≤ ts.length * 4 ^ (n + 1)
  | [], _ => by simp [wordsL]
  | t :: ts, h => by
    have a := (h t (.head _)).words
    have b := good_words (ts := ts) fun u hu => h u (.tail _ hu)
    simp only [wordsL, List.length_append, List.length_cons, Nat.add_mul, Nat.one_mul]
    omega
theorem good_depth {n : Nat} : ∀ {ts : List T}, (∀ t ∈ ts, Good n t) → depthL ts ≤ 2 * n + 1
  | [], _ => by simp [depthL]
  | t :: ts, h => by
    rw [depthL]
    exact Nat.max_le.mpr ⟨(h t (.head _)).depth, good_depth fun u hu => h u (.tail _ hu)⟩
theorem good_expl {n : Nat} : ∀ {ts : List T}, (∀ t ∈ ts, Good n t) → ∀ w, explL ts = some w → w ∈ colls
  | [], _, _, e => by simp [explL] at e
  | t :: ts, h, w, e => by
    rw [explL] at e
    cases q : explT t with
    | some c => rw [q] at e; cases e; exact (h t (.head _)).expl _ q
    | none => rw [q] at e; exact good_expl (fun u hu => h u (.tail _ hu)) w e
theorem four_step {k w n : Nat} (h : w ≤ k * 4 ^ (n + 1)) (hk : k ≤ 3) : w + 2 ≤ 4 ^ (n + 1 + 1) := by
  have h4 := four_pow n
  have : k * 4 ^ (n + 1) ≤ 3 * 4 ^ (n + 1) := Nat.mul_le_mul_right _ hk
  rw [Nat.pow_succ 4 (n + 1)]
  omega
theorem good_agg2 {n : Nat} {a : Addr} {ts : List T} (h : ∀ t ∈ ts, Good n t) (hl : ts.length ≤ 3) : Good (n + 1) (.mk a .agg ts) := by
  have h1 := good_depth h
  have h2 := four_step (good_words h) hl
  exact ⟨by simp only [depthT]; omega, by simp only [wordsT, List.length_cons, List.length_append, List.length_nil]; omega, fun w e => good_expl h w (by simpa only [explT] using e), fun w e => by simp [colT] at e⟩
theorem good_plain {n : Nat} {a : Addr} {ts : List T} (h : ∀ t ∈ ts, Good n t) (hl : ts.length ≤ 3) : Good (n + 1) (.mk a .plain ts) := by
  have h1 := good_depth h
  have h2 := four_step (good_words h) hl
  exact ⟨by simp only [depthT]; omega, by simp only [wordsT]; omega, fun w e => good_expl h w (by simpa only [explT] using e), fun w e => by simp [colT] at e⟩
noncomputable def PartFull (h : Heap) (v : Value) (q : Value × List Value) : Prop := ∃ p l cv n n', v = .ref p ∧ h.get? p = some (tupO [q.1, .ref l, cv] n) ∧ h.get? l = some (_root_.PySem.W.listOf q.2.toArray n')
noncomputable def FstOf (h : Heap) (v y : Value) : Prop := ∃ p l cv n, v = .ref p ∧ h.get? p = some (tupO [y, l, cv] n)
theorem parts_full {W : Kn} {h : Heap} (s : ∀ a o, W a o → h.get? a = some o) {vs : List Value} {ts : List T} (x : Paired (PartIn W) vs ts) : ∃ qs, Paired (PartFull h) vs qs ∧ TreesIn W (qs.map (·.1)) ts ∧ WordsIn W (qs.map (·.2)).flatten (wordsL ts) := by
  induction x with
  | nil => exact ⟨[], .nil, .nil, .nil⟩
  | cons H _ ih =>
    obtain ⟨qs, a, b, c⟩ := ih
    cases H with
    | @mk p l v cv ws t n n' hD hT hl hW hc =>
    exact ⟨(v, ws) :: qs, .cons ⟨p, l, cv, n, n', rfl, s _ _ hD, s _ _ hl⟩ a, .cons hT b, by simp only [List.map_cons, List.flatten_cons, wordsL]; exact hW.append c⟩
theorem full_words {h : Heap} {vs : List Value} {qs : List (Value × List Value)} (x : Paired (PartFull h) vs qs) : Paired (PartW h) vs (qs.map (·.2)) :=
  pr_map (by rintro v q ⟨p, l, cv, n, n', e, e1, e2⟩; exact ⟨p, _, l, cv, n, n', e, e1, e2⟩) x
theorem full_fst {h : Heap} {vs ys : List Value} {qs : List (Value × List Value)} (x : Paired (PartFull h) vs qs) (y : Paired (FstOf h) vs ys) : ys = qs.map (·.1) := by
  refine pr_map2 ?_ y x
  rintro v b q ⟨p', l', cv', m, e', e1'⟩ ⟨p, l, cv, n, n', e, e1, _⟩
  rw [e] at e'
  cases e'
  rw [e1] at e1'
  have := Option.some.inj e1'
  simp only [Obj.mk.injEq, Data.seq.injEq, List.toArray, Array.mk.injEq, List.cons.injEq] at this
  exact this.2.2.1.1.1.symm
noncomputable def rowOk (nm : Str) (b : Bool) (k : Nat) : Prop := foldS nm ∈ foldedNames ∧ (b && (decide (k = 1) || ((nm == Str.ofString "group_concat") && decide (k = 2)))) = aggF (foldS nm) k false
noncomputable def RowR (h : Heap) (k : Nat) (r : Value) : Prop := ∃ p nm t b, r = .ref p ∧ IsTup h p #[.str nm t, .bool b] ∧ rowOk nm b k
theorem row_all : ∀ k ∈ [1, 2, 3], ∀ y ∈ ([("count", true), ("Sum", true), ("TOTAL", true), ("group_concat", true), ("min", decide (k = 1)), ("MAX", decide (k = 1)), ("abs", false), ("Coalesce", false), ("none", false)] : List (String × Bool)),
    foldS (Str.ofString y.1) ∈ foldedNames ∧ (y.2 && (decide (k = 1) || ((Str.ofString y.1 == Str.ofString "group_concat") && decide (k = 2)))) = aggF (foldS (Str.ofString y.1)) (k : Nat) false := by decide +kernel
end
section
section
variable {h₀ h : Heap} {L p : Addr} {news : Led} {k n : Nat} {t : Tok} {b : Bool}
theorem k_small {k : Nat} (h1 : 1 ≤ k) (h3 : k ≤ 3) : k ∈ [1, 2, 3] := by
  have : k = 1 ∨ k = 2 ∨ k = 3 := by omega
  simpa using this
theorem row_of (h1 : 1 ≤ k) (h3 : k ≤ 3) (N : News h₀ L h news) (y1 : String) (y2 : Bool) 
    (hm : (p, tupO [.str (Str.ofString y1) t, .bool b] n) ∈ news) (hb : b = y2) (hy : (y1, y2) ∈ ([("count", true), ("Sum", true), ("TOTAL", true), ("group_concat", true), ("min", decide (k = 1)), ("MAX", decide (k = 1)), ("abs", false), ("Coalesce", false), ("none", false)] : List (String × Bool))) : RowR h k (.ref p) :=
  ⟨p, _, t, b, rfl, ⟨_, (N _ hm).1, rfl, n, rfl⟩, by rw [hb]; exact row_all k (k_small h1 h3) (y1, y2) hy⟩
theorem int_one {k : Nat} : (((k : Nat) : Int) == 1) = decide (k = 1) := by
  by_cases h : k = 1
  · simp [h]
  · have : ¬ ((k : Nat) : Int) = 1 := by omega
    simp [h, this]
end
section
variable {nm : Str} {b : Bool} {k : Nat}
theorem row_fold (h : rowOk nm b k) : foldS nm ∈ foldedNames := h.1
theorem row_yes1 (h : rowOk nm b k) (hb : b = true) (hk : ((k : Nat) : Int) = 1) : aggF (foldS nm) k false = true := by
  have hk : k = 1 := by omega
  rw [← h.2, hb, hk]; rfl
theorem row_yes2 (h : rowOk nm b k) (hb : b = true) (hn : (nm == Str.ofString "group_concat") = true) (hk : ((k : Nat) : Int) = 2) : aggF (foldS nm) k false = true := by
  have hk : k = 2 := by omega
  rw [← h.2, hb, hn, hk]; rfl
theorem row_no1 (h : rowOk nm b k) (hb : b = false) : aggF (foldS nm) k false = false := by rw [← h.2, hb]; rfl
theorem row_no2 (h : rowOk nm b k) (hk : ¬ ((k : Nat) : Int) = 1) (hn : (nm == Str.ofString "group_concat") = false) : aggF (foldS nm) k false = false := by
  have hk : ¬ k = 1 := by omega
  rw [← h.2, hn]; simp [hk]
theorem row_no3 (h : rowOk nm b k) (hk : ¬ ((k : Nat) : Int) = 1) (hk2 : ¬ ((k : Nat) : Int) = 2) : aggF (foldS nm) k false = false := by
  have hk : ¬ k = 1 := by omega
  have hk2 : ¬ k = 2 := by omega
  rw [← h.2]; simp [hk, hk2]
end
section
variable {W : Kn} {D l x d p q la : Addr} {n n0 n1 n2 n3 n4 n5 : Nat} {t u : Tok} {h1 h2 h3 h4 : Int} {t1 t2 t3 t4 t5 : Tok} {nm : Str} {v : Value} {vs ws : List Value} {ts : List T}
theorem part_callA (hf : foldS nm ∈ foldedNames) (ha : aggF (foldS nm) (vs.length : Nat) false = true) (hT : TreesIn W vs ts) (hW : WordsIn W ws (wordsL ts)) (hg : ∀ t ∈ ts, Good n t) (hz : vs.length ≤ 3) (hD : W D (tupO [.ref x, .ref l, .none] n0)) (hl : W l (_root_.PySem.W.listOf (([Value.ref p] ++ ws) ++ [Value.ref q]).toArray n1)) (hp : W p (tupO [.str (Str.ofString "open") t, .ref x] n2)) (hq : W q (tupO [.str (Str.ofString "close") u, .ref x] n3))
    (hx : W x (instObj 396 d)) (hd : W d (dictOf [⟨h1, .str (Str.ofString "name") t1, .str nm t5⟩, ⟨h2, .str (Str.ofString "arguments") t2, .ref la⟩, ⟨h3, .str (Str.ofString "distinct") t3, v⟩, ⟨h4, .str (Str.ofString "star") t4, .bool false⟩] n4)) (hla : W la (_root_.PySem.W.listOf vs.toArray n5)) : PartG W (n + 1) (.ref D) := by
  have H := NodeIn.call hx hd hla hf hz
  rw [ha, if_pos rfl] at H
  refine ⟨.mk x .agg ts, .mk hD (.mk H hT) hl ?_ (by simp only [colT]; exact .none), good_agg2 hg (by rw [hT.len]; exact hz)⟩
  simp only [wordsT]
  exact WordsIn.append (.cons (.opn hp) hW) (.cons (.cls hq) .nil)
theorem part_callP (hf : foldS nm ∈ foldedNames) (ha : aggF (foldS nm) (vs.length : Nat) false = false) (hT : TreesIn W vs ts) (hW : WordsIn W ws (wordsL ts)) (hg : ∀ t ∈ ts, Good n t) (hz : vs.length ≤ 3) (hD : W D (tupO [.ref x, .ref l, .none] n0)) (hl : W l (_root_.PySem.W.listOf ws.toArray n1))
    (hx : W x (instObj 396 d)) (hd : W d (dictOf [⟨h1, .str (Str.ofString "name") t1, .str nm t5⟩, ⟨h2, .str (Str.ofString "arguments") t2, .ref la⟩, ⟨h3, .str (Str.ofString "distinct") t3, v⟩, ⟨h4, .str (Str.ofString "star") t4, .bool false⟩] n4)) (hla : W la (_root_.PySem.W.listOf vs.toArray n5)) : PartG W (n + 1) (.ref D) := by
  have H := NodeIn.call hx hd hla hf hz
  rw [ha, if_neg (by decide)] at H
  refine ⟨.mk x .plain ts, .mk hD (.mk H hT) hl ?_ (by simp only [colT]; exact .none), good_plain hg (by rw [hT.len]; exact hz)⟩
  simp only [wordsT]
  exact hW
end
noncomputable def orK (W₀ W : Kn) : Kn := fun a o => W₀ a o ∨ W a o
theorem orK_l {W₀ W : Kn} : ∀ a o, W₀ a o → orK W₀ W a o := fun _ _ h => .inl h
theorem orK_end {src : Addr} {news : Led} {W₀ : Kn} {n : Nat} {r : Value} (h : PartG (orK W₀ (offS src news)) n r) : PartG (orK W₀ (inLed (news.filter fun p => decide (p.1 ≠ src)))) n r :=
  h.mono fun a o x => x.elim .inl fun y => .inr (offS_in a o y)
noncomputable def AllNe (d : Nat) : List (Addr × Obj) → Prop
  | [] => True
  | p :: r => @Ne Nat p.1 d ∧ AllNe d r
theorem allNe_of {d : Addr} : ∀ {l : List (Addr × Obj)}, (∀ p ∈ l, p.1 ≠ d) → AllNe d l
  | [], _ => trivial
  | p :: _, h => ⟨h p (.head _), allNe_of fun q hq => h q (.tail _ hq)⟩
theorem fst_end {h : Heap} {p : Addr} {y l cv : Value} {n : Nat} {s : Shared} {s' : Shared} (e : h.get? p = some (tupO [y, l, cv] n)) (k : Keeps s s') : EltEnd (FstOf h) (.ref p) s y s' := ⟨⟨p, l, cv, n, rfl, e⟩, k⟩
end
section
section
variable {prog : Program} {w : World} {A : Around} {E : Value → Shared → Prop} {s : Shared} {env : Env} {Q : Value → Shared → Prop}
theorem comp_fst {H : Heap} {vs : List Value} {qs : List (Value × List Value)} {elt iter : Expr} {ifs : List Expr} {x : Str} {scope : Scope} {cl : List (Str × Addr)} {px pos : Pos} (hq : Paired (PartFull H) vs qs)
    (hclos : closureFor scope env = pure cl) (hcell : ∀ y ∈ scope.names, y.2 ≠ .cell) (hkind : scope.kind = .function)
    (hnames : ∀ y ∈ scope.names, y.2 = .local → scope.names.lookup y.1 = some .local) (hx : scope.names.lookup x = some .local)
    (h : wpAny (model prog w) A (eval iter env) (fun xv s₁ => wpAny (model prog w) A (pyIter xv) (CompAsk prog w A env elt x ifs scope cl (fun _ => true) (FstOf H) Q) E s₁) E s)
    (hs : ∀ x, foldedSetIterable iter env x = pure x := by intro _; rfl) :
    wpAny (model prog w) A (eval (.ListComp elt [⟨.Name x px, iter, ifs, 0⟩] scope pos) env) Q E s :=
  comp_of _ _ hclos hcell hkind hnames hx h hs
end
theorem full_mem {h : Heap} {vs : List Value} {qs : List (Value × List Value)} {v : Value} (x : Paired (PartFull h) vs qs) (m : v ∈ vs) : ∃ p y l cv n, v = .ref p ∧ h.get? p = some (tupO [y, l, cv] n) := by
  obtain ⟨q, p, l, cv, n, n', e, e1, _⟩ := paired_mem x m
  exact ⟨p, _, .ref l, cv, n, e, e1⟩
theorem fst_fil {h : Heap} {vs ys : List Value} {qs : List (Value × List Value)} (hq : Paired (PartFull h) vs qs) (hp : Paired (FstOf h) (vs.filter (fun _ => true)) ys) : ys = qs.map (·.1) :=
  full_fst hq ((congrArg (fun l => Paired (FstOf h) l ys) (List.filter_eq_self.mpr fun _ _ => rfl)).mp hp)
theorem few_line {vs : List Value} (h : vs.length ≤ 3) : vs.length ≤ sizeLine := by rw [sizeLine_eq]; omega
end
section
theorem row_goal {h : Heap} {r : Value} {k : Nat} (lk : Tag 8 (1 ≤ k ∧ k ≤ 3)) (x : RowR h k r) : ∃ p nm t b, r = .ref p ∧ IsTup h p #[.str nm t, .bool b] ∧ rowOk nm b k := x
end
section
theorem room1 {a : Value} {ws : List Value} (h : ws.length ≤ 10000) : [a].length + ws.length ≤ sizeLine := by rw [sizeLine_eq]; simp only [List.length_singleton]; omega
theorem room2 {a b : Value} {ws : List Value} (h : ws.length ≤ 10000) : ([a] ++ ws).length + [b].length ≤ sizeLine := by rw [sizeLine_eq]; simp only [List.length_append, List.length_singleton]; omega
end
section
theorem tg_variable_collate : (Str.ofString "variable" == Str.ofString "collate") = false := by decide +kernel
theorem tg_select_collate : (Str.ofString "select" == Str.ofString "collate") = false := by decide +kernel
theorem tg_name_collate : (Str.ofString "name" == Str.ofString "collate") = false := by decide +kernel
theorem tg_collate_collate : (Str.ofString "collate" == Str.ofString "collate") = true := by decide +kernel
theorem tg_open_collate : (Str.ofString "open" == Str.ofString "collate") = false := by decide +kernel
theorem tg_close_collate : (Str.ofString "close" == Str.ofString "collate") = false := by decide +kernel
theorem tg_variable_select : (Str.ofString "variable" == Str.ofString "select") = false := by decide +kernel
theorem tg_select_select : (Str.ofString "select" == Str.ofString "select") = true := by decide +kernel
theorem tg_name_select : (Str.ofString "name" == Str.ofString "select") = false := by decide +kernel
theorem tg_collate_select : (Str.ofString "collate" == Str.ofString "select") = false := by decide +kernel
theorem tg_open_select : (Str.ofString "open" == Str.ofString "select") = false := by decide +kernel
theorem tg_close_select : (Str.ofString "close" == Str.ofString "select") = false := by decide +kernel
theorem tg_variable_name : (Str.ofString "variable" == Str.ofString "name") = false := by decide +kernel
theorem tg_select_name : (Str.ofString "select" == Str.ofString "name") = false := by decide +kernel
theorem tg_name_name : (Str.ofString "name" == Str.ofString "name") = true := by decide +kernel
theorem tg_collate_name : (Str.ofString "collate" == Str.ofString "name") = false := by decide +kernel
theorem tg_open_name : (Str.ofString "open" == Str.ofString "name") = false := by decide +kernel
theorem tg_close_name : (Str.ofString "close" == Str.ofString "name") = false := by decide +kernel
theorem tg_variable_variable : (Str.ofString "variable" == Str.ofString "variable") = true := by decide +kernel
theorem tg_select_variable : (Str.ofString "select" == Str.ofString "variable") = false := by decide +kernel
theorem tg_name_variable : (Str.ofString "name" == Str.ofString "variable") = false := by decide +kernel
theorem tg_collate_variable : (Str.ofString "collate" == Str.ofString "variable") = false := by decide +kernel
theorem tg_open_variable : (Str.ofString "open" == Str.ofString "variable") = false := by decide +kernel
theorem tg_close_variable : (Str.ofString "close" == Str.ofString "variable") = false := by decide +kernel

theorem sel_none {ps : List (Value × Value)} {xs : List Wd} (x : Paired WdP ps xs) : (ps.filter (tagIs (Str.ofString "select"))).map (·.2) = List.replicate (xs.filter Wd.isSel).length Value.none := by
  induction x with
  | nil => exact rfl
  | cons h _ ih =>
    cases h <;> simp only [List.filter_cons, tagIs, tg_variable_collate, tg_select_collate, tg_name_collate, tg_collate_collate, tg_open_collate, tg_close_collate, tg_variable_select, tg_select_select, tg_name_select, tg_collate_select, tg_open_select, tg_close_select, tg_variable_name, tg_select_name, tg_name_name, tg_collate_name, tg_open_name, tg_close_name, tg_variable_variable, tg_select_variable, tg_name_variable, tg_collate_variable, tg_open_variable, tg_close_variable, Wd.isSel, if_true, if_false, Bool.false_eq_true, List.map_cons, List.length_cons, List.replicate_succ, ih]
theorem name_refs {ps : List (Value × Value)} {xs : List Wd} (x : Paired WdP ps xs) : (ps.filter (tagIs (Str.ofString "name"))).map (·.2) = (xs.filterMap Wd.name?).map Value.ref := by
  induction x with
  | nil => exact rfl
  | cons h _ ih =>
    cases h <;> simp only [List.filter_cons, List.filterMap_cons, tagIs, tg_variable_collate, tg_select_collate, tg_name_collate, tg_collate_collate, tg_open_collate, tg_close_collate, tg_variable_select, tg_select_select, tg_name_select, tg_collate_select, tg_open_select, tg_close_select, tg_variable_name, tg_select_name, tg_name_name, tg_collate_name, tg_open_name, tg_close_name, tg_variable_variable, tg_select_variable, tg_name_variable, tg_collate_variable, tg_open_variable, tg_close_variable, Wd.name?, if_true, if_false, Bool.false_eq_true, List.map_cons, ih]
theorem coll_strs {ps : List (Value × Value)} {xs : List Wd} (x : Paired WdP ps xs) : Paired (fun v c => ∃ t, v = Value.str c t) ((ps.filter (tagIs (Str.ofString "collate"))).map (·.2)) (xs.filterMap Wd.coll?) := by
  induction x with
  | nil => exact .nil
  | cons h _ ih =>
    cases h <;> simp only [List.filter_cons, List.filterMap_cons, tagIs, tg_variable_collate, tg_select_collate, tg_name_collate, tg_collate_collate, tg_open_collate, tg_close_collate, tg_variable_select, tg_select_select, tg_name_select, tg_collate_select, tg_open_select, tg_close_select, tg_variable_name, tg_select_name, tg_name_name, tg_collate_name, tg_open_name, tg_close_name, tg_variable_variable, tg_select_variable, tg_name_variable, tg_collate_variable, tg_open_variable, tg_close_variable, Wd.coll?, if_true, if_false, Bool.false_eq_true, List.map_cons] <;> first | exact ih | exact .cons ⟨_, rfl⟩ ih
theorem strs_none {vs : List Value} {cs : List Str} (h : Paired (fun v c => ∃ t, v = Value.str c t) vs cs) : (∀ u ∈ vs, NoneStr u) ∧ ColIs (firstV (vs.filter notNone) .none) cs.head? := by
  refine ⟨fun u hu => ?_, ?_⟩
  · obtain ⟨c, t, e⟩ := paired_mem h hu
    exact .inr ⟨c, t, e⟩
  · cases h with
    | nil => exact .none
    | cons h hs =>
      obtain ⟨t, rfl⟩ := h
      exact .some
theorem colIs_ns {v : Value} {o : Option Str} (h : ColIs v o) : NoneStr v := by
  cases h
  · exact .inl rfl
  · exact .inr ⟨_, _, rfl⟩
theorem first_two {v u : Value} {o p : Option Str} {b : Str} {t : Tok} (h : ColIs v o) (k : ColIs u p) : ∃ t', firstV (List.filter notNone [v, u]) (.str b t) = .str ((o.or p).getD b) t' := by
  cases h <;> cases k <;> exact ⟨_, rfl⟩
theorem aggs_node {W : Kn} {v : Value} {t : T} {a : Addr} (x : TreeIn W v t) (ha : a ∈ aggsT t) : ∃ c vs, NodeIn W a c .agg vs :=
  TreeIn.rec (motive_1 := fun v t _ => a ∈ aggsT t → ∃ c vs, NodeIn W a c .agg vs) (motive_2 := fun vs ts _ => a ∈ aggsL ts → ∃ c vs, NodeIn W a c .agg vs)
    (@fun b c k vs ts h hs ih ha => by
      by_cases hk : k = .agg
      · subst hk
        simp only [aggsT, List.mem_singleton] at ha
        subst ha
        exact ⟨_, _, h⟩
      · rw [aggs_other h hs hk] at ha
        exact ih ha)
    (fun ha => by rw [aggsL] at ha; cases ha)
    (fun _ _ ih1 ih2 ha => by
      rw [aggsL] at ha
      exact (List.mem_append.mp ha).elim ih1 ih2) x ha
theorem names_node {W : Kn} {v : Value} {t : T} {a : Addr} (x : TreeIn W v t) (ha : a ∈ namesT t) : ∃ c k vs, NodeIn W a c k vs :=
  TreeIn.rec (motive_1 := fun v t _ => a ∈ namesT t → ∃ c k vs, NodeIn W a c k vs) (motive_2 := fun vs ts _ => a ∈ namesL ts → ∃ c k vs, NodeIn W a c k vs)
    (@fun b c k vs ts h hs ih ha => by
      by_cases hb : a = b
      · subst hb; exact ⟨_, _, _, h⟩
      by_cases hk : c = .name
      · subst hk
        cases h
        simp only [namesT, List.mem_singleton] at ha
        exact absurd ha hb
      · rw [names_other h hs hk] at ha
        exact ih ha)
    (fun ha => by rw [namesL] at ha; cases ha)
    (fun _ _ ih1 ih2 ha => by
      rw [namesL] at ha
      exact (List.mem_append.mp ha).elim ih1 ih2) x ha
theorem node_noTup {h : Heap} {a : Addr} {c : Cl} {k : Kd} {vs : List Value} (H : NodeIn (atH h) a c k vs) : NoTup h a := by
  obtain ⟨d, od, e, _⟩ := H.inst
  exact ⟨_, e, by intro x; cases x⟩
theorem agg_yes {h : Heap} {a b : Addr} {c : Cl} {k : Kd} {vs : List Value} {ts : List T} (H : NodeIn (atH h) a c k vs) (hs : TreesIn (atH h) vs ts) (hb : b ∈ aggsT (.mk a k ts)) : decide (k = .agg) = decide (b = a) := by
  by_cases hk : k = .agg
  · subst hk
    simp only [aggsT, List.mem_singleton] at hb
    simp [hb]
  · obtain ⟨c', vs', H'⟩ := aggs_node (.mk H hs) hb
    have : ¬ b = a := fun e => by subst e; exact hk (H.det H').2.1
    simp [hk, this]
theorem agg_no {a : Addr} {k : Kd} {ts : List T} (h : ¬ (aggsT (.mk a k ts)).length = 1) : decide (k = .agg) = false := by
  by_cases hk : k = .agg
  · subst hk
    simp [aggsT] at h
  · simp [hk]
theorem outV_T (t : T) : outV (wordsT t) = (aggsT t).map Value.ref := by
  rw [outV, outer_T t 0 (by omega)]; rfl
noncomputable def IsFst (q : Value × Value) (y : Value) : Prop := y = q.1
theorem isFst_all {ps : List (Value × Value)} {ys : List Value} (x : Paired IsFst ps ys) : ys = ps.map (·.1) := pr_map1 (fun _ _ e => e) x
theorem fst_strs {ps : List (Value × Value)} {xs : List Wd} (x : Paired WdP ps xs) : ∃ cs, StrsAre (ps.map (·.1)) cs ∧ (cs.any fun c => c == Str.ofString "variable") = xs.any Wd.isVar := by
  induction x with
  | nil => exact ⟨[], .nil, rfl⟩
  | cons h _ ih =>
    obtain ⟨cs, a, b⟩ := ih
    cases h <;> exact ⟨_ :: cs, .cons _ _ a, by rw [List.any_cons, List.any_cons, b]; simp only [tg_variable_variable, tg_select_variable, tg_name_variable, tg_collate_variable, tg_open_variable, tg_close_variable, Wd.isVar]⟩
section
variable {prog : Program} {w : World} {A : Around} {E : Value → Shared → Prop} {s : Shared} {env : Env} {Q : Value → Shared → Prop}
theorem ne_col {a b : Value} {o : Option Str} (ha : ColIs a o) (hb : ColIs b o) (h : Q (.bool false) s) : wpAny (model prog w) A (compareOp .NotEq a b) Q E s := by
  cases ha <;> cases hb
  · exact EqNone.ne_none_none h
  · exact PyProof.Rows.ne_str (by simpa using h)
theorem ne_strs {a : Str} {t u : Tok} (h : Q (.bool false) s) : wpAny (model prog w) A (compareOp .NotEq (.str a t) (.str a u)) Q E s := PyProof.Rows.ne_str (by simpa using h)
theorem ne_bools {a b : Bool} (e : a = b) (h : Q (.bool false) s) : wpAny (model prog w) A (compareOp .NotEq (.bool a) (.bool b)) Q E s := ne_bool (by subst e; simpa using h)
theorem ne_nil {l b : Addr} {vs : List Value} (hl : s.heap.IsList l vs.toArray) (hb : s.heap.IsList b #[]) (hu : A.units < cLine) (h : Q (.bool (!vs.isEmpty)) s) : wpAny (model prog w) A (compareOp .NotEq (.ref l) (.ref b)) Q E s := by
  cases vs with
  | nil =>
    have z : SeqAt.RcNeAt A s (.ref l) (.ref b) (!(List.range 0).all fun _ => true) := SeqAt.RcNeAt.lists hl hb rfl hu (fun j h1 => absurd h1 (Nat.not_lt_zero _))
    exact EqBoolInt.of_rcne z h
  | cons v vs =>
    have z : SeqAt.RcNeAt A s (.ref l) (.ref b) true := SeqAt.RcNeAt.lists_lengths hl hb (by simp) hu
    exact EqBoolInt.of_rcne z h
theorem in_wds {l : Addr} {ps : List (Value × Value)} {xs : List Wd} {t : Tok} (hl : s.heap.IsList l (ps.map (·.1)).toArray) (hp : Paired WdP ps xs) (h : Q (.bool (xs.any Wd.isVar)) s) : wpAny (model prog w) A (compareOp .In (.str (Str.ofString "variable") t) (.ref l)) Q E s := by
  obtain ⟨cs, a, b⟩ := fst_strs hp
  exact in_list_strs hl a (b ▸ h)
theorem pairAskN_intro {elt : Expr} {a b : Str} {scope : Scope} {cl : List (Str × Addr)} {Fn : Value × Value → Value → Prop} {ax : Addr} {vs : List Value} {ps : List (Value × Value)}
    (hl : s.heap.IsList ax vs.toArray) (hz : vs.length ≤ sizeLine) (hp : Paired (PairAt s.heap) vs ps)
    (elts : ∀ C s₃ m₃ E' q, q ∈ ps → s₃.heap.Ns C m₃ → m₃ a = some q.1 → m₃ b = some q.2 → Stay s.heap s₃.heap → wpAny (model prog w) A (eval elt (compEnvC scope cl C env)) (EltEnd2 Fn q s₃) E' s₃)
    (fin : ∀ D n h' tk ys, s.heap.get? D = none → h'.get? D = some (_root_.PySem.W.listOf (List.toArray ys) n) → Stay s.heap h' → Paired Fn ps ys → Q (.ref D) { s with heap := h', toks := tk }) :
    PairAskN prog w A env elt a b scope cl Fn Q (.ref ax) s :=
  ⟨ax, vs, ps, rfl, hl, hz, hp, elts, fin⟩
theorem comp_words {elt iter : Expr} {a b : Str} {pa pb tp pos : Pos} {kk : Nat} {scope : Scope} {cl : List (Str × Addr)} (hh : A.handled = none)
    (hclos : closureFor scope env = pure cl) (hcell : ∀ y ∈ scope.names, y.2 ≠ .cell) (hkind : scope.kind = .function)
    (hnames : ∀ y ∈ scope.names, y.2 = .local → scope.names.lookup y.1 = some .local) (hxa : scope.names.lookup a = some .local) (hxb : scope.names.lookup b = some .local) (hab : ¬ a = b)
    (h : wpAny (model prog w) A (eval iter env) (fun xv s₁ => PairAskN prog w A env elt a b scope cl IsFst Q xv s₁) E s)
    (hs : ∀ x, foldedSetIterable iter env x = pure x := by intro _; rfl) :
    wpAny (model prog w) A (eval (.ListComp elt [⟨.Tuple [.Name a pa, .Name b pb] kk tp, iter, [], 0⟩] scope pos) env) Q E s :=
  pair_compN _ hh hclos hcell hkind hnames hxa hxb hab h hs
theorem fst_elt {a v : Value} {s : Shared} : EltEnd2 IsFst (a, v) s a s := ⟨rfl, keeps_refl s⟩
end
theorem sel_any {ps : List (Value × Value)} {xs : List Wd} (h : Paired WdP ps xs) : (!((ps.filter (tagIs (Str.ofString "select"))).map (·.2)).isEmpty) = xs.any Wd.isSel := by
  rw [sel_none h]
  clear h
  induction xs with
  | nil => rfl
  | cons x xs ih =>
    cases hx : Wd.isSel x
    · simpa only [List.filter_cons, hx, List.any_cons, Bool.false_or, if_false, Bool.false_eq_true] using ih
    · simp [List.filter_cons, hx, List.any_cons, List.replicate_succ]
end
section
theorem in_trans {a b c : Led} (h : ∀ x y, inLed a x y → inLed b x y) (k : ∀ x y, inLed b x y → inLed c x y) : ∀ x y, inLed a x y → inLed c x y := fun x y z => k x y (h x y z)
theorem part_open {W : Kn} {n : Nat} {r : Value} (h : PartG W n r) : ∃ p l a cv ws t n1 n2, r = .ref p ∧ W p (tupO [.ref a, .ref l, cv] n1) ∧ TreeIn W (.ref a) t ∧ W l (_root_.PySem.W.listOf (List.toArray ws) n2) ∧ WordsIn W ws (wordsT t) ∧ ColIs cv (colT t) ∧ Good n t := by
  obtain ⟨t, H, G⟩ := h
  cases H with
  | @mk p l v cv ws t n n' hD hT hl hW hc =>
  have e := hT.ref
  subst e
  exact ⟨p, l, t.addr, cv, ws, t, n, n', rfl, hD, hT, hl, hW, hc, G⟩
end
section
theorem part_ref {W : Kn} {n : Nat} {r : Value} (h : PartG W n r) : ∃ p, r = .ref p := by
  obtain ⟨t, H, _⟩ := h
  cases H
  exact ⟨_, rfl⟩
theorem part_k {W : Kn} {n : Nat} {r : Value} {b : Prop} (h : PartG W n r) (k : ∀ p l a cv ws t n1 n2, r = .ref p → W p (tupO [.ref a, .ref l, cv] n1) → TreeIn W (.ref a) t → W l (_root_.PySem.W.listOf (List.toArray ws) n2) → WordsIn W ws (wordsT t) → ColIs cv (colT t) → Good n t → b) : b := by
  obtain ⟨t, H, G⟩ := h
  cases H with
  | @mk p l v cv ws t n n' hD hT hl hW hc =>
  have e := hT.ref
  subst e
  exact k _ _ _ _ _ _ _ _ rfl hD hT hl hW hc G
end
section
noncomputable def collWords : List Str := [Str.ofString "NOCASE", Str.ofString "rtrim", Str.ofString "Binary"]
theorem cword_of {r : Value} {t1 t2 t3 : Tok} (h : r ∈ [Value.str (Str.ofString "NOCASE") t1, .str (Str.ofString "rtrim") t2, .str (Str.ofString "Binary") t3]) : ∃ c t, r = .str c t ∧ c ∈ collWords ∧ c.length ≤ 100 := by
  simp only [List.mem_cons, List.not_mem_nil, or_false] at h
  rcases h with rfl | rfl | rfl <;> exact ⟨_, _, rfl, by decide +kernel, by decide +kernel⟩
theorem cword_lower : ∀ c ∈ collWords, Txt.lower c = foldS c ∧ foldS c ∈ colls ∧ c.cps.size ≤ 100 := by decide +kernel
noncomputable def unOps : List Str := [Str.ofString "+", Str.ofString "-", Str.ofString "not", Str.ofString "~"]
theorem uop_of {r : Value} {t1 t2 t3 t4 : Tok} (h : r ∈ [Value.str (Str.ofString "+") t1, .str (Str.ofString "-") t2, .str (Str.ofString "not") t3, .str (Str.ofString "~") t4]) : ∃ c t, r = .str c t := by
  simp only [List.mem_cons, List.not_mem_nil, or_false] at h
  rcases h with rfl | rfl | rfl | rfl <;> exact ⟨_, _, rfl⟩
theorem ist_news {h₀ h : Heap} {L p : Addr} {news : Led} {its : List Value} {n : Nat} (N : News h₀ L h news) (e : (p, tupO its n) ∈ news) : IsTup h p its.toArray := ⟨_, (N _ e).1, rfl, n, rfl⟩
theorem few_words {W : Kn} {n : Nat} {t : T} {ws : List Value} (hG : Good n t) (hW : WordsIn W ws (wordsT t)) (hn : n ≤ 2) : ws.length ≤ 10000 := by
  have a := hG.words
  have b := hW.len
  have c : 4 ^ (n + 1) ≤ 4 ^ 3 := Nat.pow_le_pow_right (by decide) (by omega)
  omega
end
section
theorem three_parts {t1 t2 t3 : Led} {n : Nat} {a b c : Value} (h1 : PartG (inLed t1) n a) (h2 : PartG (inLed t2) 0 b) (h3 : PartG (inLed t3) n c) (s1 : ∀ x y, inLed t1 x y → inLed t3 x y) (s2 : ∀ x y, inLed t2 x y → inLed t3 x y) : ∀ v ∈ [a, b, c], PartG (inLed t3) n v := fun v hv => by
  simp only [List.mem_cons, List.not_mem_nil, or_false] at hv
  rcases hv with rfl | rfl | rfl
  · exact h1.mono s1
  · exact (h2.mono s2).up (Nat.zero_le _)
  · exact h3
theorem parts_pair {W : Kn} {n : Nat} : ∀ {vs : List Value}, (∀ v ∈ vs, PartG W n v) → ∃ ts, Paired (PartIn W) vs ts ∧ ∀ t ∈ ts, Good n t
  | [], _ => ⟨[], .nil, nofun⟩
  | v :: vs, h => by
    obtain ⟨t, a, b⟩ := h v (.head _)
    obtain ⟨ts, c, d⟩ := parts_pair (vs := vs) fun u hu => h u (.tail _ hu)
    exact ⟨t :: ts, .cons a c, fun u hu => by rcases List.mem_cons.mp hu with rfl | hu; exact b; exact d u hu⟩
noncomputable def FullK (W : Kn) (v : Value) (q : Value × List Value) : Prop := ∃ p l cv n n', v = .ref p ∧ W p (tupO [q.1, .ref l, cv] n) ∧ W l (_root_.PySem.W.listOf q.2.toArray n')
theorem fullK_at {W : Kn} {h : Heap} {vs : List Value} {qs : List (Value × List Value)} (x : Paired (FullK W) vs qs) (s : ∀ a o, W a o → h.get? a = some o) : Paired (PartFull h) vs qs := by
  refine x.mono ?_
  rintro _ _ ⟨p, l, cv, n, n', e, e1, e2⟩
  exact ⟨p, l, cv, n, n', e, s _ _ e1, s _ _ e2⟩
theorem pick3 {W : Kn} {n : Nat} {vs : List Value} {ts : List T} (hP : Paired (PartIn W) vs ts) (hg : ∀ t ∈ ts, Good n t) (h1 : 1 ≤ vs.length) (h3 : vs.length ≤ 3) {q1 q2 : Value} (hq1 : PartG W n q1) (hq2 : PartG W n q2) :
    ∃ p1 p2 p3 a1 a2 a3 w1 w2 w3 t1 t2 t3, (vs ++ [q1, q2]).take 3 = [Value.ref p1, .ref p2, .ref p3] ∧ Paired (FullK W) [Value.ref p1, .ref p2, .ref p3] [(Value.ref a1, w1), (Value.ref a2, w2), (Value.ref a3, w3)] ∧
      TreeIn W (.ref a1) t1 ∧ TreeIn W (.ref a2) t2 ∧ TreeIn W (.ref a3) t3 ∧ WordsIn W ([(Value.ref a1, w1), (Value.ref a2, w2), (Value.ref a3, w3)].map (·.2)).flatten (wordsL [t1, t2, t3]) ∧ Good n t1 ∧ Good n t2 ∧ Good n t3 := by
  have all : ∀ v ∈ (vs ++ [q1, q2]).take 3, PartG W n v := fun v hv => by
    have hv := List.mem_of_mem_take hv
    rcases List.mem_append.mp hv with hv | hv
    · obtain ⟨i, hi⟩ := List.getElem?_of_mem hv
      obtain ⟨t, ht, hF⟩ := paired_get hP hi
      exact ⟨t, hF, hg t (List.mem_of_getElem? ht)⟩
    · simp only [List.mem_cons, List.not_mem_nil, or_false] at hv
      rcases hv with rfl | rfl
      · exact hq1
      · exact hq2
  have len : ((vs ++ [q1, q2]).take 3).length = 3 := by rw [List.length_take, List.length_append]; simp only [List.length_cons, List.length_nil]; omega
  obtain ⟨x, y, z, e⟩ := three_of len
  rw [e] at all ⊢
  refine part_k (all x (.head _)) fun p1 l1 a1 c1 w1 t1 m1 m1' b1 d1 r1 e1 f1 g1 k1 => part_k (all y (.tail _ (.head _))) fun p2 l2 a2 c2 w2 t2 m2 m2' b2 d2 r2 e2 f2 g2 k2 => part_k (all z (.tail _ (.tail _ (.head _)))) fun p3 l3 a3 c3 w3 t3 m3 m3' b3 d3 r3 e3 f3 g3 k3 =>
    ⟨p1, p2, p3, a1, a2, a3, w1, w2, w3, t1, t2, t3, by rw [b1, b2, b3], .cons ⟨p1, l1, c1, m1, m1', rfl, d1, e1⟩ (.cons ⟨p2, l2, c2, m2, m2', rfl, d2, e2⟩ (.cons ⟨p3, l3, c3, m3, m3', rfl, d3, e3⟩ .nil)), r1, r2, r3, ?_, k1, k2, k3⟩
  simp only [List.map_cons, List.map_nil, List.flatten_cons, List.flatten_nil, wordsL]
  exact f1.append (f2.append (f3.append .nil))
section
variable {prog : Program} {w : World} {A : Around} {E : Value → Shared → Prop} {s : Shared} {h₀ : Heap} {L l : Addr} {m : Str → Option Value} {news : Led} {value slice : PySem.Expr} {Q : Value → Shared → Prop} {vl vu : Value}
theorem slice_first {W : Kn} {n : Nat} {a b c : Value} {k : Int} (F : Fr h₀ L s.heap m) (N : News h₀ L s.heap news) (hl : s.heap.IsList l #[a, b, c]) (pl : IsPart vl none) (pu : IsPart vu (some (1 + k))) (h0 : 0 ≤ k) (h3 : k < 3) (hall : ∀ v ∈ [a, b, c], PartG W n v)
    (h : ∀ D vs ts h', Paired (PartIn W) vs ts → (∀ t ∈ ts, Good n t) → 1 ≤ vs.length → vs.length ≤ 3 → Fr h₀ L h' m → News h₀ L h' ((D, _root_.PySem.W.listOf (List.toArray vs) 0) :: news) → (∀ p ∈ news, p.1 < D) → Q (.ref D) { s with heap := h' })
    (hs : subscripted slice false (.ref l) (.ref s.heap.objs.size) = operate [.ref s.heap.objs.size, .ref l] (getItem (.ref l) (.ref s.heap.objs.size))) (ht : ∀ r, letTemporaryGo value (.ref l) r = pure ()) :
    wpAny (model prog w) A (subscriptTail value slice (.ref l) (.ref s.heap.objs.size)) Q E { s with heap := s.heap.push { cls := .type "slice", data := .fields #[vl, vu, .none] } } := by
  refine kmk_slice F N hl pl pu (fun D h' F' N' l1 => ?_) hs ht (by rw [sizeLine_eq]; exact Nat.le_of_ble_eq_true rfl)
  have e : slicePick #[a, b, c] none (some (1 + k)) none = ([a, b, c].take (1 + k).toNat).toArray := by
    have hk : k = 0 ∨ k = 1 ∨ k = 2 := by omega
    rcases hk with rfl | rfl | rfl <;> rfl
  rw [e] at N'
  obtain ⟨ts, hP, hg⟩ := parts_pair (vs := [a, b, c].take (1 + k).toNat) fun v hv => hall v (List.mem_of_mem_take hv)
  exact h D _ ts h' hP hg (by rw [List.length_take]; simp only [List.length_cons, List.length_nil]; omega) (by rw [List.length_take]; simp only [List.length_cons, List.length_nil]; omega) F' N' l1
theorem slice_second {W W' : Kn} {n : Nat} {vs : List Value} {ts : List T} {q1 q2 : Value} (F : Fr h₀ L s.heap m) (N : News h₀ L s.heap news) (hl : s.heap.IsList l (vs ++ [q1, q2]).toArray) (pl : IsPart vl none) (pu : IsPart vu (some 3)) (hP : Paired (PartIn W) vs ts) (hg : ∀ t ∈ ts, Good n t) (h1 : 1 ≤ vs.length) (h3 : vs.length ≤ 3) (hW : ∀ a o, W a o → W' a o) (hq1 : PartG W' 0 q1) (hq2 : PartG W' 0 q2)
    (h : ∀ D p1 p2 p3 a1 a2 a3 w1 w2 w3 t1 t2 t3 h', Paired (FullK W') [Value.ref p1, .ref p2, .ref p3] [(Value.ref a1, w1), (Value.ref a2, w2), (Value.ref a3, w3)] → TreeIn W' (.ref a1) t1 → TreeIn W' (.ref a2) t2 → TreeIn W' (.ref a3) t3 →
      WordsIn W' ([(Value.ref a1, w1), (Value.ref a2, w2), (Value.ref a3, w3)].map (·.2)).flatten (wordsL [t1, t2, t3]) → Good n t1 → Good n t2 → Good n t3 → Fr h₀ L h' m → News h₀ L h' ((D, _root_.PySem.W.listOf (List.toArray [Value.ref p1, .ref p2, .ref p3]) 0) :: news) → (∀ p ∈ news, p.1 < D) → Q (.ref D) { s with heap := h' })
    (hs : subscripted slice false (.ref l) (.ref s.heap.objs.size) = operate [.ref s.heap.objs.size, .ref l] (getItem (.ref l) (.ref s.heap.objs.size))) (ht : ∀ r, letTemporaryGo value (.ref l) r = pure ()) :
    wpAny (model prog w) A (subscriptTail value slice (.ref l) (.ref s.heap.objs.size)) Q E { s with heap := s.heap.push { cls := .type "slice", data := .fields #[vl, vu, .none] } } := by
  refine kmk_slice F N hl pl pu (fun D h' F' N' l1 => ?_) hs ht (by rw [sizeLine_eq, List.size_toArray, List.length_append]; simp only [List.length_cons, List.length_nil]; omega)
  have e : slicePick (vs ++ [q1, q2]).toArray none (some 3) none = ((vs ++ [q1, q2]).take 3).toArray := by
    rw [kms_pick_eq]
    have hlen : 3 ≤ (vs ++ [q1, q2]).length := by rw [List.length_append]; simp only [List.length_cons, List.length_nil]; omega
    have : kms_pick (vs ++ [q1, q2]).toArray.toList none (some 3) = (vs ++ [q1, q2]).take 3 := by
      show ((vs ++ [q1, q2]).drop (kms_lo none (vs ++ [q1, q2]).length)).take (kms_hi (some 3) (vs ++ [q1, q2]).length - kms_lo none (vs ++ [q1, q2]).length) = _
      have a1 : kms_lo none (vs ++ [q1, q2]).length = 0 := rfl
      have a2 : kms_hi (some 3) (vs ++ [q1, q2]).length = 3 := Nat.min_eq_left hlen
      rw [a1, a2]; rfl
    rw [this]
  rw [e] at N'
  obtain ⟨p1, p2, p3, a1, a2, a3, w1, w2, w3, t1, t2, t3, e3, hF, r1, r2, r3, hWd, g1, g2, g3⟩ := pick3 (hP.mono fun _ _ x => x.mono hW) hg h1 h3 (hq1.up (Nat.zero_le _)) (hq2.up (Nat.zero_le _))
  rw [e3] at N'
  exact h D p1 p2 p3 a1 a2 a3 w1 w2 w3 t1 t2 t3 h' hF r1 r2 r3 hWd g1 g2 g3 F' N' l1
end
end
section
section
variable {W : Kn} {n : Nat} {D l x a1 a2 a3 : Addr} {n0 n1 : Nat} {qs : List (Value × List Value)} {ws : List Value} {t1 t2 t3 : T}
theorem part3 {c : Cl} (hx : NodeIn W x c .plain [.ref a1, .ref a2, .ref a3]) (r1 : TreeIn W (.ref a1) t1) (r2 : TreeIn W (.ref a2) t2) (r3 : TreeIn W (.ref a3) t3) (hW : WordsIn W ws (wordsL [t1, t2, t3])) (g1 : Good n t1) (g2 : Good n t2) (g3 : Good n t3) (hD : W D (tupO [.ref x, .ref l, .none] n0)) (hl : W l (_root_.PySem.W.listOf ws.toArray n1)) : PartG W (n + 1) (.ref D) :=
  ⟨.mk x .plain [t1, t2, t3], .mk hD (.mk hx (.cons r1 (.cons r2 (.cons r3 .nil)))) hl (by simpa only [wordsT] using hW) (by simp only [colT]; exact .none), good_plain (by intro t ht; simp only [List.mem_cons, List.not_mem_nil, or_false] at ht; rcases ht with rfl | rfl | rfl <;> assumption) (by simp)⟩
theorem part_bin {y : Addr} (hx : NodeIn W x .bin .plain [.ref a1, .ref y]) (hy : NodeIn W y .bin .plain [.ref a2, .ref a3]) (r1 : TreeIn W (.ref a1) t1) (r2 : TreeIn W (.ref a2) t2) (r3 : TreeIn W (.ref a3) t3) (hW : WordsIn W ws (wordsL [t1, t2, t3])) (g1 : Good n t1) (g2 : Good n t2) (g3 : Good n t3) (hD : W D (tupO [.ref x, .ref l, .none] n0)) (hl : W l (_root_.PySem.W.listOf ws.toArray n1)) : PartG W (n + 1) (.ref D) := by
  have hg : ∀ t ∈ [t1, t2, t3], Good n t := by intro t ht; simp only [List.mem_cons, List.not_mem_nil, or_false] at ht; rcases ht with rfl | rfl | rfl <;> assumption
  have hd := good_depth hg
  have hw := four_step (good_words hg) (by simp)
  have he := good_expl hg
  simp only [depthL, Nat.max_le] at hd
  refine ⟨.mk x .plain [t1, .mk y .plain [t2, t3]], .mk hD (.mk hx (.cons r1 (.cons (.mk hy (.cons r2 (.cons r3 .nil))) .nil))) hl ?_ (by simp only [colT]; exact .none), ⟨?_, ?_, ?_, ?_⟩⟩
  · have e : wordsT (.mk x .plain [t1, .mk y .plain [t2, t3]]) = wordsL [t1, t2, t3] := by simp only [wordsT, wordsL, List.append_nil]
    rw [e]; exact hW
  · simp only [depthT, depthL]
    omega
  · simp only [wordsT, wordsL, List.append_nil, List.length_append, List.length_nil] at hw ⊢
    omega
  · intro w e
    refine he w ?_
    simpa only [explT, explL, Option.or_none] using e
  · intro w e; simp [colT] at e
theorem good_one {k : Kd} {t : T} (hk : k = .plain ∨ k = .pass ∨ k = .insel) (g : Good n t) : Good (n + 1) (.mk x k [t]) := by
  have hw := four_step (k := 1) (w := (wordsT t).length) (n := n) (by have := g.words; omega) (by decide)
  have hd := g.depth
  refine ⟨by simp only [depthT, depthL]; omega, ?_, ?_, ?_⟩
  · rcases hk with rfl | rfl | rfl <;> simp only [wordsT, wordsL, List.length_append, List.length_cons, List.length_nil] <;> omega
  · intro w e
    refine g.expl w ?_
    rcases hk with rfl | rfl | rfl <;> simpa only [explT, explL, Option.or_none] using e
  · intro w e
    rcases hk with rfl | rfl | rfl
    · simp [colT] at e
    · exact g.col w (by simpa only [colT] using e)
    · simp [colT] at e
variable {p : Addr} {n2 : Nat} {tk : Tok} {cv : Value}
theorem part_pass {c : Cl} (hx : NodeIn W x c .pass [.ref a1]) (r1 : TreeIn W (.ref a1) t1) (hW : WordsIn W ws (wordsT t1)) (hc : ColIs cv (colT t1)) (g1 : Good n t1) (hD : W D (tupO [.ref x, .ref l, cv] n0)) (hl : W l (_root_.PySem.W.listOf ws.toArray n1)) : PartG W (n + 1) (.ref D) :=
  ⟨.mk x .pass [t1], .mk hD (.mk hx (.cons r1 .nil)) hl (by simpa only [wordsT, wordsL, List.append_nil] using hW) (by simpa only [colT] using hc), good_one (.inr (.inl rfl)) g1⟩
theorem part_plain1 {c : Cl} (hx : NodeIn W x c .plain [.ref a1]) (r1 : TreeIn W (.ref a1) t1) (hW : WordsIn W ws (wordsT t1)) (g1 : Good n t1) (hD : W D (tupO [.ref x, .ref l, .none] n0)) (hl : W l (_root_.PySem.W.listOf ws.toArray n1)) : PartG W (n + 1) (.ref D) :=
  ⟨.mk x .plain [t1], .mk hD (.mk hx (.cons r1 .nil)) hl (by simpa only [wordsT, wordsL, List.append_nil] using hW) (by simp only [colT]; exact .none), good_one (.inl rfl) g1⟩
theorem part_insel {c : Cl} (hx : NodeIn W x c .insel [.ref a1]) (r1 : TreeIn W (.ref a1) t1) (hW : WordsIn W ws (wordsT t1)) (g1 : Good n t1) (hD : W D (tupO [.ref x, .ref l, .none] n0)) (hl : W l (_root_.PySem.W.listOf ([Value.ref p] ++ ws).toArray n1)) (hp : W p (tupO [.str (Str.ofString "select") tk, .none] n2)) : PartG W (n + 1) (.ref D) :=
  ⟨.mk x .insel [t1], .mk hD (.mk hx (.cons r1 .nil)) hl (by simp only [wordsT, wordsL, List.append_nil]; exact .cons (.select hp) hW) (by simp only [colT]; exact .none), good_one (.inr (.inr rfl)) g1⟩
theorem part_coll {c : Str} {tk' : Tok} {lw : Str} (hc : foldS c ∈ colls) (elw : lw = foldS c) (hx : NodeIn W x .coll (.coll (foldS c)) [.ref a1]) (r1 : TreeIn W (.ref a1) t1) (hW : WordsIn W ws (wordsT t1)) (g1 : Good n t1) (hD : W D (tupO [.ref x, .ref l, .none] n0)) (hl : W l (_root_.PySem.W.listOf ([Value.ref p] ++ ws).toArray n1)) (hp : W p (tupO [.str (Str.ofString "collate") tk, .str lw tk'] n2)) : PartG W (n + 1) (.ref D) := by
  subst elw
  have hw := four_step (k := 1) (w := (wordsT t1).length) (n := n) (by have := g1.words; omega) (by decide)
  have hd := g1.depth
  refine ⟨.mk x (.coll (foldS c)) [t1], .mk hD (.mk hx (.cons r1 .nil)) hl (by simp only [wordsT, wordsL, List.append_nil]; exact .cons (.collate hp) hW) (by simp only [colT]; exact .none), ⟨by simp only [depthT, depthL]; omega, by simp only [wordsT, wordsL, List.append_nil, List.length_cons]; omega, ?_, ?_⟩⟩
  · intro w e
    simp only [explT, Option.some.injEq] at e
    exact e ▸ hc
  · intro w e; simp [colT] at e
theorem un_plus {W : Kn} {x d a : Addr} {h1 h2 : Int} {t1 t2 t : Tok} {o : Str} {n : Nat} (e : (o == Str.ofString "+") = true) (hx : W x (instObj 190 d)) (hd : W d (dictOf [⟨h1, .str (Str.ofString "op") t1, .str o t⟩, ⟨h2, .str (Str.ofString "operand") t2, .ref a⟩] n)) : NodeIn W x .un .pass [.ref a] := by
  have H := NodeIn.un hx hd
  rwa [if_pos (by simpa using e)] at H
theorem un_other {W : Kn} {x d a : Addr} {h1 h2 : Int} {t1 t2 t : Tok} {o : Str} {n : Nat} (e : (o == Str.ofString "+") = false) (hx : W x (instObj 190 d)) (hd : W d (dictOf [⟨h1, .str (Str.ofString "op") t1, .str o t⟩, ⟨h2, .str (Str.ofString "operand") t2, .ref a⟩] n)) : NodeIn W x .un .plain [.ref a] := by
  have H := NodeIn.un hx hd
  rwa [if_neg (by simpa using e)] at H
end
end
section
theorem off_self {src : Addr} {L : Led} : ∀ a b, offS src L a b → offS src L a b := fun _ _ x => x
theorem off_cons {src : Addr} {L L' : Led} {p : Addr × Obj} (h : ∀ a b, offS src L a b → offS src L' a b) : ∀ a b, offS src L a b → offS src (p :: L') a b := fun a b x => ⟨.tail _ (h a b x).1, x.2⟩
theorem off_trans {src : Addr} {A B C : Led} (h : ∀ a b, offS src A a b → offS src B a b) (k : ∀ a b, offS src B a b → offS src C a b) : ∀ a b, offS src A a b → offS src C a b := fun a b x => k a b (h a b x)
theorem upd_off {src : Addr} {o : Obj} {news : Led} {g : Obj → Led} (U : UpdF src o news g) (o' : Obj) : ∀ a b, offS src news a b → offS src (g o') a b := fun a b x => by
  obtain ⟨pre, post, e, eg, _, _⟩ := U.split
  refine ⟨?_, x.2⟩
  show (a, b) ∈ g o'
  rw [eg]
  have y : (a, b) ∈ news := x.1
  rw [e] at y
  rcases List.mem_append.mp y with z | z
  · exact List.mem_append.mpr (.inl z)
  · rcases List.mem_cons.mp z with z | z
    · exact absurd (congrArg Prod.fst z) x.2
    · exact List.mem_append.mpr (.inr (.tail _ z))
theorem off_at {src : Addr} {A news : Led} {h₀ h : Heap} {L : Addr} (N : News h₀ L h news) (s : ∀ a b, offS src A a b → offS src news a b) : ∀ a o, offS src A a o → h.get? a = some o := fun a o x => (N _ (s a o x).1).1
theorem led_atX {src : Addr} {tl news : Led} {h₀ h : Heap} {L : Addr} (N : News h₀ L h news) (s : ∀ a b, inLed tl a b → inLed news a b) (hT : ∀ p ∈ tl, p.1 ≠ src) : ∀ a b, inLed tl a b → atX src h a b := fun a b x => ⟨hT (a, b) x, (N _ (s a b x)).1⟩
theorem orK_sub {A B C : Led} (h : ∀ a b, inLed A a b → inLed C a b) (k : ∀ a b, inLed B a b → inLed C a b) : ∀ a b, orK (inLed A) (inLed B) a b → inLed C a b := fun a b x => x.elim (h a b) (k a b)
section
variable {w : World} {f : Addr} {vs : List Value} {d u : Nat} {src : Addr} {o : Obj} {R : Heap → Value → Prop} {mean : ExcName → Option Value} {mg mb : Str → Option Value} {dp un : Nat} {gd : Option (List Code)} {cn : Str} {cs : Scope} {a : Addr} {ccd : Value} {cl : List (Str × Addr)} {outer : List Env} {A₀ : Around} {base h₀ : Heap} {L : Addr}
    {m : Str → Option Value} {news : Led} {g : Obj → Led} {s : Shared} {Q E : Value → Shared → Prop}
theorem ct_drawO (C : Ct w s.heap f vs d u [(src, o)] (DrawR src s.heap R))
    (B : Below A₀ base outer h₀) (F : Fr h₀ L s.heap m) (X : (KK w).In h₀) (N : News h₀ L s.heap news) (U : UpdF src o news g) (T : Top _root_.Mine.top.view_1_40 Lo mean mg mb h₀) (hk : cs.kind = .function) (hd : dp + d < recursionLimit) (hu : un + u < cLine)
    (h : ∀ r h' tk' o', R h' r → SrcOk o' → StayX src s.heap h' → Fr h₀ L h' m → News h₀ L h' (g o') → (∀ a b, offS src news a b → offS src (g o') a b) → Q r { s with heap := h', toks := tk' }) :
    wpAny (MM w) (ktrTop dp un gd cn cs L a ccd cl outer) (call (.ref f) vs) Q E s :=
  ct_draw C B F X N U T hk hd hu fun r h' tk' o' a b c d e => h r h' tk' o' a b c d e (upd_off U o')
end
theorem three_words {W : Kn} {n : Nat} {ws : List Value} {t1 t2 t3 : T} (h : WordsIn W ws (wordsL [t1, t2, t3])) (g1 : Good n t1) (g2 : Good n t2) (g3 : Good n t3) (hn : n ≤ 2) : ws.length ≤ 10000 := by
  have hg : ∀ t ∈ [t1, t2, t3], Good n t := by intro t ht; simp only [List.mem_cons, List.not_mem_nil, or_false] at ht; rcases ht with rfl | rfl | rfl <;> assumption
  have a := good_words hg
  have b := h.len
  have c : 4 ^ (n + 1) ≤ 4 ^ 3 := Nat.pow_le_pow_right (by decide) (by omega)
  simp only [List.length_cons, List.length_nil] at a
  omega
theorem ist_up {H h : Heap} {p : Addr} {its : List Value} {n : Nat} (e : H.get? p = some (tupO its n)) (k : Stay H h) : IsTup h p its.toArray := ⟨_, k _ _ e, rfl, n, rfl⟩
theorem room3 {vs : List Value} {a b : Value} (h : vs.length ≤ 3) : vs.length + [a, b].length ≤ sizeLine := by rw [sizeLine_eq]; simp only [List.length_cons, List.length_nil]; omega
end
section
section
variable {prog : Program} {w : World} {A : Around} {E : Value → Shared → Prop} {s : Shared} {h₀ : Heap} {L l : Addr} {m : Str → Option Value} {news : Led} {value slice : PySem.Expr} {Q : Value → Shared → Prop} {vl vu : Value}
theorem slice_secondO {src : Addr} {tl : Led} {n : Nat} {vs : List Value} {ts : List T} {q1 q2 : Value} (F : Fr h₀ L s.heap m) (N : News h₀ L s.heap news) (hl : s.heap.IsList l (vs ++ [q1, q2]).toArray) (pl : IsPart vl none) (pu : IsPart vu (some 3)) (hP : Paired (PartIn (inLed tl)) vs ts) (hg : ∀ t ∈ ts, Good n t) (h1 : 1 ≤ vs.length) (h3 : vs.length ≤ 3) (hT : ∀ p ∈ tl, p.1 ≠ src) (hS : ∀ a o, inLed tl a o → inLed news a o) (hq1 : PartG (offS src news) 0 q1) (hq2 : PartG (offS src news) 0 q2)
    (h : ∀ D p1 p2 p3 a1 a2 a3 w1 w2 w3 t1 t2 t3 h', Paired (FullK (offS src news)) [Value.ref p1, .ref p2, .ref p3] [(Value.ref a1, w1), (Value.ref a2, w2), (Value.ref a3, w3)] → TreeIn (offS src news) (.ref a1) t1 → TreeIn (offS src news) (.ref a2) t2 → TreeIn (offS src news) (.ref a3) t3 →
      WordsIn (offS src news) ([(Value.ref a1, w1), (Value.ref a2, w2), (Value.ref a3, w3)].map (·.2)).flatten (wordsL [t1, t2, t3]) → Good n t1 → Good n t2 → Good n t3 → Fr h₀ L h' m → News h₀ L h' ((D, _root_.PySem.W.listOf (List.toArray [Value.ref p1, .ref p2, .ref p3]) 0) :: news) → (∀ p ∈ news, p.1 < D) → Q (.ref D) { s with heap := h' })
    (hs : subscripted slice false (.ref l) (.ref s.heap.objs.size) = operate [.ref s.heap.objs.size, .ref l] (getItem (.ref l) (.ref s.heap.objs.size))) (ht : ∀ r, letTemporaryGo value (.ref l) r = pure ()) :
    wpAny (model prog w) A (subscriptTail value slice (.ref l) (.ref s.heap.objs.size)) Q E { s with heap := s.heap.push { cls := .type "slice", data := .fields #[vl, vu, .none] } } :=
  slice_second F N hl pl pu hP hg h1 h3 (in_off hS hT) hq1 hq2 h hs ht
end
end
section
theorem six_of {r a b c d e f : Value} (h : r ∈ [a, b, c, d, e, f]) : r = a ∨ r = b ∨ r = c ∨ r = d ∨ r = e ∨ r = f := by simpa using h
end
section
section
variable {prog : Program} {w : World} {A : Around} {E : Value → Shared → Prop} {s : Shared} {env : Env} {h₀ : Heap} {L : Addr} {m : Str → Option Value} {news : Led} {elt : Expr} {x y : Str} {scope : Scope} {cl : List (Str × Addr)} {Q : Flow → Shared → Prop}
noncomputable def AskA (prog : Program) (w : World) (A : Around) (env : Env) (elt : Expr) (x y : Str) (scope : Scope) (cl : List (Str × Addr)) (Fn : Value → Value → Prop) (vs : List Value) (h₀ : Heap) (Q : Flow → Shared → Prop) (xv : Value) (s : Shared) : Prop :=
  ∃ ax m news, xv = .ref ax ∧ s.heap.IsList ax vs.toArray ∧ vs.length ≤ sizeLine ∧ Fr h₀ env.locals s.heap m ∧ News h₀ env.locals s.heap news ∧
    (∀ C v s₃ m₃ E', v ∈ vs → s₃.heap.Ns C m₃ → m₃ x = some v → Stay s.heap s₃.heap → Fr h₀ env.locals s₃.heap m → News h₀ env.locals s₃.heap news → wpAny (model prog w) A (eval elt (compEnvC scope cl C env)) (EltEnd Fn v s₃) E' s₃) ∧
    (∀ D n h' tk ys, Fr h₀ env.locals h' (fun z => if z = y then some (.ref D) else m z) → News h₀ env.locals h' ((D, _root_.PySem.W.listOf (List.toArray ys) n) :: news) → (∀ p ∈ news, p.1 ≠ D) → Paired Fn vs ys → Q .next { s with heap := h', toks := tk })
theorem assign_list {iter : Expr} {px py pos spos : Pos} (Fn : Value → Value → Prop) {vs : List Value} (hh : A.handled = none)
    (hsw : swapsWith (.ListComp elt [⟨.Name x px, iter, [], 0⟩] scope pos) (some (.Name y py)) spos.line env = pure true)
    (hclos : closureFor scope env = pure cl) (hcell : ∀ z ∈ scope.names, z.2 ≠ .cell) (hkind : scope.kind = .function)
    (hnames : ∀ z ∈ scope.names, z.2 = .local → scope.names.lookup z.1 = some .local) (hx : scope.names.lookup x = some .local)
    (hy : env.kindOf y = some .local) (hp : (env.scope.kind == .class || (env.scope.kind == .module && env.locals != env.globals)) = false)
    (h : wpAny (model prog w) A (eval iter env) (AskA prog w A env elt x y scope cl Fn vs h₀ Q) E s)
    (hs : ∀ x, foldedSetIterable iter env x = pure x := by intro _; rfl) :
    wpAny (model prog w) A (exec (.Assign [.Name y py] (.ListComp elt [⟨.Name x px, iter, [], 0⟩] scope pos) spos) env) Q E s := by
  refine wpAny_Assign_ListComp_free (fun _ => true) Fn hsw hclos hcell hkind hnames hx hy hp (wpAny_mono h (fun xv s₁ h₁ => ?_) fun _ _ e => e) hs
  obtain ⟨ax, m, news, rfl, hl, hz, F, N, elts, fin⟩ := h₁
  obtain ⟨lo, hlo, _⟩ := id hl
  have hne : ax ≠ s₁.heap.objs.size := Nat.ne_of_lt (Heap.lt_size hlo)
  refine wpAny_pyIter_list hl ?_
  have W := Walks.list (prog := prog) (w := w) hh s₁.heap.objs.size ax hne vs.toArray
  have up : Stay s₁.heap (s₁.heap.push { cls := .type "list_iterator", data := .fields #[.ref ax, .int 0 0] }) := fun b o e => Heap.get?_push_of_some _ e
  have ext : ∀ {h' : Heap}, (∀ b o, b ∉ [s₁.heap.objs.size] → (s₁.heap.push { cls := .type "list_iterator", data := .fields #[.ref ax, .int 0 0] }).get? b = some o → h'.get? b = some o) → Stay s₁.heap h' := fun k b o e =>
    k b o (fun hb => by rw [List.mem_singleton.mp hb, get_size] at e; cases e) (up b o e)
  refine ⟨_, _, _, _, _, _, m, rfl, W, by simpa using hz, ⟨⟨_, Heap.get?_push_size _ rfl, rfl, rfl⟩, hl.at fun o e => Heap.get?_push_of_some _ e⟩, ?_, ?_, F.ns.push _, ⟨?_, ?_⟩, ?_⟩
  · intro b hb
    have hb' : b = s₁.heap.objs.size ∨ b = ax := by simpa using hb
    rw [Heap.size_push]
    rcases hb' with e | e
    · rw [e]; exact Nat.lt_succ_self _
    · rw [e]; exact Nat.lt_succ_of_lt (Heap.lt_size hlo)
  · intro hm
    exact Nat.lt_irrefl _ ((List.mem_singleton.mp hm) ▸ F.ns.lt)
  · intro C i v s₃ m₃ E' _ hP hns hv hk _
    exact test_nil
  · intro C i v s₃ m₃ E' _ hP _ hns hv hk _
    have hP' : vs.toArray[i]? = some v := hP
    have st := ext hk
    exact elts C v s₃ m₃ E' (List.mem_of_getElem? (by simpa using hP')) hns hv st (F.keeps st) (N.grown st)
  · intro D h' tk ys us hD hil hpl hlen hP hF hns' hk
    have eu : us = vs := by
      refine List.ext_getElem? fun j => ?_
      by_cases hj : j < us.length
      · have h1 : us[j]? = some us[j] := List.getElem?_eq_getElem hj
        have h2 : vs.toArray[j]? = some us[j] := hP j _ h1
        rw [h1]
        simpa using h2.symm
      · have hj2 : vs.length ≤ j := by
          have : us.length = vs.length := by rw [hlen]; simp
          omega
        rw [List.getElem?_eq_none (by omega), List.getElem?_eq_none hj2]
    subst eu
    have st : ∀ b o, b ≠ env.locals → s₁.heap.get? b = some o → h'.get? b = some o := fun b o hb e =>
      hk b o hb (fun hm => by rw [List.mem_singleton.mp hm, get_size] at e; cases e) (up b o e)
    have hD' : s₁.heap.get? D = none := by
      cases q : s₁.heap.get? D with
      | none => rfl
      | some o => have z := up D o q; dsimp only at hD; rw [z] at hD; cases hD
    obtain ⟨n, e⟩ := hpl
    have hDL : D ≠ env.locals := fun e' => by
      obtain ⟨o, _, _, ho, _⟩ := F.ns
      rw [e', ho] at hD'; cases hD'
    refine fin D n h' tk ys.toList ⟨hns', fun b o q => st b o (Nat.ne_of_lt (Nat.lt_of_lt_of_le (Heap.lt_size q) F.above)) (F.keep b o q), F.above⟩ (fun p hp => ?_) (fun p hp e' => ?_) ((congrArg (fun l => Paired Fn l ys.toList) (List.filter_eq_self.mpr fun _ _ => rfl)).mp hF)
    · rcases List.mem_cons.mp hp with rfl | hp
      · refine ⟨by simpa using e, hDL, ?_⟩
        cases q : h₀.get? D with
        | none => rfl
        | some o => rw [F.keep _ _ q] at hD'; cases hD'
      · exact ⟨st _ _ (N p hp).2.1 (N p hp).1, (N p hp).2⟩
    · have := (N p hp).1
      rw [e', hD'] at this; cases this
theorem assign_fst {H : Heap} {vs : List Value} {qs : List (Value × List Value)} {iter : Expr} {px py pos spos : Pos} (hq : Paired (PartFull H) vs qs) (F : Fr h₀ env.locals H m) (hh : A.handled = none)
    (hsw : swapsWith (.ListComp elt [⟨.Name x px, iter, [], 0⟩] scope pos) (some (.Name y py)) spos.line env = pure true)
    (hclos : closureFor scope env = pure cl) (hcell : ∀ z ∈ scope.names, z.2 ≠ .cell) (hkind : scope.kind = .function)
    (hnames : ∀ z ∈ scope.names, z.2 = .local → scope.names.lookup z.1 = some .local) (hx : scope.names.lookup x = some .local)
    (hy : env.kindOf y = some .local) (hp : (env.scope.kind == .class || (env.scope.kind == .module && env.locals != env.globals)) = false)
    (h : wpAny (model prog w) A (eval iter env) (AskA prog w A env elt x y scope cl (FstOf H) vs h₀ Q) E s)
    (hs : ∀ x, foldedSetIterable iter env x = pure x := by intro _; rfl) :
    wpAny (model prog w) A (exec (.Assign [.Name y py] (.ListComp elt [⟨.Name x px, iter, [], 0⟩] scope pos) spos) env) Q E s :=
  assign_list _ hh hsw hclos hcell hkind hnames hx hy hp h hs
theorem askA_intro {Fn : Value → Value → Prop} {vs : List Value} {ax : Addr} (hLe : env.locals = L) (hl : s.heap.IsList ax vs.toArray) (hz : vs.length ≤ sizeLine) (F : Fr h₀ L s.heap m) (N : News h₀ L s.heap news)
    (elts : ∀ C v s₃ m₃ E', v ∈ vs → s₃.heap.Ns C m₃ → m₃ x = some v → Stay s.heap s₃.heap → Fr h₀ L s₃.heap m → News h₀ L s₃.heap news → wpAny (model prog w) A (eval elt (compEnvC scope cl C env)) (EltEnd Fn v s₃) E' s₃)
    (fin : ∀ D n h' tk ys, Fr h₀ L h' (fun z => if z = y then some (.ref D) else m z) → News h₀ L h' ((D, _root_.PySem.W.listOf (List.toArray ys) n) :: news) → (∀ p ∈ news, p.1 ≠ D) → Paired Fn vs ys → Q .next { s with heap := h', toks := tk }) :
    AskA prog w A env elt x y scope cl Fn vs h₀ Q (.ref ax) s := by
  subst hLe
  exact ⟨ax, m, news, rfl, hl, hz, F, N, elts, fin⟩
end
end
section
noncomputable def MadeEnd (src : Addr) (n : Nat) (s₃ : Shared) (y : Value) (s₄ : Shared) : Prop := ∃ h' tk, s₄ = { s₃ with heap := h', toks := tk } ∧ MakeR src s₃.heap (fun tl r => PartG (inLed tl) n r) h' y
theorem off1_mem {D : Addr} : ∀ {l : Led}, LCg.Off1 D l → ∀ p ∈ l, p.1 ≠ D
  | [], _, _, h => nomatch h
  | _ :: _, x, p, h => by
    rcases List.mem_cons.mp h with rfl | h
    · exact x.1
    · exact off1_mem x.2 p h
section
variable {prog : Program} {w : World} {A : Around} {E : Value → Shared → Prop} {s : Shared} {env : Env} {h₀ : Heap} {L : Addr} {m : Str → Option Value} {elt : Expr} {x y : Str} {scope : Scope} {cl : List (Str × Addr)} {Q : Flow → Shared → Prop} {src : Addr} {n : Nat} {pre : Led}
theorem rest_draw {S : Led → Prop} (hS : ∀ l, S l) {P : Nat → Value → Prop} {Fin : List Value → Led → Prop} (hpre : ∀ p ∈ pre, p.1 ≠ src)
    (elts : ∀ C s₃ m₃ E' o' tl', SrcOk o' → s₃.heap.Ns C m₃ → Fr h₀ L s₃.heap m → News h₀ L s₃.heap (pre ++ (src, o') :: tl') → wpAny (model prog w) A (eval elt (compEnvC scope cl C env)) (MadeEnd src n s₃) E' s₃) (K : Nat)
    (fin : ∀ (ys : List Value) o' tl', ys.length = K → (∀ v ∈ ys, PartG (inLed tl') n v) → SrcOk o' → (∀ p ∈ tl', p.1 ≠ src) → Fin ys (pre ++ (src, o') :: tl')) :
    ∀ (k i : Nat) (ys : List Value) (o : Obj) (tl : Led), ys.length + k = K → (∀ v ∈ ys, PartG (inLed tl) n v) → SrcOk o → (∀ p ∈ tl, p.1 ≠ src) → LCg.CompRest prog w A h₀ L m env elt x scope cl s S P Fin k i ys (pre ++ (src, o) :: tl)
  | 0, i, ys, o, tl, hK, hys, ho, hT => LCg.CompRest.zero (fin ys o tl hK hys ho hT)
  | k + 1, i, ys, o, tl, hK, hys, ho, hT => by
    refine LCg.CompRest.succ fun v I oI C oC D m₂ h tk E' hP hoC hm₂ F N off ne => ?_
    have off3 := off.mem
    have hN : ∀ p, p ∈ pre ++ (src, o) :: tl → p ∈ (I, oI) :: (C, oC) :: (D, LCg.lst ys) :: (pre ++ (src, o) :: tl) := fun p hp => .tail _ (.tail _ (.tail _ hp))
    have hs := N _ (hN (src, o) (by simp))
    have hsO := off3 (src, o) (by simp)
    have zI := N (I, oI) (.head _)
    have zC := N (C, oC) (.tail _ (.head _))
    have zD := N (D, LCg.lst ys) (.tail _ (.tail _ (.head _)))
    refine wpAny_mono (elts C { s with heap := h, toks := tk } m₂ E' o tl ho (hoC.ns zC.1) F (fun p hp => N p (hN p hp))) (fun y' s₄ h₄ => ?_) fun _ _ e => e
    obtain ⟨h', tk', rfl, st, ⟨o', ho', hok⟩, tl₁, hf, hPG⟩ := h₄
    dsimp only at st hf
    have NF := fresh_ledger F hf
    have hfn : ∀ p ∈ tl₁, ∀ b ob, h.get? b = some ob → p.1 ≠ b := fun p hp b ob e q => by
      have := (hf p hp).2
      rw [q, e] at this; cases this
    have F' : Fr h₀ L h' m := by
      refine ⟨?_, fun b x q => st b x (fun z => ?_) (F.keep b x q), F.above⟩
      · obtain ⟨oL, es, ep, hL, r⟩ := F.ns
        exact ⟨oL, es, ep, st _ _ (Ne.symm hs.2.1) hL, r⟩
      · have := hs.2.2; rw [← z, q] at this; cases this
    refine LCg.CompEnd.intro (all := (I, oI) :: (C, oC) :: (D, LCg.lst ys) :: (pre ++ (src, o') :: (tl ++ tl₁))) F' ?_ (pre ++ (src, o') :: (tl ++ tl₁)) (fun p hp => hp) (LCg.Off3.of ?_) (hS _) ?_
    · intro p hp
      rcases List.mem_cons.mp hp with rfl | hp
      · exact ⟨st _ _ (Ne.symm hsO.1) zI.1, zI.2⟩
      rcases List.mem_cons.mp hp with rfl | hp
      · exact ⟨st _ _ (Ne.symm hsO.2.1) zC.1, zC.2⟩
      rcases List.mem_cons.mp hp with rfl | hp
      · exact ⟨st _ _ (Ne.symm hsO.2.2) zD.1, zD.2⟩
      rcases List.mem_append.mp hp with q | q
      · have P := N p (hN p (List.mem_append_left _ q)); exact ⟨st _ _ (hpre p q) P.1, P.2⟩
      rcases List.mem_cons.mp q with rfl | q
      · exact ⟨ho', hs.2⟩
      rcases List.mem_append.mp q with q | q
      · have P := N p (hN p (List.mem_append_right _ (.tail _ q))); exact ⟨st _ _ (hT p q) P.1, P.2⟩
      · exact NF p q
    · intro p hp
      rcases List.mem_append.mp hp with q | q
      · exact off3 p (List.mem_append_left _ q)
      rcases List.mem_cons.mp q with rfl | q
      · exact hsO
      rcases List.mem_append.mp q with q | q
      · exact off3 p (List.mem_append_right _ (.tail _ q))
      · exact ⟨hfn p q _ _ zI.1, hfn p q _ _ zC.1, hfn p q _ _ zD.1⟩
    · refine rest_draw hS hpre elts K fin k (i + 1) (ys ++ [y']) o' (tl ++ tl₁) (by rw [List.length_append, List.length_singleton]; omega) (fun v hv => ?_) hok (fun p hp => ?_)
      · rcases List.mem_append.mp hv with hv | hv
        · exact (hys v hv).mono fun a b q => List.mem_append.mpr (.inl q)
        · rw [List.mem_singleton.mp hv]
          exact hPG.mono fun a b q => List.mem_append.mpr (.inr q)
      · rcases List.mem_append.mp hp with q | q
        · exact hT p q
        · exact hfn p q _ _ hs.1
noncomputable def AskD (prog : Program) (w : World) (A : Around) (env : Env) (elt : Expr) (y : Str) (scope : Scope) (cl : List (Str × Addr)) (src : Addr) (n : Nat) (h₀ : Heap) (L : Addr) (m : Str → Option Value) (Q : Flow → Shared → Prop) (xv : Value) (s : Shared) : Prop :=
  ∃ r t u v pre o tl, xv = .ref r ∧ IsRange s.heap r 0 3 1 t u v ∧ Fr h₀ L s.heap m ∧ News h₀ L s.heap (pre ++ (src, o) :: tl) ∧ SrcOk o ∧ (∀ p ∈ pre, p.1 ≠ src) ∧ (∀ p ∈ tl, p.1 ≠ src) ∧
    (∀ C s₃ m₃ E' o' tl', SrcOk o' → s₃.heap.Ns C m₃ → Fr h₀ L s₃.heap m → News h₀ L s₃.heap (pre ++ (src, o') :: tl') → wpAny (model prog w) A (eval elt (compEnvC scope cl C env)) (MadeEnd src n s₃) E' s₃) ∧
    (∀ D h' tk (ys : List Value) o' tl', ys.length = 3 → (∀ v ∈ ys, PartG (inLed tl') n v) → SrcOk o' → (∀ p ∈ tl', p.1 ≠ src) → Fr h₀ L h' (fun z => if z = y then some (.ref D) else m z) → News h₀ L h' ((D, _root_.PySem.W.listOf ys.toArray ys.length) :: (pre ++ (src, o') :: tl')) → (∀ p ∈ pre ++ (src, o') :: tl', p.1 ≠ D) → Q .next { s with heap := h', toks := tk })
theorem askD_intro {r : Addr} {o : Obj} {t u v : Tok} {tl : Led} (hr : IsRange s.heap r 0 3 1 t u v) (F : Fr h₀ L s.heap m) (N : News h₀ L s.heap (pre ++ (src, o) :: tl)) (ho : SrcOk o) (hpre : ∀ p ∈ pre, p.1 ≠ src) (hT : ∀ p ∈ tl, p.1 ≠ src)
    (elts : ∀ C s₃ m₃ E' o' tl', SrcOk o' → s₃.heap.Ns C m₃ → Fr h₀ L s₃.heap m → News h₀ L s₃.heap (pre ++ (src, o') :: tl') → wpAny (model prog w) A (eval elt (compEnvC scope cl C env)) (MadeEnd src n s₃) E' s₃)
    (fin : ∀ D h' tk (ys : List Value) o' tl', ys.length = 3 → (∀ v ∈ ys, PartG (inLed tl') n v) → SrcOk o' → (∀ p ∈ tl', p.1 ≠ src) → Fr h₀ L h' (fun z => if z = y then some (.ref D) else m z) → News h₀ L h' ((D, _root_.PySem.W.listOf ys.toArray ys.length) :: (pre ++ (src, o') :: tl')) → (∀ p ∈ pre ++ (src, o') :: tl', p.1 ≠ D) → Q .next { s with heap := h', toks := tk }) :
    AskD prog w A env elt y scope cl src n h₀ L m Q (.ref r) s := ⟨r, t, u, v, pre, o, tl, rfl, hr, F, N, ho, hpre, hT, elts, fin⟩
theorem assign_draw (src : Addr) (n : Nat) {iter : Expr} {px py pos spos : Pos} (F₀ : Fr h₀ L s.heap m) (hLe : env.locals = L) (hh : A.handled = none)
    (hsw : swapsWith (.ListComp elt [⟨.Name x px, iter, [], 0⟩] scope pos) (some (.Name y py)) spos.line env = pure true)
    (hclos : closureFor scope env = pure cl) (hcell : ∀ z ∈ scope.names, z.2 ≠ .cell) (hkind : scope.kind = .function)
    (hnames : ∀ z ∈ scope.names, z.2 = .local → scope.names.lookup z.1 = some .local) (hx : scope.names.lookup x = some .local)
    (hy : env.kindOf y = some .local) (hp : (env.scope.kind == .class || (env.scope.kind == .module && env.locals != env.globals)) = false)
    (h : wpAny (model prog w) A (eval iter env) (AskD prog w A env elt y scope cl src n h₀ L m Q) E s)
    (hs : ∀ x, foldedSetIterable iter env x = pure x := by intro _; rfl) :
    wpAny (model prog w) A (exec (.Assign [.Name y py] (.ListComp elt [⟨.Name x px, iter, [], 0⟩] scope pos) spos) env) Q E s := by
  refine LCg.Assign_ListComp_U F₀ hLe hsw hclos hcell hkind hnames hx hy hp (wpAny_mono h (fun xv s₁ h₁ => ?_) fun _ _ e => e) hs
  obtain ⟨r, t, u, v, pre, o, tl, rfl, hr, F, N, ho, hpre, hT, elts, fin⟩ := h₁
  refine LCg.CompSrc.range (n := 3) hh F N hr rfl rfl (by rw [sizeLine_eq]; exact Nat.le_of_ble_eq_true rfl) fun g => ?_
  refine rest_draw (fun _ => trivial) hpre elts 3 (fun ys o' tl' hl hys hok hT' => ?_) 3 0 [] o tl rfl (fun v hv => nomatch hv) ho hT
  intro D h' tk F' N' o1
  exact fin D h' tk ys o' tl' hl hys hok hT' F' N' (off1_mem o1)
end
end
section
theorem colls_truthy {c : Str} {t : Tok} {prog : Program} {w : World} {A : Around} {E : Value → Shared → Prop} {s : Shared} {Q : Bool → Shared → Prop} (hc : c ∈ colls) (h : ∀ tk, Q true { s with toks := tk }) : wpAny (model prog w) A (truthy (.str c t)) Q E s := by
  have e : ((c.length : Int) != 0) = true ∧ (c.length : Int) < 9223372036854775808 := by
    have : ∀ c ∈ colls, ((c.length : Int) != 0) = true ∧ (c.length : Int) < 9223372036854775808 := by decide +kernel
    exact this c hc
  refine SBL.truthy e.2 ?_
  rw [e.1]
  exact h _
theorem some_in {o : Option Str} {c : Str} (he : ∀ c, o = some c → c ∈ colls) (e : o = some c) : c ∈ colls := he c e
theorem first_1 {a b : Option Str} {c : Str} (h : a = some c) : (a.or b).getD (Str.ofString "binary") = c := by rw [h]; rfl
theorem first_2 {a b : Option Str} {c : Str} (h : a = none) (h2 : b = some c) : (a.or b).getD (Str.ofString "binary") = c := by rw [h, h2]; rfl
theorem first_3 {a b : Option Str} (h : a = none) (h2 : b = none) : (a.or b).getD (Str.ofString "binary") = Str.ofString "binary" := by rw [h, h2]; rfl
end
section
section
variable {prog : Program} {w : World} {A : Around} {E : Value → Shared → Prop} {s : Shared} {env : Env} {h₀ : Heap} {target : Expr} {body : List Stmt} {Q : Flow → Shared → Prop}
theorem for_treesB (x y : Str) (P : List T → Prop) {L l : Addr} {vs : List Value} {ts : List T} {m₀ : Str → Option Value} {news : Led} (hLe : env.locals = L) (hh : A.handled = none) (F : Fr h₀ L s.heap m₀) (N : News h₀ L s.heap news) (hl : s.heap.IsList l vs.toArray) (hL : l ≠ L) (Ts : TreesIn (atH h₀) vs ts) (p0 : P [])
    (turn : ∀ I v t us h tk own (u : Str → Option Value), TreeIn (atH h₀) v t → depthT t ≤ depthL ts → (∃ rest, ts = us ++ t :: rest) → P us → (∀ p ∈ news, p.1 ≠ I) → Fr h₀ L h (fun z => if z = x then u z else if z = y then u z else m₀ z) → News h₀ L h (news ++ own) →
      wpAny (model prog w) A (assign target env v) (fun _ s₂ => wpAny (model prog w) A (execs body env) (TurnEnd h₀ L I own (fun m nw => nw = news ∧ P (us ++ [t]) ∧ ∀ z, z ≠ x → z ≠ y → m z = m₀ z) { s with heap := h, toks := tk } Q) E s₂) E { s with heap := h, toks := tk })
    (done : ∀ h tk (u : Str → Option Value), P ts → Fr h₀ L h (fun z => if z = x then u z else if z = y then u z else m₀ z) → News h₀ L h news → Q .next { s with heap := h, toks := tk }) :
    wpAny (model prog w) A (pyIter (.ref l)) (fun it s₂ => TurnsAt prog w A h₀ env target body Q E it s₂) E s := by
  refine for_items hLe hh F N hl hL (fun i m nw => nw = news ∧ P (ts.take i) ∧ ∀ z, z ≠ x → z ≠ y → m z = m₀ z) ⟨rfl, by simpa using p0, fun _ _ _ => rfl⟩ ?_ ?_
  · rintro I i v m₁ nw h tk own hv ⟨rfl, hp, hm₁⟩ hI _ ho F' N'
    obtain ⟨t, ht, hT⟩ := Ts.at hv
    rw [forget2 hm₁] at F'
    have e : ts.take (i + 1) = ts.take i ++ [t] := by rw [List.take_add_one, ht]; rfl
    have := turn I v t (ts.take i) h tk own m₁ hT (depth_mem (List.mem_of_getElem? ht)) ⟨ts.drop (i + 1), ?_⟩ hp hI F' N'
    · rw [e]; exact this
    · obtain ⟨hi, hg⟩ := List.getElem?_eq_some_iff.mp ht
      rw [← hg, ← List.drop_eq_getElem_cons hi, List.take_append_drop]
  · rintro m' nw h tk ⟨rfl, hp, hm₁⟩ F' N'
    rw [forget2 hm₁] at F'
    rw [← Ts.len, List.take_length] at hp
    exact done h tk m' hp F' N'
end
noncomputable def oneT (t : T) : Option Str := (explT t).or (colT t)
noncomputable def callS (ts : List T) : Str := (ts.findSome? oneT).getD (Str.ofString "binary")
theorem call_next {us : List T} {t : T} (hu : ∀ u ∈ us, oneT u = none) (h1 : explT t = none) (h2 : colT t = none) : ∀ u ∈ us ++ [t], oneT u = none := by
  intro u hm
  rcases List.mem_append.mp hm with h | h
  · exact hu u h
  · rw [List.mem_singleton.mp h, oneT, h1, h2]; rfl
theorem call_none {ts : List T} (hu : ∀ u ∈ ts, oneT u = none) : callS ts = Str.ofString "binary" := by
  rw [callS, List.findSome?_eq_none_iff.mpr hu]; rfl
theorem call_found {us ts : List T} {t : T} {c : Str} (hr : ∃ rest, ts = us ++ t :: rest) (hu : ∀ u ∈ us, oneT u = none) (h : oneT t = some c) : callS ts = c := by
  obtain ⟨rest, rfl⟩ := hr
  rw [callS, List.findSome?_append, List.findSome?_eq_none_iff.mpr hu, List.findSome?_cons, h]; rfl
theorem one_1 {t : T} {c : Str} (h : explT t = some c) : oneT t = some c := by rw [oneT, h]; rfl
theorem one_2 {t : T} {c : Str} (h : explT t = none) (h2 : colT t = some c) : oneT t = some c := by rw [oneT, h, h2]; rfl
theorem mem_of_cut {us ts : List T} {t : T} (hr : ∃ rest, ts = us ++ t :: rest) : t ∈ ts := by
  obtain ⟨rest, rfl⟩ := hr
  simp
end
section
noncomputable def FoldF (v y : Value) : Prop := ∀ c u, v = .str ⟨#[c]⟩ u → ∃ t', y = .str ⟨#[foldC c]⟩ t'
theorem cps_A : (Str.ofString "A").cps.toList = [65] := by decide +kernel
theorem cps_Z : (Str.ofString "Z").cps.toList = [90] := by decide +kernel
theorem lt_A {c : Nat} : (⟨#[c]⟩ : Str).cps.toList < (Str.ofString "A").cps.toList ↔ c < 65 := by
  rw [cps_A]; simp [List.cons_lt_cons_iff]
theorem lt_Z {c : Nat} : (Str.ofString "Z").cps.toList < (⟨#[c]⟩ : Str).cps.toList ↔ 90 < c := by
  rw [cps_Z]; simp [List.cons_lt_cons_iff]
theorem keeps_self (s : Shared) (k : Nat) : Keeps s { s with heap := s.heap, toks := k } := ⟨s.heap, k, rfl, fun _ _ e => e⟩
theorem fold_low {c : Nat} {u : Tok} {s s' : Shared} (h : (⟨#[c]⟩ : Str).cps.toList < (Str.ofString "A").cps.toList) (k : Keeps s s') : EltEnd FoldF (.str ⟨#[c]⟩ u) s (.str ⟨#[c]⟩ u) s' := ⟨fun c' u' e => by
  cases e
  have := lt_A.mp h
  exact ⟨u, by rw [foldC, if_neg (by omega)]⟩, k⟩
theorem fold_high {c : Nat} {u : Tok} {s s' : Shared} (h : (Str.ofString "Z").cps.toList < (⟨#[c]⟩ : Str).cps.toList) (k : Keeps s s') : EltEnd FoldF (.str ⟨#[c]⟩ u) s (.str ⟨#[c]⟩ u) s' := ⟨fun c' u' e => by
  cases e
  have := lt_Z.mp h
  exact ⟨u, by rw [foldC, if_neg (by omega)]⟩, k⟩
theorem fold_mid {c : Nat} {u u' : Tok} {s s' : Shared} (h1 : ¬ (⟨#[c]⟩ : Str).cps.toList < (Str.ofString "A").cps.toList) (h2 : ¬ (Str.ofString "Z").cps.toList < (⟨#[c]⟩ : Str).cps.toList) (k : Keeps s s') :
    EltEnd FoldF (.str ⟨#[c]⟩ u) s (.str ⟨#[((c : Int) + 32).toNat]⟩ u') s' := ⟨fun c' u'' e => by
  cases e
  have a : ¬ c < 65 := fun q => h1 (lt_A.mpr q)
  have b : ¬ 90 < c := fun q => h2 (lt_Z.mpr q)
  exact ⟨u', by rw [foldC, if_pos (by omega), show ((c : Int) + 32).toNat = c + 32 by omega]⟩, k⟩
theorem fold_strs {x : Str} {us ys : List Value} (k : Nat) (hp : Paired FoldF us ys) (hl : us.length + k = x.cps.size) (hs : ∀ j v, us[j]? = some v → SignAt x (j + k) v) : StrsAre ys ((x.cps.toList.drop k).map fun c => (⟨#[foldC c]⟩ : Str)) := by
  induction hp generalizing k with
  | nil =>
    rw [List.drop_eq_nil_of_le (by simp at hl ⊢; omega)]
    exact .nil
  | @cons u y us ys h r ih =>
    obtain ⟨c, t, hc, hv⟩ := hs 0 u rfl
    rw [Nat.zero_add] at hc
    obtain ⟨t', hy⟩ := h c t hv
    have hk : k < x.cps.toList.length := by simp at hl ⊢; omega
    have hget : x.cps.toList[k] = c := by
      have := hc
      rw [← Array.getElem?_toList, List.getElem?_eq_getElem hk] at this
      exact Option.some.inj this
    rw [List.drop_eq_getElem_cons hk, List.map_cons, hget, hy]
    exact .cons _ _ (ih (k + 1) (by simp at hl; omega) fun j v hj => by
      have := hs (j + 1) v (by simpa using hj)
      rwa [show j + (k + 1) = j + 1 + k by omega])
theorem glued_signs : ∀ cs : List Nat, Txt.join (Str.ofString "") (cs.map fun c => (⟨#[foldC c]⟩ : Str)) = ⟨(cs.map foldC).toArray⟩ := by
  have e : Str.ofString "" = ⟨#[]⟩ := by decide +kernel
  intro cs
  show Builtin.Str.glued _ _ = _
  rw [StrLaws.glued_eq_join, e]
  induction cs with
  | nil => rfl
  | cons c r ih =>
    rw [List.map_cons, join_nil_cons, ih]
    refine Str.ext' (Array.toList_inj.mp ?_)
    rw [Str.cps_append]
    simp
theorem foldS_join {x : Str} : Txt.join (Str.ofString "") (x.cps.toList.map fun c => (⟨#[foldC c]⟩ : Str)) = foldS x := glued_signs _
theorem sum_ones (cs : List Nat) : ((cs.map fun c => (⟨#[foldC c]⟩ : Str)).map (·.length)).sum = cs.length := by
  induction cs with
  | nil => rfl
  | cons c r ih =>
    rw [List.map_cons, List.map_cons, List.sum_cons, ih, List.length_cons]
    show 1 + _ = _
    omega
theorem le_Z {c : Nat} (h : ¬ (Str.ofString "Z").cps.toList < (⟨#[c]⟩ : Str).cps.toList) : (c : Int) ≤ 90 := by
  have b : ¬ 90 < c := fun q => h (lt_Z.mpr q)
  omega
end
section
noncomputable def cmpS (t1 t2 : T) : Str := ((explT t1).or ((explT t2).or ((colT t1).or (colT t2)))).getD (Str.ofString "binary")
end
section
section
variable {prog : Program} {w : World} {A : Around} {E : Value → Shared → Prop} {s : Shared} {h₀ : Heap} {L p : Addr} {news : Led} {value slice : PySem.Expr} {u : Tok} {a b c : Value} {n : Nat} {Q : Value → Shared → Prop}
theorem item3_0 (N : News h₀ L s.heap news) (e : (p, tupO [a, b, c] n) ∈ news) (h : Q a s)
    (hs : subscripted slice false (.ref p) (.int 0 u) = operate [.ref p, .int 0 u] (getItem (.ref p) (.int 0 u)) := by with_unfolding_all rfl) (hg : ∀ r, letTemporaryGo value (.ref p) r = pure () := by intro _; with_unfolding_all rfl) :
    wpAny (model prog w) A (subscriptTail value slice (.ref p) (.int 0 u)) Q E s :=
  item_tupleL (ist_news N e) (by decide) (by decide) rfl rfl h hs hg
theorem item3_1 (N : News h₀ L s.heap news) (e : (p, tupO [a, b, c] n) ∈ news) (h : Q b s)
    (hs : subscripted slice false (.ref p) (.int 1 u) = operate [.ref p, .int 1 u] (getItem (.ref p) (.int 1 u)) := by with_unfolding_all rfl) (hg : ∀ r, letTemporaryGo value (.ref p) r = pure () := by intro _; with_unfolding_all rfl) :
    wpAny (model prog w) A (subscriptTail value slice (.ref p) (.int 1 u)) Q E s :=
  item_tupleL (ist_news N e) (by decide) (by decide) rfl rfl h hs hg
theorem item3_2 (N : News h₀ L s.heap news) (e : (p, tupO [a, b, c] n) ∈ news) (h : Q c s)
    (hs : subscripted slice false (.ref p) (.int 2 u) = operate [.ref p, .int 2 u] (getItem (.ref p) (.int 2 u)) := by with_unfolding_all rfl) (hg : ∀ r, letTemporaryGo value (.ref p) r = pure () := by intro _; with_unfolding_all rfl) :
    wpAny (model prog w) A (subscriptTail value slice (.ref p) (.int 2 u)) Q E s :=
  item_tupleL (ist_news N e) (by decide) (by decide) rfl rfl h hs hg
end
end
section
theorem part_det {h : Heap} {v : Value} {t t' : T} (x : PartIn (atH h) v t) (y : PartIn (atH h) v t') : t = t' := by
  cases x with
  | mk a b c d e =>
  cases y with
  | mk a' b' c' d' e' =>
  have q := at_inj a a'
  simp only [Obj.mk.injEq, Data.seq.injEq, List.toArray, Array.mk.injEq, List.cons.injEq] at q
  have q1 := q.2.2.1.1.1
  subst q1
  exact b.det b'
theorem parts_three {W : Kn} {n : Nat} {ys : List Value} (hl : ys.length = 3) (h : ∀ v ∈ ys, PartG W n v) : ∃ p1 l1 a1 c1 w1 t1 n1 m1 p2 l2 a2 c2 w2 t2 n2 m2 p3 l3 a3 c3 w3 t3 n3 m3, ys = [.ref p1, .ref p2, .ref p3] ∧
    (W p1 (tupO [.ref a1, .ref l1, c1] n1) ∧ TreeIn W (.ref a1) t1 ∧ W l1 (_root_.PySem.W.listOf (List.toArray w1) m1) ∧ WordsIn W w1 (wordsT t1) ∧ ColIs c1 (colT t1) ∧ Good n t1) ∧
    (W p2 (tupO [.ref a2, .ref l2, c2] n2) ∧ TreeIn W (.ref a2) t2 ∧ W l2 (_root_.PySem.W.listOf (List.toArray w2) m2) ∧ WordsIn W w2 (wordsT t2) ∧ ColIs c2 (colT t2) ∧ Good n t2) ∧
    (W p3 (tupO [.ref a3, .ref l3, c3] n3) ∧ TreeIn W (.ref a3) t3 ∧ W l3 (_root_.PySem.W.listOf (List.toArray w3) m3) ∧ WordsIn W w3 (wordsT t3) ∧ ColIs c3 (colT t3) ∧ Good n t3) := by
  obtain ⟨x, y, z, e⟩ := three_of hl
  subst e
  exact part_k (h x (.head _)) fun p1 l1 a1 c1 w1 t1 n1 m1 b1 d1 e1 f1 g1 i1 k1 => part_k (h y (.tail _ (.head _))) fun p2 l2 a2 c2 w2 t2 n2 m2 b2 d2 e2 f2 g2 i2 k2 => part_k (h z (.tail _ (.tail _ (.head _)))) fun p3 l3 a3 c3 w3 t3 n3 m3 b3 d3 e3 f3 g3 i3 k3 =>
    ⟨p1, l1, a1, c1, w1, t1, n1, m1, p2, l2, a2, c2, w2, t2, n2, m2, p3, l3, a3, c3, w3, t3, n3, m3, by rw [b1, b2, b3], ⟨d1, e1, f1, g1, i1, k1⟩, ⟨d2, e2, f2, g2, i2, k2⟩, d3, e3, f3, g3, i3, k3⟩
noncomputable def ExplOf (W : Kn) (v y : Value) : Prop := ∃ t, PartIn W v t ∧ ColIs y (explT t)
noncomputable def NodeOf (W : Kn) (v y : Value) : Prop := ∃ t, PartIn W v t ∧ TreeIn W y t
theorem expl_three {W : Kn} {h : Heap} (s : ∀ a o, W a o → atH h a o) {v1 v2 v3 : Value} {ys : List Value} {t1 t2 t3 : T} (P : Paired (ExplOf W) [v1, v2, v3] ys) (h1 : PartIn W v1 t1) (h2 : PartIn W v2 t2) (h3 : PartIn W v3 t3) :
    ∃ y1 y2 y3, ys = [y1, y2, y3] ∧ ColIs y1 (explT t1) ∧ ColIs y2 (explT t2) ∧ ColIs y3 (explT t3) := by
  cases P with
  | cons x P =>
  cases P with
  | cons y P =>
  cases P with
  | cons z P =>
  cases P
  obtain ⟨u1, q1, r1⟩ := x
  obtain ⟨u2, q2, r2⟩ := y
  obtain ⟨u3, q3, r3⟩ := z
  rw [part_det (q1.mono s) (h1.mono s)] at r1
  rw [part_det (q2.mono s) (h2.mono s)] at r2
  rw [part_det (q3.mono s) (h3.mono s)] at r3
  exact ⟨_, _, _, rfl, r1, r2, r3⟩
theorem node_three {W : Kn} {h : Heap} (s : ∀ a o, W a o → atH h a o) {v1 v2 v3 : Value} {ys : List Value} {t1 t2 t3 : T} (P : Paired (NodeOf W) [v1, v2, v3] ys) (h1 : PartIn W v1 t1) (h2 : PartIn W v2 t2) (h3 : PartIn W v3 t3) :
    ∃ y1 y2 y3, ys = [.ref y1, .ref y2, .ref y3] ∧ TreeIn W (.ref y1) t1 ∧ TreeIn W (.ref y2) t2 ∧ TreeIn W (.ref y3) t3 := by
  cases P with
  | cons x P =>
  cases P with
  | cons y P =>
  cases P with
  | cons z P =>
  cases P
  obtain ⟨u1, q1, r1⟩ := x
  obtain ⟨u2, q2, r2⟩ := y
  obtain ⟨u3, q3, r3⟩ := z
  rw [part_det (q1.mono s) (h1.mono s)] at r1
  rw [part_det (q2.mono s) (h2.mono s)] at r2
  rw [part_det (q3.mono s) (h3.mono s)] at r3
  have e1 := r1.ref
  have e2 := r2.ref
  have e3 := r3.ref
  subst e1 e2 e3
  exact ⟨_, _, _, rfl, r1, r2, r3⟩
theorem first_some {b : Str} {t : Tok} {vs : List Value} {os : List (Option Str)} (x : Paired ColIs vs os) : ∃ t', firstV (vs.filter notNone) (.str b t) = .str ((os.findSome? id).getD b) t' := by
  induction x with
  | nil => exact ⟨_, rfl⟩
  | cons h _ ih =>
    cases h with
    | none =>
      obtain ⟨t', e⟩ := ih
      exact ⟨t', by rw [List.filter_cons, if_neg (by decide), e]; rfl⟩
    | some => exact ⟨_, rfl⟩
theorem cols_ns {vs : List Value} {os : List (Option Str)} (x : Paired ColIs vs os) : Tag 7 (∀ u ∈ vs, NoneStr u) := by
  refine ⟨fun u hu => ?_⟩
  obtain ⟨o, h⟩ := paired_mem x hu
  exact colIs_ns h
section
variable {y1 y2 y3 c1 c2 c3 r : Value} {t1 t2 t3 : T} {t : Tok}
theorem six_cols (e1 : ColIs y1 (explT t1)) (k1 : ColIs c1 (colT t1)) (e2 : ColIs y2 (explT t2)) (k2 : ColIs c2 (colT t2)) (e3 : ColIs y3 (explT t3)) (k3 : ColIs c3 (colT t3)) : Paired ColIs [y1, c1, y2, c2, y3, c3] [explT t1, colT t1, explT t2, colT t2, explT t3, colT t3] :=
  .cons e1 (.cons k1 (.cons e2 (.cons k2 (.cons e3 (.cons k3 .nil)))))
theorem four_cols (e1 : ColIs y1 (explT t1)) (e2 : ColIs y2 (explT t2)) (k1 : ColIs c1 (colT t1)) (k2 : ColIs c2 (colT t2)) : Paired ColIs [y1, y2, c1, c2] [explT t1, explT t2, colT t1, colT t2] :=
  .cons e1 (.cons e2 (.cons k1 (.cons k2 .nil)))
theorem fs_cons {α β : Type} (f : α → Option β) (a : α) (l : List α) : (a :: l).findSome? f = (f a).or (l.findSome? f) := by
  rw [List.findSome?_cons]; cases f a <;> rfl
theorem call_six : ([explT t1, colT t1, explT t2, colT t2, explT t3, colT t3].findSome? id).getD (Str.ofString "binary") = callS [t1, t2, t3] := by
  simp only [callS, fs_cons, List.findSome?_nil, oneT, id, Option.or_assoc]
theorem cmp_four : ([explT t1, explT t2, colT t1, colT t2].findSome? id).getD (Str.ofString "binary") = cmpS t1 t2 := by
  simp only [cmpS, fs_cons, List.findSome?_nil, id, Option.or_none]
theorem first_six (e1 : ColIs y1 (explT t1)) (k1 : ColIs c1 (colT t1)) (e2 : ColIs y2 (explT t2)) (k2 : ColIs c2 (colT t2)) (e3 : ColIs y3 (explT t3)) (k3 : ColIs c3 (colT t3)) (e : r = firstV (List.filter notNone [y1, c1, y2, c2, y3, c3]) (.str (Str.ofString "binary") t)) : ∃ t', r = .str (callS [t1, t2, t3]) t' := by
  rw [e, ← call_six]; exact first_some (six_cols e1 k1 e2 k2 e3 k3)
theorem first_four (e1 : ColIs y1 (explT t1)) (e2 : ColIs y2 (explT t2)) (k1 : ColIs c1 (colT t1)) (k2 : ColIs c2 (colT t2)) (e : r = firstV (List.filter notNone [y1, y2, c1, c2]) (.str (Str.ofString "binary") t)) : ∃ t', r = .str (cmpS t1 t2) t' := by
  rw [e, ← cmp_four]; exact first_some (four_cols e1 e2 k1 k2)
end
section
variable {prog : Program} {w : World} {A : Around} {E : Value → Shared → Prop} {s : Shared} {env : Env} {Q : Value → Shared → Prop}
theorem ne_nils {l b : Addr} (hl : s.heap.IsList l #[]) (hb : s.heap.IsList b #[]) (hu : A.units < cLine) (h : Q (.bool false) s) : wpAny (model prog w) A (compareOp .NotEq (.ref l) (.ref b)) Q E s :=
  ne_nil (vs := []) hl hb hu h
theorem eq_strs {a : Str} {t u : Tok} (h : Q (.bool true) s) : wpAny (model prog w) A (compareOp .Eq (.str a t) (.str a u)) Q E s := PyProof.Rows.eq_str (by simpa using h)
theorem comp_none {elt iter c : Expr} {x : Str} {scope : Scope} {cl : List (Str × Addr)} {px pos : Pos} 
    (hclos : closureFor scope env = pure cl) (hcell : ∀ y ∈ scope.names, y.2 ≠ .cell) (hkind : scope.kind = .function)
    (hnames : ∀ y ∈ scope.names, y.2 = .local → scope.names.lookup y.1 = some .local) (hx : scope.names.lookup x = some .local)
    (h : wpAny (model prog w) A (eval iter env) (fun xv s₁ => wpAny (model prog w) A (pyIter xv) (CompAsk prog w A env elt x [c] scope cl (fun _ => false) IsSame Q) E s₁) E s)
    (hs : ∀ x, foldedSetIterable iter env x = pure x := by intro _; rfl) :
    wpAny (model prog w) A (eval (.ListComp elt [⟨.Name x px, iter, [c], 0⟩] scope pos) env) Q E s :=
  comp_of _ _ hclos hcell hkind hnames hx h hs
theorem test_no {s : Shared} {h' : Heap} {tk : Nat} (k : Stay s.heap h') : TestEnd false s (!true) { s with heap := h', toks := tk } := ⟨rfl, h', tk, rfl, k⟩
theorem none_fil {vs ys : List Value} (h : Paired IsSame (vs.filter (fun _ => false)) ys) : ys = [] := by
  rw [List.filter_eq_nil_iff.mpr (by simp)] at h
  cases h; rfl
end
section
variable {prog : Program} {w : World} {A : Around} {E : Value → Shared → Prop} {s : Shared} {env : Env} {elt : Expr} {x : Str} {scope : Scope} {cl : List (Str × Addr)} {Q : Flow → Shared → Prop} {h₀ : Heap} {iter : Expr} {px py pos spos : Pos} {tl : Led} {vs : List Value} {n : Nat}
theorem assign_expl {H : Heap} {m : Str → Option Value} (hall : ∀ v ∈ vs, PartG (inLed tl) n v) (F : Fr h₀ env.locals H m) (hh : A.handled = none)
    (hsw : swapsWith (.ListComp elt [⟨.Name x px, iter, [], 0⟩] scope pos) (some (.Name (Str.ofString "explicit") py)) spos.line env = pure true)
    (hclos : closureFor scope env = pure cl) (hcell : ∀ z ∈ scope.names, z.2 ≠ .cell) (hkind : scope.kind = .function)
    (hnames : ∀ z ∈ scope.names, z.2 = .local → scope.names.lookup z.1 = some .local) (hx : scope.names.lookup x = some .local)
    (hy : env.kindOf (Str.ofString "explicit") = some .local) (hp : (env.scope.kind == .class || (env.scope.kind == .module && env.locals != env.globals)) = false)
    (h : wpAny (model prog w) A (eval iter env) (AskA prog w A env elt x (Str.ofString "explicit") scope cl (ExplOf (inLed tl)) vs h₀ Q) E s)
    (hs : ∀ x, foldedSetIterable iter env x = pure x := by intro _; rfl) :
    wpAny (model prog w) A (exec (.Assign [.Name (Str.ofString "explicit") py] (.ListComp elt [⟨.Name x px, iter, [], 0⟩] scope pos) spos) env) Q E s :=
  assign_list _ hh hsw hclos hcell hkind hnames hx hy hp h hs
theorem assign_nodes {H : Heap} {m : Str → Option Value} (hall : ∀ v ∈ vs, PartG (inLed tl) n v) (F : Fr h₀ env.locals H m) (hh : A.handled = none)
    (hsw : swapsWith (.ListComp elt [⟨.Name x px, iter, [], 0⟩] scope pos) (some (.Name (Str.ofString "nodes") py)) spos.line env = pure true)
    (hclos : closureFor scope env = pure cl) (hcell : ∀ z ∈ scope.names, z.2 ≠ .cell) (hkind : scope.kind = .function)
    (hnames : ∀ z ∈ scope.names, z.2 = .local → scope.names.lookup z.1 = some .local) (hx : scope.names.lookup x = some .local)
    (hy : env.kindOf (Str.ofString "nodes") = some .local) (hp : (env.scope.kind == .class || (env.scope.kind == .module && env.locals != env.globals)) = false)
    (h : wpAny (model prog w) A (eval iter env) (AskA prog w A env elt x (Str.ofString "nodes") scope cl (NodeOf (inLed tl)) vs h₀ Q) E s)
    (hs : ∀ x, foldedSetIterable iter env x = pure x := by intro _; rfl) :
    wpAny (model prog w) A (exec (.Assign [.Name (Str.ofString "nodes") py] (.ListComp elt [⟨.Name x px, iter, [], 0⟩] scope pos) spos) env) Q E s :=
  assign_list _ hh hsw hclos hcell hkind hnames hx hy hp h hs
end
section
variable {w : World} {f : Addr} {vs : List Value} {d u : Nat} {src : Addr} {o : Obj} {R : Heap → Value → Prop} {mean : ExcName → Option Value} {mg mb : Str → Option Value} {dp un : Nat} {gd : Option (List Code)} {cn : Str} {cs : Scope} {a : Addr} {ccd : Value} {cl : List (Str × Addr)} {outer : List Env} {A₀ : Around} {base h₀ : Heap} {L : Addr}
    {m : Str → Option Value} {news : Led} {s : Shared} {Q E : Value → Shared → Prop}
theorem ct_raw (C : Ct w s.heap f vs d u [(src, o)] R) (B : Below A₀ base outer h₀) (F : Fr h₀ L s.heap m) (X : (KK w).In h₀) (N : News h₀ L s.heap news) (hm : (src, o) ∈ news) (T : Top _root_.Mine.top.view_1_40 Lo mean mg mb h₀) (hk : cs.kind = .function) (hd : dp + d < recursionLimit) (hu : un + u < cLine)
    (h : ∀ r h' tk', R h' r → Q r { s with heap := h', toks := tk' }) : wpAny (MM w) (ktrTop dp un gd cn cs L a ccd cl outer) (call (.ref f) vs) Q E s :=
  C _ _ _ _ _ _ _ _ _ _ _ _ _ _ _ _ _ _ _ _ rfl B F X (fun p hp => by rw [List.mem_singleton.mp hp]; exact N _ hm) T hk hd hu h
theorem made_end {src : Addr} {n : Nat} {s : Shared} {h' : Heap} {tk : Nat} {y : Value} (h : MakeR src s.heap (fun tl r => PartG (inLed tl) n r) h' y) : MadeEnd src n s y { s with heap := h', toks := tk } := ⟨h', tk, rfl, h⟩
end
section
variable {prog : Program} {w : World} {A : Around} {E : Value → Shared → Prop} {s : Shared} {h₀ : Heap} {L p : Addr} {news : Led} {value slice : PySem.Expr} {u : Tok} {a b c : Value} {n : Nat} {Q : Value → Shared → Prop}
theorem item3t_2 (N : News h₀ L s.heap news) (e : (p, tupO [a, b, c] n) ∈ news) (h : Q c s)
    (hs : subscripted slice false (.ref p) (.int 2 u) = operate [.ref p, .int 2 u] (getItem (.ref p) (.int 2 u)) := by with_unfolding_all rfl) :
    wpAny (model prog w) A (subscriptTail value slice (.ref p) (.int 2 u)) Q E s :=
  item_tupleT (ist_news N e) (by decide) (by decide) rfl rfl h hs
end
end
section
noncomputable def aggOne (K : Frag) (f : Str) : Option (Option (Addr × Int × Int × Tok × Tok × Nat)) := match nsIn K 22 f with
  | some none => some none
  | some (some (.ref a)) => (match K.lookup a with
    | some ⟨.type "tuple", none, .seq its n, sl⟩ => (match its.toList, sl.toList with
      | [.int x t, .int y u], [] => some (some (a, x, y, t, u, n))
      | _, _ => none)
    | _ => none)
  | _ => none
noncomputable def aggOk (K : Frag) : Bool := foldedNames.all fun f => match aggOne K f with
  | some none => decide (aggTab.lookup f = none)
  | some (some (_, x, y, _)) => decide (aggTab.lookup f = some (x, y))
  | none => false
theorem aggOk_is (w : World) : aggOk (KK w) = true := by kernel_rfl
theorem aggOne_none {K : Frag} {f : Str} (h : aggOne K f = some none) : nsIn K 22 f = some none := by
  unfold aggOne at h
  split at h
  · assumption
  · split at h
    · split at h <;> cases h
    · cases h
  · cases h
theorem aggOne_some {K : Frag} {f : Str} {a : Addr} {x y : Int} {t u : Tok} {n : Nat} (h : aggOne K f = some (some (a, x, y, t, u, n))) : nsIn K 22 f = some (some (.ref a)) ∧ K.lookup a = some (tupO [Value.int x t, .int y u] n) := by
  unfold aggOne at h
  split at h
  · cases h
  · rename_i a' e
    split at h
    · rename_i its n' sl e2
      split at h
      · rename_i x' t' y' u' e3 e4
        cases h
        refine ⟨e, ?_⟩
        rw [e2]
        have h1 : its = [Value.int x t, .int y u].toArray := by rw [← e3]
        have h2 : sl = #[] := by
          have := congrArg List.toArray e4
          simpa using this
        rw [h1, h2]
      · cases h
    · cases h
  · cases h
theorem agg_cases {w : World} {f : Str} (hf : f ∈ foldedNames) : (aggTab.lookup f = none ∧ nsIn (KK w) 22 f = some none) ∨
    ∃ a lo hi t u n, aggTab.lookup f = some (lo, hi) ∧ nsIn (KK w) 22 f = some (some (.ref a)) ∧ (KK w).lookup a = some (tupO [Value.int lo t, .int hi u] n) := by
  have q := List.all_eq_true.mp (aggOk_is w) f hf
  split at q
  · rename_i e
    exact .inl ⟨of_decide_eq_true q, aggOne_none e⟩
  · rename_i a x y r e
    obtain ⟨t, u, n⟩ := r
    obtain ⟨h1, h2⟩ := aggOne_some e
    exact .inr ⟨a, x, y, t, u, n, of_decide_eq_true q, h1, h2⟩
  · cases q
theorem lower_folded : ∀ f ∈ foldedNames, Txt.lower f = f := by decide +kernel
theorem aggF_no {f : Str} {k : Int} (h : (aggTab.lookup f).isSome = false) : aggF f k false = false := by
  unfold aggF
  cases e : aggTab.lookup f with
  | none => rfl
  | some p => rw [e] at h; cases h
section
variable {w : World} {A : Around} {E : Value → Shared → Prop} {s : Shared} {Q : Value → Shared → Prop} {h₀ : Heap} {L : Addr} {m : Str → Option Value} {f : Str} {t : Tok}
theorem agg_dict (w : World) : ∃ es n, (KK w).lookup 22 = some ⟨.type "dict", none, .dict es n, #[]⟩ ∧ KeysLit w.params es.toList := ⟨_, _, rfl, by repeat (first | exact True.intro | refine And.intro ⟨_, _, rfl, rfl⟩ ?_)⟩
theorem in_agg (hf : f ∈ foldedNames) (F : Fr h₀ L s.heap m) (X : (KK w).In h₀) (h : Q (.bool (aggTab.lookup f).isSome) { s with toks := s.toks + 1 }) : wpAny (MM w) A (compareOp .In (.str f t) (.ref 22)) Q E s := by
  obtain ⟨es, n, hl, hk⟩ := agg_dict w
  rcases agg_cases (w := w) hf with ⟨e1, e2⟩ | ⟨a, lo, hi, t', u, n', e1, e2, e3⟩
  · exact topIn_K F X hl hk e2 (by decide) (by rw [e1] at h; exact h)
  · exact topIn_K F X hl hk e2 (by decide) (by rw [e1] at h; exact h)
theorem item_agg {value slice : Expr} (hf : f ∈ foldedNames) (hs : (aggTab.lookup f).isSome = true) (F : Fr h₀ L s.heap m) (X : (KK w).In h₀)
    (h : ∀ a lo hi u1 u2 n, aggTab.lookup f = some (lo, hi) → h₀.get? a = some (tupO [Value.int lo u1, .int hi u2] n) → Q (.ref a) { s with toks := s.toks + 1 })
    (hs' : ∀ a, subscripted slice false (.ref a) (.str f t) = operate [.ref a, .str f t] (getItem (.ref a) (.str f t)) := by intro a; with_unfolding_all rfl) :
    wpAny (MM w) A (subscriptTail value slice (.ref 22) (.str f t)) Q E s := by
  obtain ⟨es, n, hl, hk⟩ := agg_dict w
  rcases agg_cases (w := w) hf with ⟨e1, e2⟩ | ⟨a, lo, hi, t', u, n', e1, e2, e3⟩
  · rw [e1] at hs; cases hs
  · exact topItem_K F X hl hk e2 (h a lo hi t' u n' e1 (X _ _ e3)) (hs' 22)
end
end
section
theorem folded_size : ∀ f ∈ foldedNames, f.cps.size ≤ 100 := by decide +kernel
theorem foldS_size (x : Str) : (foldS x).cps.size = x.cps.size := by simp [foldS]
theorem name_size {nm : Str} (h : foldS nm ∈ foldedNames) : nm.cps.size ≤ 100 := by rw [← foldS_size]; exact folded_size _ h
end
section
theorem kd_agg (b : Bool) : Value.bool b = .bool (decide ((if b = true then Kd.agg else .plain) = .agg)) := by cases b <;> rfl
theorem kd_not {W : Kn} {a : Addr} {c : Cl} {k : Kd} {vs : List Value} (h : NodeIn W a c k vs) (hc : ¬ c = .call) : Value.bool (decide (c = .call)) = .bool (decide (k = .agg)) := by
  have hk : ¬ k = .agg := fun e => by subst e; exact hc h.kp
  rw [decide_eq_false hc, decide_eq_false hk]
end
section
section
variable {prog : Program} {w : World} {A₀ A : Around} {s : Shared} {base h₀ : Heap} {outer : List Env} {L : Addr} {m : Str → Option Value} {env : Env} {news : List (Addr × Obj)}
theorem code_defGC {K : Frag} {p : Program} {loose : List Str} {mean : ExcName → Option Value} {mg mb : Str → Option Value} {R : Result → Shared → Prop} {name qual : Str} {params : Arguments} {body : List Stmt} {scope : Scope} {dV kV doc pm cdv ct oc : Value} {an od : Option Addr} {osl : Array (Option Value)} {f : Addr} {args : Args} {binds : List (Str × Value)}
    (B : Below A₀ base outer h₀) (F : Fr h₀ L s.heap m) (X₀ : K.In h₀) (N : News h₀ L s.heap news) (T : Top p loose mean mg mb h₀) (hA : A.frames = some (env :: outer)) (hf : env.frame = some L) (hke : env.scope.kind = .function)
    (ho : K.lookup f = some ⟨oc, od, .func (fnOf name qual params body scope dV kV doc pm an cdv ct), osl⟩) (hcd : codeIn K cdv qual = true) (hroom : A.depth < recursionLimit)
    (hbind : BindsTo s (fnOf name qual params body scope dV kV doc pm an cdv ct) args binds) (hkind : (binds.all fun y => scope.names.lookup y.1 == some .local || scope.names.lookup y.1 == some .cell) = true)
    (hnd : ((cellsFrom 0 scope.names []).map (·.1)).Nodup)
    (h : ∀ g L' h₁ tk cells, Fr h₀ L g m → Fr g L' h₁ (bindL (envOfC qual scope L' f cdv).kindOf binds fun _ => none) → News g L' h₁ (cells ++ news) →
      CellsAre (bindC (envOfC qual scope L' f cdv).kindOf binds fun _ => none) (cellsFrom (L' + 1) scope.names []) cells → Below A base (env :: outer) g → K.In g → Top p loose mean mg mb g → GSub s.heap g (news.map (·.1)) →
      wpAny (model prog w) (A.deeper (envOfC qual scope L' f cdv)) (execs body (envOfC qual scope L' f cdv))
        (fun fl s' => LeaveK h₀ L m g R (match fl with | .ret v => v | _ => .none) s')
        (fun e s' => wpAny (model prog w) (A.deeper (envOfC qual scope L' f cdv)) (leaving (envOfC qual scope L' f cdv) e) (fun _ s'' => R (.error e) s'') (fun e' s'' => R (.error e') s'') s')
        { s with heap := h₁, toks := tk })
    (hco : scope.isCoroutine = false) (hgen : scope.isGenerator = false) (hk : scope.kind = .function) : codeAny (model prog w) A (.call (.ref f) args) R s := by
  obtain ⟨FG, BG, st, lv⟩ := groundX (R := R) B F N hA hf hke
  refine codeAny_call_function hroom ((X₀.keeps F.keep) _ _ ho) rfl hco hgen rfl (codeRec_of (X₀.keeps F.keep) hcd) (hbind _ _ _ _ ?_)
  refine wpAny_newFunctionEnv_cells hk (kindsX hkind _) fun env' he s' x => ?_
  subst he
  refine ⟨(T.nolimit.keeps F.keep).keeps x.toInCall.keep, codeAny_func ?_⟩
  obtain ⟨h₁, tk, rfl, _⟩ := x.done
  have up := x.toInCall.keep
  obtain ⟨cells, NC, Y⟩ := PyProof.Rows.Cl.news (h₀ := s.heap) (Nat.le_refl _) fun n c hm => ⟨x.cell n c (lookup_of_mem_nodup (cellsFrom_names scope.names 0 (s.heap.objs.size + 1) [] [] rfl ▸ hnd) hm), x.above n c hm⟩
  refine wpAny_mono (h _ s.heap.objs.size h₁ tk cells FG ⟨x.toInCall.ns, fun b o e => up b o (of_hideAll _ e), Nat.le_of_eq (hideAll_size _ _)⟩ (fun q hq => ?_) Y BG (X₀.keeps st) (T.keeps st) (fun b o e n => hideAll_get _ e n)) (fun fl s' hl => lv _ _ hl) fun _ _ y => y
  rcases List.mem_append.mp hq with hq | hq
  · refine ⟨(NC q hq).1, (NC q hq).2.1, ?_⟩
    cases z : (hideAll s.heap (news.map (·.1))).get? q.1 with
    | none => rfl
    | some o => have y := of_hideAll _ z; rw [(NC q hq).2.2] at y; cases y
  · exact ⟨up _ _ (N q hq).1, Nat.ne_of_lt (Heap.lt_size (N q hq).1), hideAll_none _ (List.mem_map_of_mem hq)⟩
end
end
section
theorem fil_room {vs : List Value} {v : Value} (h : vs.length ≤ 100000) : (vs.filter notNone).length + [v].length ≤ sizeLine := by
  have := List.length_filter_le notNone vs
  rw [sizeLine_eq]; simp only [List.length_singleton]; omega
theorem line_of (vs : List Value) (h : vs.length ≤ 100000) : vs.length ≤ sizeLine := by rw [sizeLine_eq]; omega
end
section
theorem comp_are {prog : Program} {w : World} {A : Around} {E : Value → Shared → Prop} {s : Shared} {env : Env} {Q : Value → Shared → Prop} {ns os : List Addr} {elt iter : Expr} {ifs : List Expr} {x : Str} {scope : Scope} {cl : List (Str × Addr)} {px pos : Pos} (hq : Tag 8 (ns = ns ∧ os = os))
    (hclos : closureFor scope env = pure cl) (hcell : ∀ y ∈ scope.names, y.2 ≠ .cell) (hkind : scope.kind = .function)
    (hnames : ∀ y ∈ scope.names, y.2 = .local → scope.names.lookup y.1 = some .local) (hx : scope.names.lookup x = some .local)
    (h : wpAny (model prog w) A (eval iter env) (fun xv s₁ => wpAny (model prog w) A (pyIter xv) (CompAsk prog w A env elt x ifs scope cl (qp fun i => decide (ns[i]? ≠ os[i]?)) IsSame Q) E s₁) E s)
    (hs : ∀ x, foldedSetIterable iter env x = pure x := by intro _; rfl) :
    wpAny (model prog w) A (eval (.ListComp elt [⟨.Name x px, iter, ifs, 0⟩] scope pos) env) Q E s :=
  comp_of _ _ hclos hcell hkind hnames hx h hs
theorem test_are {ns os : List Addr} {i : Nat} {s : Shared} (h : i < ns.length) (h' : i < os.length) : TestEnd (decide (ns[i]? ≠ os[i]?)) s (!decide (ns[i] = os[i])) s := ⟨by rw [List.getElem?_eq_getElem h, List.getElem?_eq_getElem h']; simp, s.heap, s.toks, rfl, fun _ _ e => e⟩
end
section
section
variable {prog : Program} {w : World} {A : Around} {E : Value → Shared → Prop} {s : Shared}
theorem item_at {value slice : Expr} {a : Addr} {l : List Value} {k : Int} {u : Tok} {Q : Value → Shared → Prop} (hl : s.heap.IsList a l.toArray)
    (h0 : 0 ≤ k) (h1 : k < (l.length : Int)) (h2 : l.length ≤ 12) (h : ∀ v, v ∈ l → Q v s)
    (hs : subscripted slice false (.ref a) (.int k u) = operate [.ref a, .int k u] (getItem (.ref a) (.int k u)) := by with_unfolding_all rfl) (hg : ∀ r, letTemporaryGo value (.ref a) r = pure () := by intro _; with_unfolding_all rfl) :
    wpAny (model prog w) A (subscriptTail value slice (.ref a) (.int k u)) Q E s :=
  item_listL hl h0 (by omega) (List.getElem?_eq_getElem (by omega)) (h _ (List.getElem_mem _)) hs hg
end
end
section
theorem allLt_up {d x : Addr} : ∀ {l : Led}, AllLt d l → d < x → AllLt x l
  | [], _, _ => trivial
  | _ :: _, h, k => ⟨Nat.lt_trans h.1 k, allLt_up h.2 k⟩
end
section
theorem words_bound {W : Kn} {ws vs : List Value} {ts : List T} {n : Nat} (h : WordsIn W ws (wordsL ts)) (hg : ∀ t ∈ ts, Good n t) (hP : Paired (PartIn W) vs ts) (h3 : vs.length ≤ 3) (hn : n ≤ 2) : ws.length ≤ 10000 := by
  have a := h.len
  have b := good_words hg
  have c := hP.length
  have d : ts.length * 4 ^ (n + 1) ≤ 3 * 4 ^ 3 := Nat.mul_le_mul (by omega) (Nat.pow_le_pow_right (by decide) (by omega))
  omega
end
section
theorem two_ns {a b : Value} {o p : Option Str} (ha : ColIs a o) (hb : ColIs b p) : Tag 7 (∀ u ∈ [a, b], NoneStr u) := ⟨fun u hu => by
  simp only [List.mem_cons, List.not_mem_nil, or_false] at hu
  rcases hu with rfl | rfl
  · exact colIs_ns ha
  · exact colIs_ns hb⟩
theorem first31 {r : Value} {vs : List Value} {o : Option Str} (e : r = firstV (List.filter notNone vs) .none) (h : Tag 31 ((∀ u ∈ vs, NoneStr u) ∧ ColIs (firstV (List.filter notNone vs) .none) o)) : ColIs r o := e ▸ h.out.2
theorem first32 {r a b : Value} {o p : Option Str} {c : Str} {t : Tok} (e : r = firstV (List.filter notNone [a, b]) (.str c t)) (ha : ColIs a o) (hb : ColIs b p) : ∃ t', r = .str ((o.or p).getD c) t' := e ▸ first_two ha hb
theorem sub_eq {t : T} {ps : List (Value × Value)} (h : Paired WdP ps (wordsT t)) : hasSubT t = !((ps.filter (tagIs (Str.ofString "select"))).map (·.2)).isEmpty := by rw [sel_any h, sel_T]
theorem agg_no2 {n : Nat} {b : Bool} (h : Tag 36 (¬ n = 1 → b = false)) (hn : ¬ ((n : Nat) : Int) = 1) : b = (((n : Nat) : Int) == 1) := by
  rw [h.out (by omega)]
  simp [hn]
theorem refs_at0 {ns : List Addr} (h : 0 < ns.length) : (ns.map Value.ref)[(0 : Int).toNat]? = some (.ref ns[0]) := by simp [h]
theorem tree_open {W : Kn} {a : Addr} {t : T} (h : TreeIn W (.ref a) t) : ∃ c k vs ts, t = .mk a k ts ∧ NodeIn W a c k vs ∧ TreesIn W vs ts := by
  cases h with
  | mk h hs => exact ⟨_, _, _, _, rfl, h, hs⟩
end
section
theorem colls_of {r : Value} {t1 t2 t3 : Tok} (h : r ∈ [Value.str (Str.ofString "binary") t1, .str (Str.ofString "nocase") t2, .str (Str.ofString "rtrim") t3]) : ∃ c t, r = .str c t ∧ c ∈ colls := by
  simp only [List.mem_cons, List.not_mem_nil, or_false] at h
  rcases h with rfl | rfl | rfl <;> exact ⟨_, _, rfl, by decide +kernel⟩
end
section
theorem led_at {tl news : Led} {h₀ h : Heap} {L : Addr} (N : News h₀ L h news) (s : ∀ a b, inLed tl a b → inLed news a b) : ∀ a b, inLed tl a b → atH h a b := fun a b q => (N _ (s a b q)).1
theorem cell_off {h₀ h : Heap} {L c src : Addr} {o' o : Obj} {tl : Led} {v : Option Value} (N : News h₀ L h ((c, o') :: (src, o) :: tl)) (ho : SrcOk o) (hc : o'.data = .cell v) : ∀ p ∈ [(c, o')], p.1 ≠ src := fun p hp e => by
  rw [List.mem_singleton.mp hp] at e
  have a := (N (c, o') (.head _)).1
  have b := (N (src, o) (.tail _ (.head _))).1
  have e' : c = src := e
  subst e'
  have q : o' = o := Option.some.inj (a.symm.trans b)
  obtain ⟨x, y, t1, t2, n, rfl, _⟩ := ho
  subst q
  cases hc
section
variable {prog : Program} {w : World} {A : Around} {E : Value → Shared → Prop} {s : Shared} {env : Env} {h₀ : Heap} {L : Addr} {m : Str → Option Value} {elt : Expr} {x y : Str} {scope : Scope} {cl : List (Str × Addr)} {Q : Flow → Shared → Prop} {src : Addr} {o : Obj} {g h : Heap}
theorem assign_drawG (G : GSub h g (List.map (·.1) [(src, o)])) (n : Nat) {iter : Expr} {px py pos spos : Pos} (F₀ : Fr h₀ L s.heap m) (hLe : env.locals = L) (hh : A.handled = none)
    (hsw : swapsWith (.ListComp elt [⟨.Name x px, iter, [], 0⟩] scope pos) (some (.Name y py)) spos.line env = pure true)
    (hclos : closureFor scope env = pure cl) (hcell : ∀ z ∈ scope.names, z.2 ≠ .cell) (hkind : scope.kind = .function)
    (hnames : ∀ z ∈ scope.names, z.2 = .local → scope.names.lookup z.1 = some .local) (hx : scope.names.lookup x = some .local)
    (hy : env.kindOf y = some .local) (hp : (env.scope.kind == .class || (env.scope.kind == .module && env.locals != env.globals)) = false)
    (h : wpAny (model prog w) A (eval iter env) (AskD prog w A env elt y scope cl src n h₀ L m Q) E s)
    (hs : ∀ x, foldedSetIterable iter env x = pure x := by intro _; rfl) :
    wpAny (model prog w) A (exec (.Assign [.Name y py] (.ListComp elt [⟨.Name x px, iter, [], 0⟩] scope pos) spos) env) Q E s :=
  assign_draw src n F₀ hLe hh hsw hclos hcell hkind hnames hx hy hp h hs
end
theorem stay_two {a b c : Heap} (x : Stay a b) (y : Stay b c) : Stay a c := x.trans y
theorem tag31 {ps : List (Value × Value)} {t : T} (h : Paired WdP ps (wordsT t)) : Tag 31 ((∀ u ∈ (ps.filter (tagIs (Str.ofString "collate"))).map (·.2), NoneStr u) ∧ ColIs (firstV (List.filter notNone ((ps.filter (tagIs (Str.ofString "collate"))).map (·.2))) .none) (explT t)) := ⟨by rw [← expl_T]; exact strs_none (coll_strs h)⟩
theorem coll_few {ws : List Value} {ps : List (Value × Value)} {H : Heap} (h : Paired (PairAt H) ws ps) (hz : ws.length ≤ 10000) : ((ps.filter (tagIs (Str.ofString "collate"))).map (·.2)).length ≤ 100000 := by
  rw [List.length_map]
  have q1 := List.length_filter_le (tagIs (Str.ofString "collate")) ps
  have q2 := h.length
  omega
theorem goods_depth {t1 t2 t3 : T} (g1 : Good 2 t1) (g2 : Good 2 t2) (g3 : Good 2 t3) : depthL [t1, t2, t3] ≤ 5 := good_depth (n := 2) (by intro t ht; simp only [List.mem_cons, List.not_mem_nil, or_false] at ht; rcases ht with rfl | rfl | rfl <;> assumption)
theorem goods_nil : Tag 1 (∀ t ∈ ([] : List T), ∀ c, explT t = some c ∨ colT t = some c → c ∈ colls) := ⟨fun _ h => nomatch h⟩
theorem goods_col {n : Nat} {t1 t2 t3 : T} (g1 : Good n t1) (g2 : Good n t2) (g3 : Good n t3) : Tag 1 (∀ t ∈ [t1, t2, t3], ∀ c, explT t = some c ∨ colT t = some c → c ∈ colls) := ⟨fun t ht c hc => by
  have hg : ∀ t ∈ [t1, t2, t3], Good n t := by intro t ht; simp only [List.mem_cons, List.not_mem_nil, or_false] at ht; rcases ht with rfl | rfl | rfl <;> assumption
  exact hc.elim ((hg t ht).expl c) ((hg t ht).col c)⟩
end
section
theorem news_join {h₀ h h' : Heap} {L : Addr} {m : Str → Option Value} {news tl : Led} (N : News h₀ L h' news) (F : Fr h₀ L h' m) (F0 : Fr h₀ L h m) (hf : Fresh h h' tl) : News h₀ L h' (news ++ tl) := fun p hp => by
  rcases List.mem_append.mp hp with q | q
  · exact N p q
  · exact fresh_ledger F0 hf p q
theorem three_deep {a b c : Addr} {x : Str} : depthT (.mk a .pass [.mk b .pass [.mk c (.name x) []]]) ≤ 3 := by simp [depthT, depthL]
theorem led_here {news : Led} {h₀ h : Heap} {L : Addr} (N : News h₀ L h news) : ∀ a b, inLed news a b → atH h a b := fun a b q => (N _ q).1
theorem pool_ok {c z : Int} {b : Bool} {t1 t2 : Tok} {n : Nat} : SrcOk (_root_.PySem.W.listOf #[.int ((if -1 - c > c then -1 - c else c) * (if b = true then 1 else 0)) t1, .int (z.fmod 2147483647) t2] n) := by
  have := rest_ok (a := z) (top := 2147483647) (by decide)
  refine ⟨_, _, _, _, _, rfl, ?_, this.1, this.2⟩
  cases b
  · simp
  · simp only [if_true, Int.mul_one]; split <;> omega
theorem col_nocase {r : Value} {a b c : Addr} (h : ColIs r (colT (.mk a .pass [.mk b .pass [.mk c (.name (Str.ofString "nocase")) []]]))) : ∃ t, r = .str (Str.ofString "nocase") t := by
  simp only [colT] at h
  cases h
  exact ⟨_, rfl⟩
section
variable {w : World} {f : Addr} {vs : List Value} {d u : Nat} {src : Addr} {o : Obj} {R : Heap → Value → Prop} {mean : ExcName → Option Value} {mg mb : Str → Option Value} {dp un : Nat} {gd : Option (List Code)} {cn : Str} {cs : Scope} {a : Addr} {ccd : Value} {cl : List (Str × Addr)} {outer : List Env} {A₀ : Around} {base h₀ : Heap} {L : Addr}
    {m : Str → Option Value} {news : Led} {s : Shared} {Q E : Value → Shared → Prop}
theorem ct_new0 {P : Led → Value → Prop} (C : Ct w s.heap f vs d u [] (NewR s.heap P)) (B : Below A₀ base outer h₀) (F : Fr h₀ L s.heap m) (X : (KK w).In h₀) (N : News h₀ L s.heap news) (T : Top _root_.Mine.top.view_1_40 Lo mean mg mb h₀) (hk : cs.kind = .function) (hd : dp + d < recursionLimit) (hu : un + u < cLine)
    (h : ∀ r h' tk' tl, P tl r → Stay s.heap h' → (∀ p ∈ news, ∀ q ∈ tl, q.1 ≠ p.1) → Fr h₀ L h' m → News h₀ L h' (news ++ tl) → Q r { s with heap := h', toks := tk' }) :
    wpAny (MM w) (ktrTop dp un gd cn cs L a ccd cl outer) (call (.ref f) vs) Q E s :=
  ct_use C (fun _ _ x => x.1) B F X N T hk hd hu fun r h' tk' hr hs F' N' => by
    obtain ⟨_, tl, hf, hp⟩ := hr
    refine h r h' tk' tl hp hs (fun p hp q hq e => ?_) F' (news_join N' F' F hf)
    have x := (hf q hq).2
    rw [e, (N p hp).1] at x
    cases x
theorem ct_draw1 (C : Ct w s.heap f vs d u [(src, o)] (DrawR src s.heap (fun _ r => r = .bool true))) (B : Below A₀ base outer h₀) (F : Fr h₀ L s.heap m) (X : (KK w).In h₀) (N : News h₀ L s.heap news) (hm : (src, o) ∈ news) (T : Top _root_.Mine.top.view_1_40 Lo mean mg mb h₀) (hk : cs.kind = .function) (hd : dp + d < recursionLimit) (hu : un + u < cLine)
    (h : ∀ r h' tk' o', r = .bool true → Fr h₀ L h' m → News h₀ L h' [(src, o')] → Q r { s with heap := h', toks := tk' }) :
    wpAny (MM w) (ktrTop dp un gd cn cs L a ccd cl outer) (call (.ref f) vs) Q E s :=
  ct_draw C B F X (fun p hp => by rw [List.mem_singleton.mp hp]; exact N _ hm) (UpdF.head (r := []) (fun _ h => nomatch h)) T hk hd hu fun r h' tk' o' hr _ _ F' N' => h r h' tk' o' hr F' N'
end
end
local macro_rules | `(tactic| k_all) => `(tactic| with_reducible assumption)
local macro_rules | `(tactic| k_room) => `(tactic| (first | exact Nat.le_of_ble_eq_true rfl | ((rename _ < recursionLimit => lD9); first | exact roomA (a := 1) lD9 rfl | exact roomA (a := 2) lD9 rfl | exact roomA (a := 0) lD9 rfl | exact room0 lD9 | exact roomM (a := 1) lD9 (by assumption) rfl | exact roomT (a := 1) lD9 (by assumption) rfl | exact roomI (a := 1) lD9 rfl) | ((try simp only [depth_mark, depth_under_make, depth_under_kw, depth_in1, depth_deeper, depth_caller]); (try dsimp only [ktrTop, Around.deeper]); omega)))
local macro_rules | `(tactic| k_units) => `(tactic| (first | exact Nat.le_of_ble_eq_true rfl | ((rename _ < cLine => lU9); first | exact roomA (a := 3) lU9 rfl | exact roomA (a := 6) lU9 rfl | exact roomA (a := 0) lU9 rfl | exact room0 lU9 | exact roomM (a := 3) lU9 (by assumption) rfl | exact roomT (a := 3) lU9 (by assumption) rfl | exact roomI (a := 3) lU9 rfl) | ((try simp only [units_in1, units_deeper, Around.mark_units, units_caller]); (try dsimp only [ktrTop, Around.deeper]); omega)))
set_option maxHeartbeats 0
section
local macro_rules | `(tactic| k_inst) => `(tactic| (refine' inst_base ?fF ?h1 ?h2; (case fF => k_asm); (case h1 => assumption); (case h2 => assumption)))
mutual
theorem children_ct {w : World} {H : Heap} {a : Addr} {c : Cl} {k : Kd} {vs : List Value} (Hn : NodeIn (atH H) a c k vs) : Ct w H 564 [.ref a] 3 40 [] (FreshL vs H) := by
  w_top off
  k_with_none
  (k_with "call builtin:isinstance" => (k_here; (with_reducible show wpAny _ _ (call _ [Value.ref _, Value.ref 190]) _ _ _); k_dflt (refine isi_one Cl.un (by k_asm) (by k_asm) (by with_reducible assumption) ?_); intro tkI; (try dsimp only)))
  (k_with "call builtin:isinstance" => (k_here; (with_reducible show wpAny _ _ (call _ [Value.ref _, Value.ref 216]) _ _ _); k_dflt (refine isi_one Cl.bin (by k_asm) (by k_asm) (by with_reducible assumption) ?_); intro tkI; (try dsimp only)))
  (k_with "call builtin:isinstance" => (k_here; (with_reducible show wpAny _ _ (call _ [Value.ref _, Value.ref 242]) _ _ _); k_dflt (refine isi_one Cl.betw (by k_asm) (by k_asm) (by with_reducible assumption) ?_); intro tkI; (try dsimp only)))
  (k_with "call builtin:isinstance" => (k_here; (with_reducible show wpAny _ _ (call _ [Value.ref _, Value.ref 268]) _ _ _); k_dflt (refine isi_one Cl.inl (by k_asm) (by k_asm) (by with_reducible assumption) ?_); intro tkI; (try dsimp only)))
  (k_with "call builtin:isinstance" => (k_here; (with_reducible show wpAny _ _ (call _ [Value.ref _, Value.ref 370]) _ _ _); k_dflt (refine isi_one Cl.case (by k_asm) (by k_asm) (by with_reducible assumption) ?_); intro tkI; (try dsimp only)))
  (k_with "call builtin:isinstance" => (k_here; (with_reducible show wpAny _ _ (call _ [Value.ref _, Value.ref 396]) _ _ _); k_dflt (refine isi_one Cl.call (by k_asm) (by k_asm) (by with_reducible assumption) ?_); intro tkI; (try dsimp only)))
  (k_with "call builtin:isinstance" => (k_here; (with_reducible show wpAny _ _ (call _ [Value.ref _, Value.ref 500]) _ _ _); k_dflt (refine isi_one Cl.mat (by k_asm) (by k_asm) (by with_reducible assumption) ?_); intro tkI; (try dsimp only)))
  (k_with "call builtin:isinstance" => (k_here; (with_reducible show wpAny _ _ (call _ [Value.ref _, Value.ref 448]) _ _ _); k_dflt (refine isi_one Cl.coll (by k_asm) (by k_asm) (by with_reducible assumption) ?_); intro tkI; (try dsimp only)))
  (k_with "call builtin:isinstance" => (k_here; (with_reducible show wpAny _ _ (call _ [Value.ref _, Value.ref 164]) _ _ _); k_dflt (refine isi_one Cl.var (by k_asm) (by k_asm) (by with_reducible assumption) ?_); intro tkI; (try dsimp only)))
  (k_with "call builtin:isinstance" => (k_here; (with_reducible show wpAny _ _ (call _ [Value.ref _, Value.ref 138]) _ _ _); k_dflt (refine isi_one Cl.name (by k_asm) (by k_asm) (by with_reducible assumption) ?_); intro tkI; (try dsimp only)))
  (k_with "call builtin:isinstance" => (k_here; (with_reducible show wpAny _ _ (call _ [Value.ref _, Value.ref 422]) _ _ _); k_dflt (refine isi_one Cl.cast (by k_asm) (by k_asm) (by with_reducible assumption) ?_); intro tkI; (try dsimp only)))
  (k_with "getAttr ref" => (k_here; (rename (_ : Cl) = _ => e9); subst e9; (rename NodeIn _ _ _ _ _ => h9); cases h9; all_goals (try dsimp only)))
  (k_with "getAttr ref" => (k_here; (rename (_ : Cl) ∈ _ => e9); (rename NodeIn _ _ _ _ _ => h9); cases h9; all_goals first | (exfalso; revert e9; decide) | (clear e9; try dsimp only)))
  (k_with "call builtin:isinstance" => (k_here; (with_reducible show wpAny _ _ (call _ [Value.ref _, Value.ref _]) _ _ _); k_dflt (refine isi_tup [Cl.insel, Cl.cast, Cl.coll, Cl.isn] (by k_asm) (by k_asm) (by k_asm) (by with_reducible assumption) (List.Mem.head _) ?_); intro tkI; (try dsimp only)))
  (k_with "call type:list" => (k_here; (with_reducible show wpAny _ _ (call (Value.type _) [Value.ref _]) _ _ _); k_dflt (refine' list_copyK ?q15lF ?q15lN (isl_base (by k_asm) (by assumption)) ?_ ?q15lz; (case q15lF => k_asm); (case q15lN => k_asm); (case q15lz => first | (rw [sizeLine_eq, List.size_toArray]; omega) | (rw [sizeLine_eq]; simp; done))); intro D' c' h' F' N' l1; (try k_lt l1); (try k_sweep)))
  (k_with "exec For Tuple Attribute cons nil" => (k_here; (rename Fr _ _ _ _ => lF'); (with_unfolding_all refine' For_turns lF' ?_; k_whole)))
  (k_with "pyIter ref" => (k_here; (with_reducible show wpAny _ _ (pyIter (Value.ref _)) (fun it s₂ => TurnsAt _ _ _ _ _ _ _ _ _ it s₂) _ _); (rename Fr _ _ _ _ => lF'); (rename News _ _ _ _ => lN'); (with_unfolding_all refine for_one rfl rfl lF' lN' (isl_base lF' (by assumption)) (ne_base lF' (by assumption)) ?_); (intro I9 h9 tk9 own9 hI9 ho9 F' N'); (have hn9 := own_ne N' hI9 ho9 ⟨_, by assumption⟩ (List.Mem.head _)); (try simp only [List.cons_append, List.nil_append] at N'); clear lF' lN'; (have hJ9 := hI9 _ (List.Mem.head _)); (dsimp only at hJ9); (have hT9 := ist_base F' (by assumption : Heap.get? _ _ = some (tupO _ _)))))
  (k_with "TurnEnd" => (refine ⟨_, _, _, [_], rfl, (by k_asm), (by k_asm), ?_, ?_⟩; (exact fun p hp => by rw [List.mem_singleton.mp hp]; assumption); (intro h9 tk9 F' N')))
  intro mean mg mb dp un gd cn cs a₁ ccd cl outer A₀ base h₀ L m s Q E hH B F X N T hk hd hu hret
  revert X; k_fill; intro X
  subst hH
  refine wpAny_call ?_
  k_dflt (refine' code_defG (binds := [(Str.ofString "expr", .ref a)]) ?k1 ?k2 ?k3 N ?k5 ?kA ?kF ?kK ?k6 ?k7 ?k8 ?k9 ?kB ?_ ?c2 ?c3 ?c4 ?c5; (case kA => exact rfl); (case kF => exact rfl); (case kK => assumption); (case k1 => k_asm); (case k2 => k_asm); (case k3 => k_asm); (case k5 => k_asm); (case k6 => k_is); (case k7 => k_is); (case k8 => k_room); (case k9 => exact BindsTo.of_eq rfl); (case c5 => decide); (case kB => exact locs rfl); (case c2 => exact rfl); (case c3 => exact rfl); (case c4 => exact rfl); k_whole)
  intro g' L' h' FG' F' N' B' X' T' G'
  (try dsimp only [List.reverse_cons, List.reverse_nil, List.nil_append, List.cons_append] at F'); (try dsimp only); (refine (?_ : let A9 : Around := _; wpAny _ A9 _ _ _ _); intro A9); (try k_fold)
  replace Hn := Hn.mono (gsub_all G')
  k_steps
  all_goals (try exact hret _ _ _ (freshL_of G' (by assumption) (by assumption) (List.Mem.head _)))
  all_goals (have e9 : vs = [] := by cases Hn <;> first | rfl | (exfalso; simp_all; done)); subst e9; exact hret _ _ _ (freshL_of G' (by assumption) (by assumption) (List.Mem.head _))
theorem fold_ct {w : World} {H : Heap} (x : Str) (t : Tok) (hx : x.cps.size ≤ 100) : Ct w H 557 [.str x t] 3 40 [] (fun h' r => Stay H h' ∧ ∃ t', r = .str (foldS x) t') := by
  w_top off
  k_with_none
  (k_with "eval ListComp" => (k_here; (with_unfolding_all refine' comp_of (fun _ => true) FoldF ?q19q1 ?q19q2 ?q19q3 ?q19q4 ?q19q5 ?_; (case q19q1 => rfl); (case q19q2 => decide); (case q19q3 => rfl); (case q19q4 => decide); (case q19q5 => rfl); k_whole)))
  (k_with "pyIter str" => (k_here; (rename Fr _ _ _ _ => lF'); (rename News _ _ _ _ => lN'); refine comp_str rfl lF' lN' (by rw [sizeLine_eq]; omega) rfl ?_ ?_))
  (k_with "call builtin:chr" => (k_here; refine chr_of_range (by omega) (by have := le_Z (by assumption); omega) ?_))
  (k_with "EltEnd" => first | exact fold_low (by assumption) (keeps_self _ _) | exact fold_high (by assumption) (keeps_self _ _) | exact fold_mid (by assumption) (by assumption) (keeps_self _ _))
  (k_with "call builtin:str.join" => (k_here; (rename Paired _ _ _ => hP9); (rename (∀ j v, _ → SignAt _ j v) => hS9); (rename List.length _ = _ => hL9); (have hs9 := fold_strs 0 hP9 hL9 hS9); rw [List.drop_zero] at hs9; refine join_listC (isl_news (by assumption) (List.Mem.head _)) hs9 (by decide +kernel) (by rw [sum_ones, List.length_map]; simp only [Array.length_toList]; omega) ?_; rw [foldS_join]; intro t9 k9))
  intro mean mg mb dp un gd cn cs a₁ ccd cl outer A₀ base h₀ L m s Q E hH B F X N T hk hd hu hret
  revert X; k_fill; intro X
  subst hH
  refine wpAny_call ?_
  k_dflt (refine' code_defG (binds := [(Str.ofString "name", .str x t)]) ?k1 ?k2 ?k3 N ?k5 ?kA ?kF ?kK ?k6 ?k7 ?k8 ?k9 ?kB ?_ ?c2 ?c3 ?c4 ?c5; (case kA => exact rfl); (case kF => exact rfl); (case kK => assumption); (case k1 => k_asm); (case k2 => k_asm); (case k3 => k_asm); (case k5 => k_asm); (case k6 => k_is); (case k7 => k_is); (case k8 => k_room); (case k9 => exact BindsTo.of_eq rfl); (case c5 => decide); (case kB => exact locs rfl); (case c2 => exact rfl); (case c3 => exact rfl); (case c4 => exact rfl); k_whole)
  intro g' L' h' FG' F' N' B' X' T' G'
  (try dsimp only [List.reverse_cons, List.reverse_nil, List.nil_append, List.cons_append] at F'); (try dsimp only); (refine (?_ : let A9 : Around := _; wpAny _ A9 _ _ _ _); intro A9); (try k_fold)
  k_steps
  all_goals (exact hret _ _ _ ⟨stay_of G' (by assumption), _, rfl⟩)
theorem expl_ct {w : World} : ∀ (n : Nat) (t : T) (v : Value) (H : Heap), depthT t ≤ n → TreeIn (atH H) v t → Ct w H 602 [v] (4 * n + 10) (60 * n + 200) [] (fun h' r => Stay H h' ∧ ColIs r (explT t)) := by
  w_top off
  k_with_none
  (k_with "call builtin:isinstance" => (k_here; (with_reducible show wpAny _ _ (call _ [Value.ref _, Value.ref 190]) _ _ _); k_dflt (refine isi_one Cl.un (by k_asm) (by k_asm) (by with_reducible assumption) ?_); intro tkI; (try dsimp only)))
  (k_with "call builtin:isinstance" => (k_here; (with_reducible show wpAny _ _ (call _ [Value.ref _, Value.ref 216]) _ _ _); k_dflt (refine isi_one Cl.bin (by k_asm) (by k_asm) (by with_reducible assumption) ?_); intro tkI; (try dsimp only)))
  (k_with "call builtin:isinstance" => (k_here; (with_reducible show wpAny _ _ (call _ [Value.ref _, Value.ref 242]) _ _ _); k_dflt (refine isi_one Cl.betw (by k_asm) (by k_asm) (by with_reducible assumption) ?_); intro tkI; (try dsimp only)))
  (k_with "call builtin:isinstance" => (k_here; (with_reducible show wpAny _ _ (call _ [Value.ref _, Value.ref 268]) _ _ _); k_dflt (refine isi_one Cl.inl (by k_asm) (by k_asm) (by with_reducible assumption) ?_); intro tkI; (try dsimp only)))
  (k_with "call builtin:isinstance" => (k_here; (with_reducible show wpAny _ _ (call _ [Value.ref _, Value.ref 370]) _ _ _); k_dflt (refine isi_one Cl.case (by k_asm) (by k_asm) (by with_reducible assumption) ?_); intro tkI; (try dsimp only)))
  (k_with "call builtin:isinstance" => (k_here; (with_reducible show wpAny _ _ (call _ [Value.ref _, Value.ref 396]) _ _ _); k_dflt (refine isi_one Cl.call (by k_asm) (by k_asm) (by with_reducible assumption) ?_); intro tkI; (try dsimp only)))
  (k_with "call builtin:isinstance" => (k_here; (with_reducible show wpAny _ _ (call _ [Value.ref _, Value.ref 500]) _ _ _); k_dflt (refine isi_one Cl.mat (by k_asm) (by k_asm) (by with_reducible assumption) ?_); intro tkI; (try dsimp only)))
  (k_with "call builtin:isinstance" => (k_here; (with_reducible show wpAny _ _ (call _ [Value.ref _, Value.ref 448]) _ _ _); k_dflt (refine isi_one Cl.coll (by k_asm) (by k_asm) (by with_reducible assumption) ?_); intro tkI; (try dsimp only)))
  (k_with "call builtin:isinstance" => (k_here; (with_reducible show wpAny _ _ (call _ [Value.ref _, Value.ref 164]) _ _ _); k_dflt (refine isi_one Cl.var (by k_asm) (by k_asm) (by with_reducible assumption) ?_); intro tkI; (try dsimp only)))
  (k_with "call builtin:isinstance" => (k_here; (with_reducible show wpAny _ _ (call _ [Value.ref _, Value.ref 138]) _ _ _); k_dflt (refine isi_one Cl.name (by k_asm) (by k_asm) (by with_reducible assumption) ?_); intro tkI; (try dsimp only)))
  (k_with "call builtin:isinstance" => (k_here; (with_reducible show wpAny _ _ (call _ [Value.ref _, Value.ref 422]) _ _ _); k_dflt (refine isi_one Cl.cast (by k_asm) (by k_asm) (by with_reducible assumption) ?_); intro tkI; (try dsimp only)))
  (k_with "getAttr ref" => (k_here; (rename (_ : Cl) = _ => e9); subst e9; (rename NodeIn _ _ _ _ _ => h9); cases h9; all_goals (try dsimp only)))
  (k_with "call ref" => (k_here; (with_reducible show wpAny _ _ (call (Value.ref 564) [_]) _ _ _); k_dflt (refine' ct_use (children_ct ?q36hn) ?q36lR ?q36lB ?q36lF ?q36lX ?q36lN ?q36lT ?q36lk ?q36ld ?q36lu ?_; (case q36hn => exact NodeIn.mono (by assumption) (Fr.keep (by k_asm))); (case q36lR => exact fun _ _ h => h.1); (case q36lB => k_asm); (case q36lF => k_asm); (case q36lX => k_asm); (case q36lN => k_asm); (case q36lT => k_asm); (case q36lk => first | exact rfl | assumption); (case q36ld => k_room); (case q36lu => k_units)); intro r9 h' tk9 hr9 hs9 F' N'; (replace hr9 := FreshL.out hr9); obtain ⟨_, l9, n9, he9, hl9, hg9⟩ := hr9; subst he9; (have hN9 := fresh_news (by k_asm) (by k_asm) hs9 hl9 hg9); clear N'; obtain ⟨N', hn9⟩ := hN9; (try dsimp only)))
  (k_with "exec For Name Call cons nil" => (k_here; (rename Fr _ _ _ _ => lF'); (with_unfolding_all refine' For_turns lF' ?_; k_whole)))
  (k_with "call ref" => (k_here; (with_reducible show wpAny _ _ (call (Value.ref 557) [_]) _ _ _); k_dflt (refine' ct_use (fold_ct _ _ ?q38hx) ?q38lR ?q38lB ?q38lF ?q38lX ?q38lN ?q38lT ?q38lk ?q38ld ?q38lu ?_; (case q38hx => assumption); (case q38lR => exact fun _ _ h => h.1); (case q38lB => k_asm); (case q38lF => k_asm); (case q38lX => k_asm); (case q38lN => k_asm); (case q38lT => k_asm); (case q38lk => first | exact rfl | assumption); (case q38ld => k_room); (case q38lu => k_units)); intro r9 h' tk9 hr9 hs9 F' N'; obtain ⟨_, t9, he9⟩ := hr9; subst he9; (try dsimp only)))
  (k_with "call ref" => (k_here; (with_reducible show wpAny _ _ (call (Value.ref 602) [_]) _ _ _); (rename Tag 602 _ => ih9); k_dflt (refine' ct_use (ih9.out _ _ _ (Nat.le_trans (by assumption) (by assumption)) (TreeIn.mono (by assumption) (Fr.keep (by k_asm)))) ?q39lR ?q39lB ?q39lF ?q39lX ?q39lN ?q39lT ?q39lk ?q39ld ?q39lu ?_; (case q39lR => exact fun _ _ h => h.1); (case q39lB => k_asm); (case q39lF => k_asm); (case q39lX => k_asm); (case q39lN => k_asm); (case q39lT => k_asm); (case q39lk => first | exact rfl | assumption); (case q39ld => k_room); (case q39lu => k_units)); intro r9 h' tk9 hr9 hs9 F' N'; obtain ⟨_, hc9⟩ := hr9; (generalize he9 : explT _ = o9 at hc9); cases hc9; all_goals (try dsimp only)))
  (k_with "pyIter ref" => (k_here; (with_reducible show wpAny _ _ (pyIter (Value.ref _)) (fun it s₂ => TurnsAt _ _ _ _ _ _ _ _ _ it s₂) _ _); (rename Fr _ _ _ _ => lF'); (rename News _ _ _ _ => lN'); (with_unfolding_all refine for_trees (Str.ofString "found") (Str.ofString "child") (fun us => explL us = none) (by rfl) rfl lF' lN' (List.Mem.head _) (by assumption) rfl ?_ ?_); (intro I9 v9 t9 us9 h9 tk9 own9 u9 hT9 hd9 hr9 hP9 hI9 F' N'; (have e9 := TreeIn.ref hT9; subst e9)); rotate_left; (intro h9 tk9 u9 hP9 F' N')))
  (k_with "TurnEnd" => first | (refine TurnEnd.out ?_; dsimp only) | (refine TurnEnd.go (by k_asm) (by k_asm) (by assumption) ⟨rfl, ?_, ?_⟩; (exact explL_next (by assumption) (by assumption)); (intro z h1 h2; simp [h1, h2])))
  intro n
  induction n with
  | zero => intro t v H hdep; cases t; simp [depthT] at hdep
  | succ n ih =>
  intro t v H hdep hT
  cases hT with
  | @mk a c k vs ts Hn Hs =>
  replace hdep : depthL ts ≤ n := by simpa [depthT] using hdep
  replace ih := Tag.mk (k := 602) ih
  intro mean mg mb dp un gd cn cs a₁ ccd cl outer A₀ base h₀ L m s Q E hH B F X N T hk hd hu hret
  revert X; k_fill; intro X
  subst hH
  refine wpAny_call ?_
  k_dflt (refine' code_defG (binds := [(Str.ofString "expr", .ref a)]) ?k1 ?k2 ?k3 N ?k5 ?kA ?kF ?kK ?k6 ?k7 ?k8 ?k9 ?kB ?_ ?c2 ?c3 ?c4 ?c5; (case kA => exact rfl); (case kF => exact rfl); (case kK => assumption); (case k1 => k_asm); (case k2 => k_asm); (case k3 => k_asm); (case k5 => k_asm); (case k6 => k_is); (case k7 => k_is); (case k8 => k_room); (case k9 => first | exact BindsTo.of_eq rfl | exact binds_K (by k_in) rfl (by k_is) rfl rfl rfl); (case c5 => decide); (case kB => exact locs rfl); (case c2 => exact rfl); (case c3 => exact rfl); (case c4 => exact rfl); k_whole)
  intro g' L' h' FG' F' N' B' X' T' G'
  (try dsimp only [List.reverse_cons, List.reverse_nil, List.nil_append, List.cons_append] at F'); (try dsimp only); (refine (?_ : let A9 : Around := _; wpAny _ A9 _ _ _ _); intro A9); (try k_fold)
  replace Hn := Hn.mono (gsub_all G')
  replace Hs := Hs.mono (gsub_all G')
  k_steps
  all_goals (refine hret _ _ _ ⟨stay_of G' (by assumption), ?_⟩; first | exact col_some rfl | exact col_none ((expl_other Hn Hs (by assumption)).trans (by assumption)) rfl | exact col_some ((expl_other Hn Hs (by assumption)).trans (explL_found (by assumption) (by assumption) (by assumption))))
theorem col_ct {w : World} : ∀ (n : Nat) (t : T) (v : Value) (H : Heap), depthT t ≤ n → TreeIn (atH H) v t → Ct w H 609 [v] (4 * n + 10) (60 * n + 200) [] (fun h' r => Stay H h' ∧ ColIs r (colT t)) := by
  w_top off
  k_with_none
  (k_with "call builtin:isinstance" => (k_here; (with_reducible show wpAny _ _ (call _ [Value.ref _, Value.ref 190]) _ _ _); k_dflt (refine isi_one Cl.un (by k_asm) (by k_asm) (by with_reducible assumption) ?_); intro tkI; (try dsimp only)))
  (k_with "call builtin:isinstance" => (k_here; (with_reducible show wpAny _ _ (call _ [Value.ref _, Value.ref 216]) _ _ _); k_dflt (refine isi_one Cl.bin (by k_asm) (by k_asm) (by with_reducible assumption) ?_); intro tkI; (try dsimp only)))
  (k_with "call builtin:isinstance" => (k_here; (with_reducible show wpAny _ _ (call _ [Value.ref _, Value.ref 242]) _ _ _); k_dflt (refine isi_one Cl.betw (by k_asm) (by k_asm) (by with_reducible assumption) ?_); intro tkI; (try dsimp only)))
  (k_with "call builtin:isinstance" => (k_here; (with_reducible show wpAny _ _ (call _ [Value.ref _, Value.ref 268]) _ _ _); k_dflt (refine isi_one Cl.inl (by k_asm) (by k_asm) (by with_reducible assumption) ?_); intro tkI; (try dsimp only)))
  (k_with "call builtin:isinstance" => (k_here; (with_reducible show wpAny _ _ (call _ [Value.ref _, Value.ref 370]) _ _ _); k_dflt (refine isi_one Cl.case (by k_asm) (by k_asm) (by with_reducible assumption) ?_); intro tkI; (try dsimp only)))
  (k_with "call builtin:isinstance" => (k_here; (with_reducible show wpAny _ _ (call _ [Value.ref _, Value.ref 396]) _ _ _); k_dflt (refine isi_one Cl.call (by k_asm) (by k_asm) (by with_reducible assumption) ?_); intro tkI; (try dsimp only)))
  (k_with "call builtin:isinstance" => (k_here; (with_reducible show wpAny _ _ (call _ [Value.ref _, Value.ref 500]) _ _ _); k_dflt (refine isi_one Cl.mat (by k_asm) (by k_asm) (by with_reducible assumption) ?_); intro tkI; (try dsimp only)))
  (k_with "call builtin:isinstance" => (k_here; (with_reducible show wpAny _ _ (call _ [Value.ref _, Value.ref 448]) _ _ _); k_dflt (refine isi_one Cl.coll (by k_asm) (by k_asm) (by with_reducible assumption) ?_); intro tkI; (try dsimp only)))
  (k_with "call builtin:isinstance" => (k_here; (with_reducible show wpAny _ _ (call _ [Value.ref _, Value.ref 164]) _ _ _); k_dflt (refine isi_one Cl.var (by k_asm) (by k_asm) (by with_reducible assumption) ?_); intro tkI; (try dsimp only)))
  (k_with "call builtin:isinstance" => (k_here; (with_reducible show wpAny _ _ (call _ [Value.ref _, Value.ref 138]) _ _ _); k_dflt (refine isi_one Cl.name (by k_asm) (by k_asm) (by with_reducible assumption) ?_); intro tkI; (try dsimp only)))
  (k_with "call builtin:isinstance" => (k_here; (with_reducible show wpAny _ _ (call _ [Value.ref _, Value.ref 422]) _ _ _); k_dflt (refine isi_one Cl.cast (by k_asm) (by k_asm) (by with_reducible assumption) ?_); intro tkI; (try dsimp only)))
  (k_with "getAttr ref" => (k_here; (rename (_ : Cl) = _ => e9); subst e9; (rename NodeIn _ _ _ _ _ => h9); cases h9; all_goals (try dsimp only)))
  (k_with "call ref" => (k_here; (with_reducible show wpAny _ _ (call (Value.ref 609) [_]) _ _ _); (rename Tag 609 _ => ih9); (rename TreesIn _ _ _ => lS9); (obtain ⟨t9, he9, hT9, hd9⟩ := one_tree lS9 (by assumption)); subst he9; k_dflt (refine' ct_use (ih9.out _ _ _ hd9 (TreeIn.mono hT9 (Fr.keep (by k_asm)))) ?q54lR ?q54lB ?q54lF ?q54lX ?q54lN ?q54lT ?q54lk ?q54ld ?q54lu ?_; (case q54lR => exact fun _ _ h => h.1); (case q54lB => k_asm); (case q54lF => k_asm); (case q54lX => k_asm); (case q54lN => k_asm); (case q54lT => k_asm); (case q54lk => first | exact rfl | assumption); (case q54ld => k_room); (case q54lu => k_units)); intro r9 h' tk9 hr9 hs9 F' N'; obtain ⟨_, hc9⟩ := hr9; (try dsimp only)))
  intro n
  induction n with
  | zero => intro t v H hdep; cases t; simp [depthT] at hdep
  | succ n ih =>
  intro t v H hdep hT
  cases hT with
  | @mk a c k vs ts Hn Hs =>
  replace hdep : depthL ts ≤ n := by simpa [depthT] using hdep
  replace ih := Tag.mk (k := 609) ih
  intro mean mg mb dp un gd cn cs a₁ ccd cl outer A₀ base h₀ L m s Q E hH B F X N T hk hd hu hret
  revert X; k_fill; intro X
  subst hH
  refine wpAny_call ?_
  k_dflt (refine' code_defG (binds := [(Str.ofString "expr", .ref a)]) ?k1 ?k2 ?k3 N ?k5 ?kA ?kF ?kK ?k6 ?k7 ?k8 ?k9 ?kB ?_ ?c2 ?c3 ?c4 ?c5; (case kA => exact rfl); (case kF => exact rfl); (case kK => assumption); (case k1 => k_asm); (case k2 => k_asm); (case k3 => k_asm); (case k5 => k_asm); (case k6 => k_is); (case k7 => k_is); (case k8 => k_room); (case k9 => first | exact BindsTo.of_eq rfl | exact binds_K (by k_in) rfl (by k_is) rfl rfl rfl); (case c5 => decide); (case kB => exact locs rfl); (case c2 => exact rfl); (case c3 => exact rfl); (case c4 => exact rfl); k_whole)
  intro g' L' h' FG' F' N' B' X' T' G'
  (try dsimp only [List.reverse_cons, List.reverse_nil, List.nil_append, List.cons_append] at F'); (try dsimp only); (refine (?_ : let A9 : Around := _; wpAny _ A9 _ _ _ _); intro A9); (try k_fold)
  replace Hn := Hn.mono (gsub_all G')
  replace Hs := Hs.mono (gsub_all G')
  k_steps
  all_goals (refine hret _ _ _ ⟨stay_of G' (by assumption), ?_⟩; first | exact col_name rfl | exact col_pass (by assumption) | exact col_plus (by assumption) (by assumption) | exact col_minus (by assumption) | exact col_rest Hn (by assumption) (by assumption) (by assumption))
theorem cmp_ct {w : World} {H : Heap} {t1 t2 : T} {v1 v2 : Value} {n : Nat} (h1 : TreeIn (atH H) v1 t1) (h2 : TreeIn (atH H) v2 t2) (d1 : depthT t1 ≤ n) (d2 : depthT t2 ≤ n) (hec : Tag 1 (∀ c, colT t2 = some c → c ∈ colls)) : Ct w H 631 [v1, v2] (4 * n + 14) (60 * n + 240) [] (fun h' r => Stay H h' ∧ ∃ t', r = .str (cmpS t1 t2) t') := by
  w_top off
  k_with_none
  (k_with "call ref" => (k_here; (with_reducible show wpAny _ _ (call (Value.ref 602) [_]) _ _ _); k_dflt (refine' ct_use (expl_ct _ _ _ _ (Nat.le_refl _) (TreeIn.mono (by assumption) (Fr.keep (by k_asm)))) ?q55lR ?q55lB ?q55lF ?q55lX ?q55lN ?q55lT ?q55lk ?q55ld ?q55lu ?_; (case q55lR => exact fun _ _ h => h.1); (case q55lB => k_asm); (case q55lF => k_asm); (case q55lX => k_asm); (case q55lN => k_asm); (case q55lT => k_asm); (case q55lk => first | exact rfl | assumption); (case q55ld => k_room); (case q55lu => k_units)); intro r9 h' tk9 hr9 hs9 F' N'; obtain ⟨_, hc9⟩ := hr9; (generalize he9 : explT _ = o9 at hc9); cases hc9; all_goals (try dsimp only)))
  (k_with "call ref" => (k_here; (with_reducible show wpAny _ _ (call (Value.ref 609) [_]) _ _ _); k_dflt (refine' ct_use (col_ct _ _ _ _ (Nat.le_refl _) (TreeIn.mono (by assumption) (Fr.keep (by k_asm)))) ?q56lR ?q56lB ?q56lF ?q56lX ?q56lN ?q56lT ?q56lk ?q56ld ?q56lu ?_; (case q56lR => exact fun _ _ h => h.1); (case q56lB => k_asm); (case q56lF => k_asm); (case q56lX => k_asm); (case q56lN => k_asm); (case q56lT => k_asm); (case q56lk => first | exact rfl | assumption); (case q56ld => k_room); (case q56lu => k_units)); intro r9 h' tk9 hr9 hs9 F' N'; obtain ⟨_, hc9⟩ := hr9; (generalize he9 : colT _ = o9 at hc9); cases hc9; all_goals (try dsimp only)))
  (k_with "truthy str" => (k_here; (rename Tag 1 _ => lh9); refine colls_truthy (lh9.out _ (by assumption)) ?_; intro tk9))
  intro mean mg mb dp un gd cn cs a₁ ccd cl outer A₀ base h₀ L m s Q E hH B F X N T hk hd hu hret
  revert X; k_fill; intro X
  subst hH
  refine wpAny_call ?_
  k_dflt (refine' code_defG (binds := [(Str.ofString "left", v1), (Str.ofString "right", v2)]) ?k1 ?k2 ?k3 N ?k5 ?kA ?kF ?kK ?k6 ?k7 ?k8 ?k9 ?kB ?_ ?c2 ?c3 ?c4 ?c5; (case kA => exact rfl); (case kF => exact rfl); (case kK => assumption); (case k1 => k_asm); (case k2 => k_asm); (case k3 => k_asm); (case k5 => k_asm); (case k6 => k_is); (case k7 => k_is); (case k8 => k_room); (case k9 => first | exact BindsTo.of_eq rfl | exact binds_K (by k_in) rfl (by k_is) rfl rfl rfl); (case c5 => decide); (case kB => exact locs rfl); (case c2 => exact rfl); (case c3 => exact rfl); (case c4 => exact rfl); k_whole)
  intro g' L' h' FG' F' N' B' X' T' G'
  (try dsimp only [List.reverse_cons, List.reverse_nil, List.nil_append, List.cons_append] at F'); (try dsimp only); (refine (?_ : let A9 : Around := _; wpAny _ A9 _ _ _ _); intro A9); (try k_fold)
  replace h1 := h1.mono (gsub_all G')
  replace h2 := h2.mono (gsub_all G')
  k_steps
  all_goals (refine hret _ _ _ ⟨stay_of G' (by assumption), ?_⟩; refine ⟨_, congrArg (fun x => Value.str x _) ?_⟩; simp only [cmpS, Option.none_or, Option.some_or, Option.getD_some, Option.getD_none, *])
theorem collof_ct {w : World} {H : Heap} {t : T} {v : Value} (hT : TreeIn (atH H) v t) (hec : Tag 1 (∀ c, explT t = some c ∨ colT t = some c → c ∈ colls)) : Ct w H 617 [v] (4 * depthT t + 14) (60 * depthT t + 240) [] (fun h' r => Stay H h' ∧ ∃ t', r = .str (((explT t).or (colT t)).getD (Str.ofString "binary")) t') := by
  w_top off
  k_with_none
  (k_with "call ref" => (k_here; (with_reducible show wpAny _ _ (call (Value.ref 602) [_]) _ _ _); k_dflt (refine' ct_use (expl_ct _ _ _ _ (Nat.le_refl _) (TreeIn.mono (by assumption) (Fr.keep (by k_asm)))) ?q58lR ?q58lB ?q58lF ?q58lX ?q58lN ?q58lT ?q58lk ?q58ld ?q58lu ?_; (case q58lR => exact fun _ _ h => h.1); (case q58lB => k_asm); (case q58lF => k_asm); (case q58lX => k_asm); (case q58lN => k_asm); (case q58lT => k_asm); (case q58lk => first | exact rfl | assumption); (case q58ld => k_room); (case q58lu => k_units)); intro r9 h' tk9 hr9 hs9 F' N'; obtain ⟨_, hc9⟩ := hr9; (generalize he9 : explT _ = o9 at hc9); cases hc9; all_goals (try dsimp only)))
  (k_with "call ref" => (k_here; (with_reducible show wpAny _ _ (call (Value.ref 609) [_]) _ _ _); k_dflt (refine' ct_use (col_ct _ _ _ _ (Nat.le_refl _) (TreeIn.mono (by assumption) (Fr.keep (by k_asm)))) ?q59lR ?q59lB ?q59lF ?q59lX ?q59lN ?q59lT ?q59lk ?q59ld ?q59lu ?_; (case q59lR => exact fun _ _ h => h.1); (case q59lB => k_asm); (case q59lF => k_asm); (case q59lX => k_asm); (case q59lN => k_asm); (case q59lT => k_asm); (case q59lk => first | exact rfl | assumption); (case q59ld => k_room); (case q59lu => k_units)); intro r9 h' tk9 hr9 hs9 F' N'; obtain ⟨_, hc9⟩ := hr9; (generalize he9 : colT _ = o9 at hc9); cases hc9; all_goals (try dsimp only)))
  (k_with "truthy str" => (k_here; (rename Tag 1 _ => lh9); refine colls_truthy (lh9.out _ (by first | exact Or.inl (by assumption) | exact Or.inr (by assumption))) ?_; intro tk9))
  intro mean mg mb dp un gd cn cs a₁ ccd cl outer A₀ base h₀ L m s Q E hH B F X N T hk hd hu hret
  revert X; k_fill; intro X
  subst hH
  refine wpAny_call ?_
  k_dflt (refine' code_defG (binds := [(Str.ofString "expr", v), (Str.ofString "sources", .none)]) ?k1 ?k2 ?k3 N ?k5 ?kA ?kF ?kK ?k6 ?k7 ?k8 ?k9 ?kB ?_ ?c2 ?c3 ?c4 ?c5; (case kA => exact rfl); (case kF => exact rfl); (case kK => assumption); (case k1 => k_asm); (case k2 => k_asm); (case k3 => k_asm); (case k5 => k_asm); (case k6 => k_is); (case k7 => k_is); (case k8 => k_room); (case k9 => first | exact BindsTo.of_eq rfl | exact binds_K (by k_in) rfl (by k_is) rfl rfl rfl); (case c5 => decide); (case kB => exact locs rfl); (case c2 => exact rfl); (case c3 => exact rfl); (case c4 => exact rfl); k_whole)
  intro g' L' h' FG' F' N' B' X' T' G'
  (try dsimp only [List.reverse_cons, List.reverse_nil, List.nil_append, List.cons_append] at F'); (try dsimp only); (refine (?_ : let A9 : Around := _; wpAny _ A9 _ _ _ _); intro A9); (try k_fold)
  replace hT := hT.mono (gsub_all G')
  k_steps
  all_goals (refine hret _ _ _ ⟨stay_of G' (by assumption), ?_⟩; first | (rw [first_1 (by assumption)]; exact ⟨_, rfl⟩) | (rw [first_2 (by assumption) (by assumption)]; exact ⟨_, rfl⟩) | (rw [first_3 (by assumption) (by assumption)]; exact ⟨_, rfl⟩))
theorem hasvar_ct {w : World} : ∀ (n : Nat) (t : T) (v : Value) (H : Heap), depthT t ≤ n → TreeIn (atH H) v t → Ct w H 588 [v] (4 * n + 10) (60 * n + 200) [] (fun h' r => Stay H h' ∧ r = .bool (hasVarT t)) := by
  w_top off
  k_with_none
  (k_with "call builtin:isinstance" => (k_here; (with_reducible show wpAny _ _ (call _ [Value.ref _, Value.ref 190]) _ _ _); k_dflt (refine isi_one Cl.un (by k_asm) (by k_asm) (by with_reducible assumption) ?_); intro tkI; (try dsimp only)))
  (k_with "call builtin:isinstance" => (k_here; (with_reducible show wpAny _ _ (call _ [Value.ref _, Value.ref 216]) _ _ _); k_dflt (refine isi_one Cl.bin (by k_asm) (by k_asm) (by with_reducible assumption) ?_); intro tkI; (try dsimp only)))
  (k_with "call builtin:isinstance" => (k_here; (with_reducible show wpAny _ _ (call _ [Value.ref _, Value.ref 242]) _ _ _); k_dflt (refine isi_one Cl.betw (by k_asm) (by k_asm) (by with_reducible assumption) ?_); intro tkI; (try dsimp only)))
  (k_with "call builtin:isinstance" => (k_here; (with_reducible show wpAny _ _ (call _ [Value.ref _, Value.ref 268]) _ _ _); k_dflt (refine isi_one Cl.inl (by k_asm) (by k_asm) (by with_reducible assumption) ?_); intro tkI; (try dsimp only)))
  (k_with "call builtin:isinstance" => (k_here; (with_reducible show wpAny _ _ (call _ [Value.ref _, Value.ref 370]) _ _ _); k_dflt (refine isi_one Cl.case (by k_asm) (by k_asm) (by with_reducible assumption) ?_); intro tkI; (try dsimp only)))
  (k_with "call builtin:isinstance" => (k_here; (with_reducible show wpAny _ _ (call _ [Value.ref _, Value.ref 396]) _ _ _); k_dflt (refine isi_one Cl.call (by k_asm) (by k_asm) (by with_reducible assumption) ?_); intro tkI; (try dsimp only)))
  (k_with "call builtin:isinstance" => (k_here; (with_reducible show wpAny _ _ (call _ [Value.ref _, Value.ref 500]) _ _ _); k_dflt (refine isi_one Cl.mat (by k_asm) (by k_asm) (by with_reducible assumption) ?_); intro tkI; (try dsimp only)))
  (k_with "call builtin:isinstance" => (k_here; (with_reducible show wpAny _ _ (call _ [Value.ref _, Value.ref 448]) _ _ _); k_dflt (refine isi_one Cl.coll (by k_asm) (by k_asm) (by with_reducible assumption) ?_); intro tkI; (try dsimp only)))
  (k_with "call builtin:isinstance" => (k_here; (with_reducible show wpAny _ _ (call _ [Value.ref _, Value.ref 164]) _ _ _); k_dflt (refine isi_one Cl.var (by k_asm) (by k_asm) (by with_reducible assumption) ?_); intro tkI; (try dsimp only)))
  (k_with "call builtin:isinstance" => (k_here; (with_reducible show wpAny _ _ (call _ [Value.ref _, Value.ref 138]) _ _ _); k_dflt (refine isi_one Cl.name (by k_asm) (by k_asm) (by with_reducible assumption) ?_); intro tkI; (try dsimp only)))
  (k_with "call builtin:isinstance" => (k_here; (with_reducible show wpAny _ _ (call _ [Value.ref _, Value.ref 422]) _ _ _); k_dflt (refine isi_one Cl.cast (by k_asm) (by k_asm) (by with_reducible assumption) ?_); intro tkI; (try dsimp only)))
  (k_with "getAttr ref" => (k_here; (rename (_ : Cl) = _ => e9); subst e9; (rename NodeIn _ _ _ _ _ => h9); cases h9; all_goals (try dsimp only)))
  (k_with "call ref" => (k_here; (with_reducible show wpAny _ _ (call (Value.ref 564) [_]) _ _ _); k_dflt (refine' ct_use (children_ct ?q73hn) ?q73lR ?q73lB ?q73lF ?q73lX ?q73lN ?q73lT ?q73lk ?q73ld ?q73lu ?_; (case q73hn => exact NodeIn.mono (by assumption) (Fr.keep (by k_asm))); (case q73lR => exact fun _ _ h => h.1); (case q73lB => k_asm); (case q73lF => k_asm); (case q73lX => k_asm); (case q73lN => k_asm); (case q73lT => k_asm); (case q73lk => first | exact rfl | assumption); (case q73ld => k_room); (case q73lu => k_units)); intro r9 h' tk9 hr9 hs9 F' N'; (replace hr9 := FreshL.out hr9); obtain ⟨_, l9, n9, he9, hl9, hg9⟩ := hr9; subst he9; (have hN9 := fresh_news (by k_asm) (by k_asm) hs9 hl9 hg9); clear N'; obtain ⟨N', hn9⟩ := hN9; (try dsimp only)))
  (k_with "eval ListComp" => (k_here; (rename TreesIn _ _ _ => lS9); (with_unfolding_all refine' comp_trees (fun t => Value.bool (hasVarT t)) lS9 ?q74q1 ?q74q2 ?q74q3 ?q74q4 ?q74q5 ?_; (case q74q1 => rfl); (case q74q2 => decide); (case q74q3 => rfl); (case q74q4 => decide); (case q74q5 => rfl); k_whole)))
  (k_with "pyIter ref" => (k_here; (rename Fr _ _ _ _ => lF'); (rename News _ _ _ _ => lN'); (rename TreesIn _ _ _ => lS9); (rename NodeIn _ _ _ _ _ => lH9); (with_unfolding_all refine comp_list rfl lF' lN' (isl_news lN' (List.Mem.head _)) (kids_line lH9) ?_ ?_ ?_); (intro C9 v9 s9 m9 E9 hv9 hn9 hm9 hs9 F' N'; exact test_nil); (intro C9 v9 s9 m9 E9 hv9 hp9 hn9 hm9 hs9 F' N'; (obtain ⟨t9, hT9, hd9⟩ := tree_of lS9 hv9)); rotate_left; (intro D9 n9 h9 tk9 ys9 F' N' hD9 hs9 hP9; (have e9 := ofTree_fil hP9 lS9; subst e9))))
  (k_with "EltEnd" => exact elt_tree (by assumption) (by assumption))
  (k_with "call builtin:any" => (k_here; (rename Fr _ _ _ _ => lF'); (rename News _ _ _ _ => lN'); refine any_trees rfl lF' lN' (isl_news lN' (List.Mem.head _)) ?_; (intro h9 tk9 hs9 F' N')))
  (k_with "call ref" => (k_here; (with_reducible show wpAny _ _ (call (Value.ref 588) [_]) _ _ _); (rename Tag 588 _ => ih9); k_dflt (refine' ct_use (ih9.out _ _ _ (Nat.le_trans (by assumption) (by assumption)) (TreeIn.mono (by assumption) (Fr.keep (by k_asm)))) ?q78lR ?q78lB ?q78lF ?q78lX ?q78lN ?q78lT ?q78lk ?q78ld ?q78lu ?_; (case q78lR => exact fun _ _ h => h.1); (case q78lB => k_asm); (case q78lF => k_asm); (case q78lX => k_asm); (case q78lN => k_asm); (case q78lT => k_asm); (case q78lk => first | exact rfl | assumption); (case q78ld => k_room); (case q78lu => k_units)); intro r9 h' tk9 hr9 hs9 F' N'; obtain ⟨_, he9⟩ := hr9; subst he9; (try dsimp only)))
  intro n
  induction n with
  | zero => intro t v H hdep; cases t; simp [depthT] at hdep
  | succ n ih =>
  intro t v H hdep hT
  cases hT with
  | @mk a c k vs ts Hn Hs =>
  replace hdep : depthL ts ≤ n := by simpa [depthT] using hdep
  replace ih := Tag.mk (k := 588) ih
  intro mean mg mb dp un gd cn cs a₁ ccd cl outer A₀ base h₀ L m s Q E hH B F X N T hk hd hu hret
  revert X; k_fill; intro X
  subst hH
  refine wpAny_call ?_
  k_dflt (refine' code_defG (binds := [(Str.ofString "expr", .ref a)]) ?k1 ?k2 ?k3 N ?k5 ?kA ?kF ?kK ?k6 ?k7 ?k8 ?k9 ?kB ?_ ?c2 ?c3 ?c4 ?c5; (case kA => exact rfl); (case kF => exact rfl); (case kK => assumption); (case k1 => k_asm); (case k2 => k_asm); (case k3 => k_asm); (case k5 => k_asm); (case k6 => k_is); (case k7 => k_is); (case k8 => k_room); (case k9 => first | exact BindsTo.of_eq rfl | exact binds_K (by k_in) rfl (by k_is) rfl rfl rfl); (case c5 => decide); (case kB => exact locs rfl); (case c2 => exact rfl); (case c3 => exact rfl); (case c4 => exact rfl); k_whole)
  intro g' L' h' FG' F' N' B' X' T' G'
  (try dsimp only [List.reverse_cons, List.reverse_nil, List.nil_append, List.cons_append] at F'); (try dsimp only); (refine (?_ : let A9 : Around := _; wpAny _ A9 _ _ _ _); intro A9); (try k_fold)
  replace Hn := Hn.mono (gsub_all G')
  replace Hs := Hs.mono (gsub_all G')
  k_steps
  all_goals (refine hret _ _ _ ⟨stay_of G' (by assumption), ?_⟩; (rename NodeIn _ _ _ _ _ => lH9); (rename TreesIn _ _ _ => lS9); first | (rename (_ : Cl) = _ => e9; subst e9; cases lH9; rfl) | (rw [var_other lH9 lS9 (by assumption), any_var]))
theorem hassub_ct {w : World} : ∀ (n : Nat) (t : T) (v : Value) (H : Heap), depthT t ≤ n → TreeIn (atH H) v t → Ct w H 583 [v] (4 * n + 10) (60 * n + 200) [] (fun h' r => Stay H h' ∧ r = .bool (hasSubT t)) := by
  w_top off
  k_with_none
  (k_with "call builtin:isinstance" => (k_here; (with_reducible show wpAny _ _ (call _ [Value.ref _, Value.ref 190]) _ _ _); k_dflt (refine isi_one Cl.un (by k_asm) (by k_asm) (by with_reducible assumption) ?_); intro tkI; (try dsimp only)))
  (k_with "call builtin:isinstance" => (k_here; (with_reducible show wpAny _ _ (call _ [Value.ref _, Value.ref 216]) _ _ _); k_dflt (refine isi_one Cl.bin (by k_asm) (by k_asm) (by with_reducible assumption) ?_); intro tkI; (try dsimp only)))
  (k_with "call builtin:isinstance" => (k_here; (with_reducible show wpAny _ _ (call _ [Value.ref _, Value.ref 242]) _ _ _); k_dflt (refine isi_one Cl.betw (by k_asm) (by k_asm) (by with_reducible assumption) ?_); intro tkI; (try dsimp only)))
  (k_with "call builtin:isinstance" => (k_here; (with_reducible show wpAny _ _ (call _ [Value.ref _, Value.ref 268]) _ _ _); k_dflt (refine isi_one Cl.inl (by k_asm) (by k_asm) (by with_reducible assumption) ?_); intro tkI; (try dsimp only)))
  (k_with "call builtin:isinstance" => (k_here; (with_reducible show wpAny _ _ (call _ [Value.ref _, Value.ref 370]) _ _ _); k_dflt (refine isi_one Cl.case (by k_asm) (by k_asm) (by with_reducible assumption) ?_); intro tkI; (try dsimp only)))
  (k_with "call builtin:isinstance" => (k_here; (with_reducible show wpAny _ _ (call _ [Value.ref _, Value.ref 396]) _ _ _); k_dflt (refine isi_one Cl.call (by k_asm) (by k_asm) (by with_reducible assumption) ?_); intro tkI; (try dsimp only)))
  (k_with "call builtin:isinstance" => (k_here; (with_reducible show wpAny _ _ (call _ [Value.ref _, Value.ref 500]) _ _ _); k_dflt (refine isi_one Cl.mat (by k_asm) (by k_asm) (by with_reducible assumption) ?_); intro tkI; (try dsimp only)))
  (k_with "call builtin:isinstance" => (k_here; (with_reducible show wpAny _ _ (call _ [Value.ref _, Value.ref 448]) _ _ _); k_dflt (refine isi_one Cl.coll (by k_asm) (by k_asm) (by with_reducible assumption) ?_); intro tkI; (try dsimp only)))
  (k_with "call builtin:isinstance" => (k_here; (with_reducible show wpAny _ _ (call _ [Value.ref _, Value.ref 164]) _ _ _); k_dflt (refine isi_one Cl.var (by k_asm) (by k_asm) (by with_reducible assumption) ?_); intro tkI; (try dsimp only)))
  (k_with "call builtin:isinstance" => (k_here; (with_reducible show wpAny _ _ (call _ [Value.ref _, Value.ref 138]) _ _ _); k_dflt (refine isi_one Cl.name (by k_asm) (by k_asm) (by with_reducible assumption) ?_); intro tkI; (try dsimp only)))
  (k_with "call builtin:isinstance" => (k_here; (with_reducible show wpAny _ _ (call _ [Value.ref _, Value.ref 422]) _ _ _); k_dflt (refine isi_one Cl.cast (by k_asm) (by k_asm) (by with_reducible assumption) ?_); intro tkI; (try dsimp only)))
  (k_with "getAttr ref" => (k_here; (rename (_ : Cl) = _ => e9); subst e9; (rename NodeIn _ _ _ _ _ => h9); cases h9; all_goals (try dsimp only)))
  (k_with "call ref" => (k_here; (with_reducible show wpAny _ _ (call (Value.ref 564) [_]) _ _ _); k_dflt (refine' ct_use (children_ct ?q91hn) ?q91lR ?q91lB ?q91lF ?q91lX ?q91lN ?q91lT ?q91lk ?q91ld ?q91lu ?_; (case q91hn => exact NodeIn.mono (by assumption) (Fr.keep (by k_asm))); (case q91lR => exact fun _ _ h => h.1); (case q91lB => k_asm); (case q91lF => k_asm); (case q91lX => k_asm); (case q91lN => k_asm); (case q91lT => k_asm); (case q91lk => first | exact rfl | assumption); (case q91ld => k_room); (case q91lu => k_units)); intro r9 h' tk9 hr9 hs9 F' N'; (replace hr9 := FreshL.out hr9); obtain ⟨_, l9, n9, he9, hl9, hg9⟩ := hr9; subst he9; (have hN9 := fresh_news (by k_asm) (by k_asm) hs9 hl9 hg9); clear N'; obtain ⟨N', hn9⟩ := hN9; (try dsimp only)))
  (k_with "call builtin:isinstance" => (k_here; (with_reducible show wpAny _ _ (call _ [Value.ref _, Value.ref _]) _ _ _); (rename NodeIn _ _ _ _ _ => lH9); (rename Fr _ _ _ _ => lF'); (rename News _ _ _ _ => lN'); with_unfolding_all refine isi_tup [Cl.insel, Cl.ex, Cl.scal] lF' (by k_asm) lN' lH9 (List.Mem.head _) ?_; intro tkI; (try dsimp only)))
  (k_with "eval ListComp" => (k_here; (rename TreesIn _ _ _ => lS9); (with_unfolding_all refine' comp_trees (fun t => Value.bool (hasSubT t)) lS9 ?q93q1 ?q93q2 ?q93q3 ?q93q4 ?q93q5 ?_; (case q93q1 => rfl); (case q93q2 => decide); (case q93q3 => rfl); (case q93q4 => decide); (case q93q5 => rfl); k_whole)))
  (k_with "pyIter ref" => (k_here; (rename Fr _ _ _ _ => lF'); (rename News _ _ _ _ => lN'); (rename TreesIn _ _ _ => lS9); (rename NodeIn _ _ _ _ _ => lH9); (with_unfolding_all refine comp_list rfl lF' lN' (isl_news lN' (List.Mem.head _)) (kids_line lH9) ?_ ?_ ?_); (intro C9 v9 s9 m9 E9 hv9 hn9 hm9 hs9 F' N'; exact test_nil); (intro C9 v9 s9 m9 E9 hv9 hp9 hn9 hm9 hs9 F' N'; (obtain ⟨t9, hT9, hd9⟩ := tree_of lS9 hv9)); rotate_left; (intro D9 n9 h9 tk9 ys9 F' N' hD9 hs9 hP9; (have e9 := ofTree_fil hP9 lS9; subst e9))))
  (k_with "EltEnd" => exact elt_tree (by assumption) (by assumption))
  (k_with "call builtin:any" => (k_here; (rename Fr _ _ _ _ => lF'); (rename News _ _ _ _ => lN'); refine any_trees rfl lF' lN' (isl_news lN' (List.Mem.head _)) ?_; (intro h9 tk9 hs9 F' N')))
  (k_with "call ref" => (k_here; (with_reducible show wpAny _ _ (call (Value.ref 583) [_]) _ _ _); (rename Tag 583 _ => ih9); k_dflt (refine' ct_use (ih9.out _ _ _ (Nat.le_trans (by assumption) (by assumption)) (TreeIn.mono (by assumption) (Fr.keep (by k_asm)))) ?q97lR ?q97lB ?q97lF ?q97lX ?q97lN ?q97lT ?q97lk ?q97ld ?q97lu ?_; (case q97lR => exact fun _ _ h => h.1); (case q97lB => k_asm); (case q97lF => k_asm); (case q97lX => k_asm); (case q97lN => k_asm); (case q97lT => k_asm); (case q97lk => first | exact rfl | assumption); (case q97ld => k_room); (case q97lu => k_units)); intro r9 h' tk9 hr9 hs9 F' N'; obtain ⟨_, he9⟩ := hr9; subst he9; (try dsimp only)))
  intro n
  induction n with
  | zero => intro t v H hdep; cases t; simp [depthT] at hdep
  | succ n ih =>
  intro t v H hdep hT
  cases hT with
  | @mk a c k vs ts Hn Hs =>
  replace hdep : depthL ts ≤ n := by simpa [depthT] using hdep
  replace ih := Tag.mk (k := 583) ih
  intro mean mg mb dp un gd cn cs a₁ ccd cl outer A₀ base h₀ L m s Q E hH B F X N T hk hd hu hret
  revert X; k_fill; intro X
  subst hH
  refine wpAny_call ?_
  k_dflt (refine' code_defG (binds := [(Str.ofString "expr", .ref a)]) ?k1 ?k2 ?k3 N ?k5 ?kA ?kF ?kK ?k6 ?k7 ?k8 ?k9 ?kB ?_ ?c2 ?c3 ?c4 ?c5; (case kA => exact rfl); (case kF => exact rfl); (case kK => assumption); (case k1 => k_asm); (case k2 => k_asm); (case k3 => k_asm); (case k5 => k_asm); (case k6 => k_is); (case k7 => k_is); (case k8 => k_room); (case k9 => first | exact BindsTo.of_eq rfl | exact binds_K (by k_in) rfl (by k_is) rfl rfl rfl); (case c5 => decide); (case kB => exact locs rfl); (case c2 => exact rfl); (case c3 => exact rfl); (case c4 => exact rfl); k_whole)
  intro g' L' h' FG' F' N' B' X' T' G'
  (try dsimp only [List.reverse_cons, List.reverse_nil, List.nil_append, List.cons_append] at F'); (try dsimp only); (refine (?_ : let A9 : Around := _; wpAny _ A9 _ _ _ _); intro A9); (try k_fold)
  replace Hn := Hn.mono (gsub_all G')
  replace Hs := Hs.mono (gsub_all G')
  k_steps
  all_goals (refine hret _ _ _ ⟨stay_of G' (by assumption), ?_⟩; first | exact sub_in (by assumption) (by assumption) | exact sub_out (by assumption) (by assumption) (by assumption))
theorem fits_ct {w : World} {H : Heap} (a : Addr) (lo hi : Int) (u1 u2 : Tok) (n : Nat) (ha : H.get? a = some (tupO [.int lo u1, .int hi u2] n)) (k : Int) (tk : Tok) : Ct w H 35 [.ref a, .int k tk] 3 40 [] (fun h' r => Stay H h' ∧ r = .bool (decide (lo ≤ k) && decide (k ≤ hi))) := by
  w_top off
  k_with_none
  (k_with "subscriptTail Name Constant ref int" => (k_here; k_dflt (refine' item_tupleT (ist_base (by k_asm) (by assumption)) ?q98ka ?q98kb ?q98kc ?q98kd ?_; (case q98ka => decide); (case q98kb => decide); (case q98kc => rfl); (case q98kd => rfl); k_whole)))
  intro mean mg mb dp un gd cn cs a₁ ccd cl outer A₀ base h₀ L m s Q E hH B F X N T hk hd hu hret
  revert X; k_fill; intro X
  subst hH
  refine wpAny_call ?_
  k_dflt (refine' code_defG (binds := [(Str.ofString "bounds", .ref a), (Str.ofString "many", .int k tk)]) ?k1 ?k2 ?k3 N ?k5 ?kA ?kF ?kK ?k6 ?k7 ?k8 ?k9 ?kB ?_ ?c2 ?c3 ?c4 ?c5; (case kA => exact rfl); (case kF => exact rfl); (case kK => assumption); (case k1 => k_asm); (case k2 => k_asm); (case k3 => k_asm); (case k5 => k_asm); (case k6 => k_is); (case k7 => k_is); (case k8 => k_room); (case k9 => first | exact BindsTo.of_eq rfl | exact binds_K (by k_in) rfl (by k_is) rfl rfl rfl); (case c5 => decide); (case kB => exact locs rfl); (case c2 => exact rfl); (case c3 => exact rfl); (case c4 => exact rfl); k_whole)
  intro g' L' h' FG' F' N' B' X' T' G'
  (try dsimp only [List.reverse_cons, List.reverse_nil, List.nil_append, List.cons_append] at F'); (try dsimp only); (refine (?_ : let A9 : Around := _; wpAny _ A9 _ _ _ _); intro A9); (try k_fold)
  replace ha := gsub_all G' _ _ ha
  k_steps
  all_goals (refine hret _ _ _ ⟨stay_of G' (by assumption), ?_⟩; first | rfl | (simp_all; done) | (congr 1; simp; omega))
theorem isagg_ct {w : World} {H : Heap} (f : Str) (hf : f ∈ foldedNames) (hl : f.length ≤ 100) (t : Tok) (k : Int) (tk : Tok) (st : Bool) : Ct w H 43 [.str f t, .int k tk, .bool st] 7 100 [] (fun h' r => Stay H h' ∧ r = .bool (aggF f k st)) := by
  w_top off
  k_with_none
  (k_with "call ref" => (k_here; (with_reducible show wpAny _ _ (call (Value.ref 35) [_, _]) _ _ _); k_dflt (refine' ct_use (fits_ct _ _ _ _ _ _ ?q99ha _ _) ?q99lR ?q99lB ?q99lF ?q99lX ?q99lN ?q99lT ?q99lk ?q99ld ?q99lu ?_; (case q99ha => exact Fr.keep (by k_asm) _ _ (by assumption)); (case q99lR => exact fun _ _ h => h.1); (case q99lB => k_asm); (case q99lF => k_asm); (case q99lX => k_asm); (case q99lN => k_asm); (case q99lT => k_asm); (case q99lk => first | exact rfl | assumption); (case q99ld => k_room); (case q99lu => k_units)); intro r9 h' tk9 hr9 hs9 F' N'; obtain ⟨_, he9⟩ := hr9; subst he9; (try dsimp only)))
  (k_with "compareOp In str ref" => (k_here; (have hf9 := lower_folded _ (by assumption)); rw [hf9]; refine in_agg (by assumption) (by k_asm) (by k_asm) ?_))
  (k_with "subscriptTail" => (k_here; (have hf9 := lower_folded _ (by assumption)); rw [hf9]; refine item_agg (by assumption) (by assumption) (by k_asm) (by k_asm) ?_; intro a9 lo9 hi9 u91 u92 n9 he9 hg9))
  intro mean mg mb dp un gd cn cs a₁ ccd cl outer A₀ base h₀ L m s Q E hH B F X N T hk hd hu hret
  revert X; k_fill; intro X
  subst hH
  refine wpAny_call ?_
  k_dflt (refine' code_defG (binds := [(Str.ofString "name", .str f t), (Str.ofString "many", .int k tk), (Str.ofString "star", .bool st)]) ?k1 ?k2 ?k3 N ?k5 ?kA ?kF ?kK ?k6 ?k7 ?k8 ?k9 ?kB ?_ ?c2 ?c3 ?c4 ?c5; (case kA => exact rfl); (case kF => exact rfl); (case kK => assumption); (case k1 => k_asm); (case k2 => k_asm); (case k3 => k_asm); (case k5 => k_asm); (case k6 => k_is); (case k7 => k_is); (case k8 => k_room); (case k9 => first | exact BindsTo.of_eq rfl | exact binds_K (by k_in) rfl (by k_is) rfl rfl rfl); (case c5 => decide); (case kB => exact locs rfl); (case c2 => exact rfl); (case c3 => exact rfl); (case c4 => exact rfl); k_whole)
  intro g' L' h' FG' F' N' B' X' T' G'
  (try dsimp only [List.reverse_cons, List.reverse_nil, List.nil_append, List.cons_append] at F'); (try dsimp only); (refine (?_ : let A9 : Around := _; wpAny _ A9 _ _ _ _); intro A9); (try k_fold)
  have hlow := lower_folded f hf
  k_steps
  all_goals (refine hret _ _ _ ⟨stay_of G' (by assumption), ?_⟩; first | (unfold aggF; simp_all; done) | ((rename (Option.isSome _ = false) => q9); (have e9 : st = false := by assumption); subst e9; rw [q9, aggF_no q9]))
theorem iscall_ct {w : World} {H : Heap} {a : Addr} {c : Cl} {k : Kd} {vs : List Value} (Hn : NodeIn (atH H) a c k vs) : Ct w H 571 [.ref a] 10 160 [] (fun h' r => Stay H h' ∧ r = .bool (decide (k = .agg))) := by
  w_top off
  k_with_none
  (k_with "call builtin:isinstance" => (k_here; (with_reducible show wpAny _ _ (call _ [Value.ref _, Value.ref 190]) _ _ _); k_dflt (refine isi_one Cl.un (by k_asm) (by k_asm) (by with_reducible assumption) ?_); intro tkI; (try dsimp only)))
  (k_with "call builtin:isinstance" => (k_here; (with_reducible show wpAny _ _ (call _ [Value.ref _, Value.ref 216]) _ _ _); k_dflt (refine isi_one Cl.bin (by k_asm) (by k_asm) (by with_reducible assumption) ?_); intro tkI; (try dsimp only)))
  (k_with "call builtin:isinstance" => (k_here; (with_reducible show wpAny _ _ (call _ [Value.ref _, Value.ref 242]) _ _ _); k_dflt (refine isi_one Cl.betw (by k_asm) (by k_asm) (by with_reducible assumption) ?_); intro tkI; (try dsimp only)))
  (k_with "call builtin:isinstance" => (k_here; (with_reducible show wpAny _ _ (call _ [Value.ref _, Value.ref 268]) _ _ _); k_dflt (refine isi_one Cl.inl (by k_asm) (by k_asm) (by with_reducible assumption) ?_); intro tkI; (try dsimp only)))
  (k_with "call builtin:isinstance" => (k_here; (with_reducible show wpAny _ _ (call _ [Value.ref _, Value.ref 370]) _ _ _); k_dflt (refine isi_one Cl.case (by k_asm) (by k_asm) (by with_reducible assumption) ?_); intro tkI; (try dsimp only)))
  (k_with "call builtin:isinstance" => (k_here; (with_reducible show wpAny _ _ (call _ [Value.ref _, Value.ref 396]) _ _ _); k_dflt (refine isi_one Cl.call (by k_asm) (by k_asm) (by with_reducible assumption) ?_); intro tkI; (try dsimp only)))
  (k_with "call builtin:isinstance" => (k_here; (with_reducible show wpAny _ _ (call _ [Value.ref _, Value.ref 500]) _ _ _); k_dflt (refine isi_one Cl.mat (by k_asm) (by k_asm) (by with_reducible assumption) ?_); intro tkI; (try dsimp only)))
  (k_with "call builtin:isinstance" => (k_here; (with_reducible show wpAny _ _ (call _ [Value.ref _, Value.ref 448]) _ _ _); k_dflt (refine isi_one Cl.coll (by k_asm) (by k_asm) (by with_reducible assumption) ?_); intro tkI; (try dsimp only)))
  (k_with "call builtin:isinstance" => (k_here; (with_reducible show wpAny _ _ (call _ [Value.ref _, Value.ref 164]) _ _ _); k_dflt (refine isi_one Cl.var (by k_asm) (by k_asm) (by with_reducible assumption) ?_); intro tkI; (try dsimp only)))
  (k_with "call builtin:isinstance" => (k_here; (with_reducible show wpAny _ _ (call _ [Value.ref _, Value.ref 138]) _ _ _); k_dflt (refine isi_one Cl.name (by k_asm) (by k_asm) (by with_reducible assumption) ?_); intro tkI; (try dsimp only)))
  (k_with "call builtin:isinstance" => (k_here; (with_reducible show wpAny _ _ (call _ [Value.ref _, Value.ref 422]) _ _ _); k_dflt (refine isi_one Cl.cast (by k_asm) (by k_asm) (by with_reducible assumption) ?_); intro tkI; (try dsimp only)))
  (k_with "getAttr ref" => (k_here; (rename (_ : Cl) = _ => e9); subst e9; (rename NodeIn _ _ _ _ _ => h9); cases h9; all_goals (try dsimp only)))
  (k_with "call ref" => (k_here; (with_reducible show wpAny _ _ (call (Value.ref 557) [_]) _ _ _); k_dflt (refine' ct_use (fold_ct _ _ ?q114hx) ?q114lR ?q114lB ?q114lF ?q114lX ?q114lN ?q114lT ?q114lk ?q114ld ?q114lu ?_; (case q114hx => exact name_size (by assumption)); (case q114lR => exact fun _ _ h => h.1); (case q114lB => k_asm); (case q114lF => k_asm); (case q114lX => k_asm); (case q114lN => k_asm); (case q114lT => k_asm); (case q114lk => first | exact rfl | assumption); (case q114ld => k_room); (case q114lu => k_units)); intro r9 h' tk9 hr9 hs9 F' N'; obtain ⟨_, t9, he9⟩ := hr9; subst he9; (try dsimp only)))
  (k_with "call ref" => (k_here; (with_reducible show wpAny _ _ (call (Value.ref 43) [_, _, _]) _ _ _); k_dflt (refine' ct_use (isagg_ct _ ?q115hf ?q115hl _ _ _ _) ?q115lR ?q115lB ?q115lF ?q115lX ?q115lN ?q115lT ?q115lk ?q115ld ?q115lu ?_; (case q115hf => assumption); (case q115hl => exact folded_size _ (by assumption)); (case q115lR => exact fun _ _ h => h.1); (case q115lB => k_asm); (case q115lF => k_asm); (case q115lX => k_asm); (case q115lN => k_asm); (case q115lT => k_asm); (case q115lk => first | exact rfl | assumption); (case q115ld => k_room); (case q115lu => k_units)); intro r9 h' tk9 hr9 hs9 F' N'; obtain ⟨_, he9⟩ := hr9; subst he9; (try dsimp only)))
  (k_with "call builtin:len" => (k_here; (with_reducible show wpAny _ _ (call (Value.builtin "len") [Value.ref _]) _ _ _); refine call_len_list (isl_base (by k_asm) (by assumption)) (by simp only [List.size_toArray]; omega) ?_; rw [List.size_toArray]))
  intro mean mg mb dp un gd cn cs a₁ ccd cl outer A₀ base h₀ L m s Q E hH B F X N T hk hd hu hret
  revert X; k_fill; intro X
  subst hH
  refine wpAny_call ?_
  k_dflt (refine' code_defG (binds := [(Str.ofString "expr", .ref a)]) ?k1 ?k2 ?k3 N ?k5 ?kA ?kF ?kK ?k6 ?k7 ?k8 ?k9 ?kB ?_ ?c2 ?c3 ?c4 ?c5; (case kA => exact rfl); (case kF => exact rfl); (case kK => assumption); (case k1 => k_asm); (case k2 => k_asm); (case k3 => k_asm); (case k5 => k_asm); (case k6 => k_is); (case k7 => k_is); (case k8 => k_room); (case k9 => first | exact BindsTo.of_eq rfl | exact binds_K (by k_in) rfl (by k_is) rfl rfl rfl); (case c5 => decide); (case kB => exact locs rfl); (case c2 => exact rfl); (case c3 => exact rfl); (case c4 => exact rfl); k_whole)
  intro g' L' h' FG' F' N' B' X' T' G'
  (try dsimp only [List.reverse_cons, List.reverse_nil, List.nil_append, List.cons_append] at F'); (try dsimp only); (refine (?_ : let A9 : Around := _; wpAny _ A9 _ _ _ _); intro A9); (try k_fold)
  replace Hn := Hn.mono (gsub_all G')
  k_steps
  all_goals (refine hret _ _ _ ⟨stay_of G' (by assumption), ?_⟩; first | exact kd_agg _ | exact kd_not Hn (by assumption))
theorem aggs_ct {w : World} : ∀ (n : Nat) (t : T) (v : Value) (H : Heap), depthT t ≤ n → (wordsT t).length ≤ 10000 → TreeIn (atH H) v t → Ct w H 578 [v] (4 * n + 10) (60 * n + 200) [] (FreshL ((aggsT t).map Value.ref) H) := by
  w_top off
  k_with_none
  (k_with "call builtin:isinstance" => (k_here; (with_reducible show wpAny _ _ (call _ [Value.ref _, Value.ref 190]) _ _ _); k_dflt (refine isi_one Cl.un (by k_asm) (by k_asm) (by with_reducible assumption) ?_); intro tkI; (try dsimp only)))
  (k_with "call builtin:isinstance" => (k_here; (with_reducible show wpAny _ _ (call _ [Value.ref _, Value.ref 216]) _ _ _); k_dflt (refine isi_one Cl.bin (by k_asm) (by k_asm) (by with_reducible assumption) ?_); intro tkI; (try dsimp only)))
  (k_with "call builtin:isinstance" => (k_here; (with_reducible show wpAny _ _ (call _ [Value.ref _, Value.ref 242]) _ _ _); k_dflt (refine isi_one Cl.betw (by k_asm) (by k_asm) (by with_reducible assumption) ?_); intro tkI; (try dsimp only)))
  (k_with "call builtin:isinstance" => (k_here; (with_reducible show wpAny _ _ (call _ [Value.ref _, Value.ref 268]) _ _ _); k_dflt (refine isi_one Cl.inl (by k_asm) (by k_asm) (by with_reducible assumption) ?_); intro tkI; (try dsimp only)))
  (k_with "call builtin:isinstance" => (k_here; (with_reducible show wpAny _ _ (call _ [Value.ref _, Value.ref 370]) _ _ _); k_dflt (refine isi_one Cl.case (by k_asm) (by k_asm) (by with_reducible assumption) ?_); intro tkI; (try dsimp only)))
  (k_with "call builtin:isinstance" => (k_here; (with_reducible show wpAny _ _ (call _ [Value.ref _, Value.ref 396]) _ _ _); k_dflt (refine isi_one Cl.call (by k_asm) (by k_asm) (by with_reducible assumption) ?_); intro tkI; (try dsimp only)))
  (k_with "call builtin:isinstance" => (k_here; (with_reducible show wpAny _ _ (call _ [Value.ref _, Value.ref 500]) _ _ _); k_dflt (refine isi_one Cl.mat (by k_asm) (by k_asm) (by with_reducible assumption) ?_); intro tkI; (try dsimp only)))
  (k_with "call builtin:isinstance" => (k_here; (with_reducible show wpAny _ _ (call _ [Value.ref _, Value.ref 448]) _ _ _); k_dflt (refine isi_one Cl.coll (by k_asm) (by k_asm) (by with_reducible assumption) ?_); intro tkI; (try dsimp only)))
  (k_with "call builtin:isinstance" => (k_here; (with_reducible show wpAny _ _ (call _ [Value.ref _, Value.ref 164]) _ _ _); k_dflt (refine isi_one Cl.var (by k_asm) (by k_asm) (by with_reducible assumption) ?_); intro tkI; (try dsimp only)))
  (k_with "call builtin:isinstance" => (k_here; (with_reducible show wpAny _ _ (call _ [Value.ref _, Value.ref 138]) _ _ _); k_dflt (refine isi_one Cl.name (by k_asm) (by k_asm) (by with_reducible assumption) ?_); intro tkI; (try dsimp only)))
  (k_with "call builtin:isinstance" => (k_here; (with_reducible show wpAny _ _ (call _ [Value.ref _, Value.ref 422]) _ _ _); k_dflt (refine isi_one Cl.cast (by k_asm) (by k_asm) (by with_reducible assumption) ?_); intro tkI; (try dsimp only)))
  (k_with "getAttr ref" => (k_here; (rename (_ : Cl) = _ => e9); subst e9; (rename NodeIn _ _ _ _ _ => h9); cases h9; all_goals (try dsimp only)))
  (k_with "call ref" => (k_here; (with_reducible show wpAny _ _ (call (Value.ref 564) [_]) _ _ _); k_dflt (refine' ct_use (children_ct ?q129hn) ?q129lR ?q129lB ?q129lF ?q129lX ?q129lN ?q129lT ?q129lk ?q129ld ?q129lu ?_; (case q129hn => exact NodeIn.mono (by assumption) (Fr.keep (by k_asm))); (case q129lR => exact fun _ _ h => h.1); (case q129lB => k_asm); (case q129lF => k_asm); (case q129lX => k_asm); (case q129lN => k_asm); (case q129lT => k_asm); (case q129lk => first | exact rfl | assumption); (case q129ld => k_room); (case q129lu => k_units)); intro r9 h' tk9 hr9 hs9 F' N'; (replace hr9 := FreshL.out hr9); obtain ⟨_, l9, n9, he9, hl9, hg9⟩ := hr9; subst he9; (have hN9 := fresh_news (by k_asm) (by k_asm) hs9 hl9 hg9); clear N'; obtain ⟨N', hn9⟩ := hN9; (try dsimp only)))
  (k_with "exec For Name Call cons nil" => (k_here; (rename Fr _ _ _ _ => lF'); (with_unfolding_all refine' For_turns lF' ?_; k_whole)))
  (k_with "call ref" => (k_here; (with_reducible show wpAny _ _ (call (Value.ref 571) [_]) _ _ _); k_dflt (refine' ct_use (iscall_ct ?q131hn) ?q131lR ?q131lB ?q131lF ?q131lX ?q131lN ?q131lT ?q131lk ?q131ld ?q131lu ?_; (case q131hn => exact NodeIn.mono (by assumption) (Fr.keep (by k_asm))); (case q131lR => exact fun _ _ h => h.1); (case q131lB => k_asm); (case q131lF => k_asm); (case q131lX => k_asm); (case q131lN => k_asm); (case q131lT => k_asm); (case q131lk => first | exact rfl | assumption); (case q131ld => k_room); (case q131lu => k_units)); intro r9 h' tk9 hr9 hs9 F' N'; obtain ⟨_, he9⟩ := hr9; subst he9; (try dsimp only)))
  (k_with "call ref" => (k_here; (with_reducible show wpAny _ _ (call (Value.ref 578) [_]) _ _ _); (rename Tag 578 _ => ih9); k_dflt (refine' ct_use (ih9.out _ _ _ (Nat.le_trans (by assumption) (by assumption)) (Nat.le_trans (turn_len (by assumption)).1 (by assumption)) (TreeIn.mono (by assumption) (Fr.keep (by k_asm)))) ?q132lR ?q132lB ?q132lF ?q132lX ?q132lN ?q132lT ?q132lk ?q132ld ?q132lu ?_; (case q132lR => exact fun _ _ h => h.1); (case q132lB => k_asm); (case q132lF => k_asm); (case q132lX => k_asm); (case q132lN => k_asm); (case q132lT => k_asm); (case q132lk => first | exact rfl | assumption); (case q132ld => k_room); (case q132lu => k_units)); intro r9 h' tk9 hr9 hs9 F' N'; (replace hr9 := FreshL.out hr9); obtain ⟨_, l9, n9, he9, hl9, hg9⟩ := hr9; subst he9; (have hN9 := fresh_news (by k_asm) (by k_asm) hs9 hl9 hg9); clear N'; obtain ⟨N', hn9⟩ := hN9; (try dsimp only)))
  (k_with "pyIter ref" => (k_here; (with_reducible show wpAny _ _ (pyIter (Value.ref _)) (fun it s₂ => TurnsAt _ _ _ _ _ _ _ _ _ it s₂) _ _); (rename Fr _ _ _ _ => lF'); (rename News _ _ _ _ => lN'); (with_unfolding_all refine for_fill (Str.ofString "child") (Str.ofString "found") (fun us => (aggsL us).map Value.ref) (by rfl) rfl lF' (news_swap lN') (List.Mem.head _) (by rfl) (by assumption) ?_ ?_); (intro I9 it9 v9 t9 us9 f9 n9 h9 tk9 own9 u9 hT9 hd9 hr9 hI9 hf9 hit9 F' N'; (have e9 := TreeIn.ref hT9; subst e9)); rotate_left; (intro f9 n9 h9 tk9 u9 F' N')))
  (k_with "TurnEnd" => first | (refine TurnEnd.out ?_; dsimp only) | (refine fill_end (val := fun us => (aggsL us).map Value.ref) (x := Str.ofString "child") (y := Str.ofString "found") (by k_asm) (by k_asm) (by assumption) ?_ (by assumption) (by assumption) aggs_val (if_pos rfl) ?_; (intro p hp; exact List.mem_cons_of_mem _ (List.mem_cons_of_mem _ hp)); (intro z h1 h2; simp [h1, h2])))
  (k_with "binaryOp Add ref ref" => (k_here; (with_reducible show wpAny _ _ (binaryOp _ (Value.ref _) (Value.ref _)) _ _ _); k_dflt (refine' my_add ?q135lF ?q135lN ?q135la ?q135lb ?q135lz ?_; (case q135lF => k_asm); (case q135lN => k_asm); (case q135la => k_mem); (case q135lb => k_mem); (case q135lz => exact aggs_add (by assumption) (by assumption))); intro D' h' F' N' l1))
  intro n
  induction n with
  | zero => intro t v H hdep; cases t; simp [depthT] at hdep
  | succ n ih =>
  intro t v H hdep hwd hT
  cases hT with
  | @mk a c k vs ts Hn Hs =>
  replace hdep : depthL ts ≤ n := by simpa [depthT] using hdep
  replace hwd := Nat.le_trans (words_le Hn Hs) hwd
  replace ih := Tag.mk (k := 578) ih
  intro mean mg mb dp un gd cn cs a₁ ccd cl outer A₀ base h₀ L m s Q E hH B F X N T hk hd hu hret
  revert X; k_fill; intro X
  subst hH
  refine wpAny_call ?_
  k_dflt (refine' code_defG (binds := [(Str.ofString "expr", .ref a)]) ?k1 ?k2 ?k3 N ?k5 ?kA ?kF ?kK ?k6 ?k7 ?k8 ?k9 ?kB ?_ ?c2 ?c3 ?c4 ?c5; (case kA => exact rfl); (case kF => exact rfl); (case kK => assumption); (case k1 => k_asm); (case k2 => k_asm); (case k3 => k_asm); (case k5 => k_asm); (case k6 => k_is); (case k7 => k_is); (case k8 => k_room); (case k9 => first | exact BindsTo.of_eq rfl | exact binds_K (by k_in) rfl (by k_is) rfl rfl rfl); (case c5 => decide); (case kB => exact locs rfl); (case c2 => exact rfl); (case c3 => exact rfl); (case c4 => exact rfl); k_whole)
  intro g' L' h' FG' F' N' B' X' T' G'
  (try dsimp only [List.reverse_cons, List.reverse_nil, List.nil_append, List.cons_append] at F'); (try dsimp only); (refine (?_ : let A9 : Around := _; wpAny _ A9 _ _ _ _); intro A9); (try k_fold)
  replace Hn := Hn.mono (gsub_all G')
  replace Hs := Hs.mono (gsub_all G')
  k_steps
  all_goals (refine hret _ _ _ ?_; first | (rename (_ : Kd) = _ => e9; subst e9; exact freshL_of G' (by assumption) (by assumption) (List.Mem.head _)) | (rw [aggs_other Hn Hs (by assumption)]; exact freshL_of G' (by assumption) (by assumption) (List.Mem.head _)))
theorem names_ct {w : World} : ∀ (n : Nat) (t : T) (v : Value) (H : Heap), depthT t ≤ n → (wordsT t).length ≤ 10000 → TreeIn (atH H) v t → Ct w H 595 [v] (4 * n + 10) (60 * n + 200) [] (FreshL ((namesT t).map Value.ref) H) := by
  w_top off
  k_with_none
  (k_with "call builtin:isinstance" => (k_here; (with_reducible show wpAny _ _ (call _ [Value.ref _, Value.ref 190]) _ _ _); k_dflt (refine isi_one Cl.un (by k_asm) (by k_asm) (by with_reducible assumption) ?_); intro tkI; (try dsimp only)))
  (k_with "call builtin:isinstance" => (k_here; (with_reducible show wpAny _ _ (call _ [Value.ref _, Value.ref 216]) _ _ _); k_dflt (refine isi_one Cl.bin (by k_asm) (by k_asm) (by with_reducible assumption) ?_); intro tkI; (try dsimp only)))
  (k_with "call builtin:isinstance" => (k_here; (with_reducible show wpAny _ _ (call _ [Value.ref _, Value.ref 242]) _ _ _); k_dflt (refine isi_one Cl.betw (by k_asm) (by k_asm) (by with_reducible assumption) ?_); intro tkI; (try dsimp only)))
  (k_with "call builtin:isinstance" => (k_here; (with_reducible show wpAny _ _ (call _ [Value.ref _, Value.ref 268]) _ _ _); k_dflt (refine isi_one Cl.inl (by k_asm) (by k_asm) (by with_reducible assumption) ?_); intro tkI; (try dsimp only)))
  (k_with "call builtin:isinstance" => (k_here; (with_reducible show wpAny _ _ (call _ [Value.ref _, Value.ref 370]) _ _ _); k_dflt (refine isi_one Cl.case (by k_asm) (by k_asm) (by with_reducible assumption) ?_); intro tkI; (try dsimp only)))
  (k_with "call builtin:isinstance" => (k_here; (with_reducible show wpAny _ _ (call _ [Value.ref _, Value.ref 396]) _ _ _); k_dflt (refine isi_one Cl.call (by k_asm) (by k_asm) (by with_reducible assumption) ?_); intro tkI; (try dsimp only)))
  (k_with "call builtin:isinstance" => (k_here; (with_reducible show wpAny _ _ (call _ [Value.ref _, Value.ref 500]) _ _ _); k_dflt (refine isi_one Cl.mat (by k_asm) (by k_asm) (by with_reducible assumption) ?_); intro tkI; (try dsimp only)))
  (k_with "call builtin:isinstance" => (k_here; (with_reducible show wpAny _ _ (call _ [Value.ref _, Value.ref 448]) _ _ _); k_dflt (refine isi_one Cl.coll (by k_asm) (by k_asm) (by with_reducible assumption) ?_); intro tkI; (try dsimp only)))
  (k_with "call builtin:isinstance" => (k_here; (with_reducible show wpAny _ _ (call _ [Value.ref _, Value.ref 164]) _ _ _); k_dflt (refine isi_one Cl.var (by k_asm) (by k_asm) (by with_reducible assumption) ?_); intro tkI; (try dsimp only)))
  (k_with "call builtin:isinstance" => (k_here; (with_reducible show wpAny _ _ (call _ [Value.ref _, Value.ref 138]) _ _ _); k_dflt (refine isi_one Cl.name (by k_asm) (by k_asm) (by with_reducible assumption) ?_); intro tkI; (try dsimp only)))
  (k_with "call builtin:isinstance" => (k_here; (with_reducible show wpAny _ _ (call _ [Value.ref _, Value.ref 422]) _ _ _); k_dflt (refine isi_one Cl.cast (by k_asm) (by k_asm) (by with_reducible assumption) ?_); intro tkI; (try dsimp only)))
  (k_with "getAttr ref" => (k_here; (rename (_ : Cl) = _ => e9); subst e9; (rename NodeIn _ _ _ _ _ => h9); cases h9; all_goals (try dsimp only)))
  (k_with "call ref" => (k_here; (with_reducible show wpAny _ _ (call (Value.ref 564) [_]) _ _ _); k_dflt (refine' ct_use (children_ct ?q148hn) ?q148lR ?q148lB ?q148lF ?q148lX ?q148lN ?q148lT ?q148lk ?q148ld ?q148lu ?_; (case q148hn => exact NodeIn.mono (by assumption) (Fr.keep (by k_asm))); (case q148lR => exact fun _ _ h => h.1); (case q148lB => k_asm); (case q148lF => k_asm); (case q148lX => k_asm); (case q148lN => k_asm); (case q148lT => k_asm); (case q148lk => first | exact rfl | assumption); (case q148ld => k_room); (case q148lu => k_units)); intro r9 h' tk9 hr9 hs9 F' N'; (replace hr9 := FreshL.out hr9); obtain ⟨_, l9, n9, he9, hl9, hg9⟩ := hr9; subst he9; (have hN9 := fresh_news (by k_asm) (by k_asm) hs9 hl9 hg9); clear N'; obtain ⟨N', hn9⟩ := hN9; (try dsimp only)))
  (k_with "exec For Name Call cons nil" => (k_here; (rename Fr _ _ _ _ => lF'); (with_unfolding_all refine' For_turns lF' ?_; k_whole)))
  (k_with "call ref" => (k_here; (with_reducible show wpAny _ _ (call (Value.ref 595) [_]) _ _ _); (rename Tag 595 _ => ih9); k_dflt (refine' ct_use (ih9.out _ _ _ (Nat.le_trans (by assumption) (by assumption)) (Nat.le_trans (turn_len (by assumption)).1 (by assumption)) (TreeIn.mono (by assumption) (Fr.keep (by k_asm)))) ?q150lR ?q150lB ?q150lF ?q150lX ?q150lN ?q150lT ?q150lk ?q150ld ?q150lu ?_; (case q150lR => exact fun _ _ h => h.1); (case q150lB => k_asm); (case q150lF => k_asm); (case q150lX => k_asm); (case q150lN => k_asm); (case q150lT => k_asm); (case q150lk => first | exact rfl | assumption); (case q150ld => k_room); (case q150lu => k_units)); intro r9 h' tk9 hr9 hs9 F' N'; (replace hr9 := FreshL.out hr9); obtain ⟨_, l9, n9, he9, hl9, hg9⟩ := hr9; subst he9; (have hN9 := fresh_news (by k_asm) (by k_asm) hs9 hl9 hg9); clear N'; obtain ⟨N', hn9⟩ := hN9; (try dsimp only)))
  (k_with "pyIter ref" => (k_here; (with_reducible show wpAny _ _ (pyIter (Value.ref _)) (fun it s₂ => TurnsAt _ _ _ _ _ _ _ _ _ it s₂) _ _); (rename Fr _ _ _ _ => lF'); (rename News _ _ _ _ => lN'); (with_unfolding_all refine for_fill (Str.ofString "child") (Str.ofString "found") (fun us => (namesL us).map Value.ref) (by rfl) rfl lF' (news_swap lN') (List.Mem.head _) (by rfl) (by assumption) ?_ ?_); (intro I9 it9 v9 t9 us9 f9 n9 h9 tk9 own9 u9 hT9 hd9 hr9 hI9 hf9 hit9 F' N'; (have e9 := TreeIn.ref hT9; subst e9)); rotate_left; (intro f9 n9 h9 tk9 u9 F' N')))
  (k_with "TurnEnd" => first | (refine TurnEnd.out ?_; dsimp only) | (refine fill_end (val := fun us => (namesL us).map Value.ref) (x := Str.ofString "child") (y := Str.ofString "found") (by k_asm) (by k_asm) (by assumption) ?_ (by assumption) (by assumption) names_val (if_pos rfl) ?_; (intro p hp; exact List.mem_cons_of_mem _ (List.mem_cons_of_mem _ hp)); (intro z h1 h2; simp [h1, h2])))
  (k_with "binaryOp Add ref ref" => (k_here; (with_reducible show wpAny _ _ (binaryOp _ (Value.ref _) (Value.ref _)) _ _ _); k_dflt (refine' my_add ?q153lF ?q153lN ?q153la ?q153lb ?q153lz ?_; (case q153lF => k_asm); (case q153lN => k_asm); (case q153la => k_mem); (case q153lb => k_mem); (case q153lz => exact names_add (by assumption) (by assumption))); intro D' h' F' N' l1))
  intro n
  induction n with
  | zero => intro t v H hdep; cases t; simp [depthT] at hdep
  | succ n ih =>
  intro t v H hdep hwd hT
  cases hT with
  | @mk a c k vs ts Hn Hs =>
  replace hdep : depthL ts ≤ n := by simpa [depthT] using hdep
  replace hwd := Nat.le_trans (words_le Hn Hs) hwd
  replace ih := Tag.mk (k := 595) ih
  intro mean mg mb dp un gd cn cs a₁ ccd cl outer A₀ base h₀ L m s Q E hH B F X N T hk hd hu hret
  revert X; k_fill; intro X
  subst hH
  refine wpAny_call ?_
  k_dflt (refine' code_defG (binds := [(Str.ofString "expr", .ref a)]) ?k1 ?k2 ?k3 N ?k5 ?kA ?kF ?kK ?k6 ?k7 ?k8 ?k9 ?kB ?_ ?c2 ?c3 ?c4 ?c5; (case kA => exact rfl); (case kF => exact rfl); (case kK => assumption); (case k1 => k_asm); (case k2 => k_asm); (case k3 => k_asm); (case k5 => k_asm); (case k6 => k_is); (case k7 => k_is); (case k8 => k_room); (case k9 => first | exact BindsTo.of_eq rfl | exact binds_K (by k_in) rfl (by k_is) rfl rfl rfl); (case c5 => decide); (case kB => exact locs rfl); (case c2 => exact rfl); (case c3 => exact rfl); (case c4 => exact rfl); k_whole)
  intro g' L' h' FG' F' N' B' X' T' G'
  (try dsimp only [List.reverse_cons, List.reverse_nil, List.nil_append, List.cons_append] at F'); (try dsimp only); (refine (?_ : let A9 : Around := _; wpAny _ A9 _ _ _ _); intro A9); (try k_fold)
  replace Hn := Hn.mono (gsub_all G')
  replace Hs := Hs.mono (gsub_all G')
  k_steps
  all_goals (refine hret _ _ _ ?_; first | (rename (_ : Cl) = _ => e9; subst e9; cases Hn; exact freshL_of G' (by assumption) (by assumption) (List.Mem.head _)) | (rw [names_other Hn Hs (by assumption)]; exact freshL_of G' (by assumption) (by assumption) (List.Mem.head _)))
theorem all_ct {w : World} {H : Heap} {l : Addr} {vs : List Value} {xs : List Wd} {ps : List (Value × Value)} {nl : Nat} {kd : Str} {kt : Tok} (hl : H.get? l = some (_root_.PySem.W.listOf vs.toArray nl)) (hz : vs.length ≤ sizeLine) (hps : Paired (PairAt H) vs ps) (hw : Paired WdP ps xs) (hkd : KdIs kd) : Ct w H 744 [.ref l, .str kd kt] 5 100 [] (FreshL ((ps.filter (tagIs kd)).map (·.2)) H) := by
  w_top off
  k_with_none
  (k_with "eval ListComp" => (k_here; (with_unfolding_all refine' comp_all ?q154qk ?q154q0 ?q154q1 ?q154q2 ?q154q3 ?q154q4 ?q154q5 ?q154q6 ?q154q7 ?_; (case q154qk => assumption); (case q154q0 => rfl); (case q154q1 => rfl); (case q154q2 => decide); (case q154q3 => rfl); (case q154q4 => decide); (case q154q5 => rfl); (case q154q6 => rfl); (case q154q7 => decide); k_whole)))
  (k_with "PairAskT" => (k_here; (rename Fr _ _ _ _ => lF'); (rename News _ _ _ _ => lN'); (rename Paired (PairAt _) _ _ => lP9); (rename Paired WdP _ _ => lW9); (refine pairAskT_intro (isl_base lF' (by assumption)) (by assumption) (pairs_up lP9 lF'.keep) ?_ ?_ ?_); (intro C9 s9 m9 E9 q9 hq9 hn9 ha9 hb9 hs9; (obtain ⟨w9, t9, v9, hw9, hz9⟩ := tag_of lW9 hq9); subst hw9; (dsimp only at ha9 hb9); (have F' := lF'.keeps hs9); (have N' := lN'.grown hs9)); rotate_left; (intro C9 s9 m9 E9 q9 hq9 hp9 hn9 ha9 hb9 hs9; (obtain ⟨w9, t9, v9, hw9, hz9⟩ := tag_of lW9 hq9); subst hw9; (dsimp only at ha9 hb9); (have F' := lF'.keeps hs9); (have N' := lN'.grown hs9)); rotate_left; (intro D9 n9 h9 tk9 ys9 hD9 hg9 hs9 hP9; (have e9 := isSnd_all hP9; subst e9; (obtain ⟨_, F', N', hN9⟩ := comp_out lF' lN' hD9 ⟨_, hg9⟩ hs9); dsimp only))))
  (k_with "TestEnd" => exact tag_test)
  (k_with "EltEnd2" => exact snd_elt)
  intro mean mg mb dp un gd cn cs a₁ ccd cl outer A₀ base h₀ L m s Q E hH B F X N T hk hd hu hret
  revert X; k_fill; intro X
  subst hH
  refine wpAny_call ?_
  k_dflt (refine' code_defGC (binds := [(Str.ofString "words", .ref l), (Str.ofString "kind", .str kd kt)]) ?k1 ?k2 ?k3 N ?k5 ?kA ?kF ?kK ?k6 ?k7 ?k8 ?k9 ?kB ?kD ?_ ?c2 ?c3 ?c4; (case kA => exact rfl); (case kF => exact rfl); (case kK => assumption); (case k1 => k_asm); (case k2 => k_asm); (case k3 => k_asm); (case k5 => k_asm); (case k6 => k_is); (case k7 => k_is); (case k8 => k_room); (case k9 => first | exact BindsTo.of_eq rfl | exact binds_K (by k_in) rfl (by k_is) rfl rfl rfl); (case kB => exact rfl); (case kD => decide +kernel); (case c2 => exact rfl); (case c3 => exact rfl); (case c4 => exact rfl); k_whole)
  intro g' L' h' tk' cells' FG' F' N' Y' B' X' T' G'
  k_cells Y'
  (try simp only [List.cons_append, List.nil_append] at N'); (try dsimp only); (try k_fold)
  replace hl := gsub_all G' _ _ hl
  replace hps := pairs_up hps (gsub_all G')
  k_steps
  exact hret _ _ _ (freshL_of G' (by assumption) (by assumption) (List.Mem.head _))
end
mutual
theorem first_ct {w : World} {H : Heap} {l : Addr} {vs : List Value} {n : Nat} {v : Value} (hl : H.get? l = some (_root_.PySem.W.listOf vs.toArray n)) (hz : vs.length ≤ 100000) (hv : Tag 7 (∀ u ∈ vs, NoneStr u)) : Ct w H 761 [.ref l, v] 10 200 [] (fun h' r => Stay H h' ∧ r = firstV (vs.filter notNone) v) := by
  w_top off
  k_with_none
  (k_with "eval ListComp" => (k_here; (with_unfolding_all refine' comp_first ?q158q1 ?q158q2 ?q158q3 ?q158q4 ?q158q5 ?_; (case q158q1 => rfl); (case q158q2 => decide); (case q158q3 => rfl); (case q158q4 => decide); (case q158q5 => rfl); k_whole)))
  (k_with "pyIter ref" => (k_here; (rename Fr _ _ _ _ => lF'); (rename News _ _ _ _ => lN'); (with_unfolding_all refine comp_list rfl lF' lN' (isl_base lF' (by assumption)) (by assumption) ?_ ?_ ?_); (intro C9 v9 s9 m9 E9 hv9 hn9 hm9 hs9 F' N'; refine test_one ?_; (rename Tag 7 _ => hv7); (rcases hv7.out _ hv9 with e7 | ⟨c7, t7, e7⟩ <;> subst e7)); rotate_left 2; (intro C9 v9 s9 m9 E9 hv9 hp9 hn9 hm9 hs9 F' N'); rotate_left; (intro D9 n9 h9 tk9 ys9 F' N' hD9 hs9 hP9; (have e9 := isSame_all hP9; subst e9))))
  (k_with "EltEnd" => exact elt_same)
  (k_with "TestEnd" => first | exact test_none | exact test_str)
  (k_with "binaryOp Add ref ref" => (k_here; (with_reducible show wpAny _ _ (binaryOp _ (Value.ref _) (Value.ref _)) _ _ _); k_dflt (refine' my_add ?q162lF ?q162lN ?q162la ?q162lb ?q162lz ?_; (case q162lF => k_asm); (case q162lN => k_asm); (case q162la => k_mem); (case q162lb => k_mem); (case q162lz => exact fil_room (by assumption))); intro D' h' F' N' l1))
  (k_with "subscriptTail" => (k_here; (with_reducible show wpAny _ _ (subscriptTail _ _ (Value.ref _) (Value.int _ _)) _ _ _); (rename News _ _ _ _ => lN'); refine item_listL (isl_news lN' (List.Mem.head _)) (Int.le_refl _) (by decide) firstV_at ?_))
  intro mean mg mb dp un gd cn cs a₁ ccd cl outer A₀ base h₀ L m s Q E hH B F X N T hk hd hu hret
  revert X; k_fill; intro X
  subst hH
  refine wpAny_call ?_
  k_dflt (refine' code_defG (binds := [(Str.ofString "things", .ref l), (Str.ofString "otherwise", v)]) ?k1 ?k2 ?k3 N ?k5 ?kA ?kF ?kK ?k6 ?k7 ?k8 ?k9 ?kB ?_ ?c2 ?c3 ?c4 ?c5; (case kA => exact rfl); (case kF => exact rfl); (case kK => assumption); (case k1 => k_asm); (case k2 => k_asm); (case k3 => k_asm); (case k5 => k_asm); (case k6 => k_is); (case k7 => k_is); (case k8 => k_room); (case k9 => first | exact BindsTo.of_eq rfl | exact binds_K (by k_in) rfl (by k_is) rfl rfl rfl); (case c5 => decide); (case kB => exact locs rfl); (case c2 => exact rfl); (case c3 => exact rfl); (case c4 => exact rfl); k_whole)
  intro g' L' h' FG' F' N' B' X' T' G'
  (try dsimp only [List.reverse_cons, List.reverse_nil, List.nil_append, List.cons_append] at F'); (try dsimp only); (refine (?_ : let A9 : Around := _; wpAny _ A9 _ _ _ _); intro A9); (try k_fold)
  replace hl := gsub_all G' _ _ hl
  have hz' := line_of vs hz
  k_steps
  (rename Fr g' _ _ _ => F9)
  exact hret _ _ _ ⟨stay_of G' F9, rfl⟩
theorem outer_ct {w : World} {H : Heap} {l : Addr} {vs : List Value} {ps : List (Value × Value)} {xs : List Wd} {nl : Nat} (hl : H.get? l = some (_root_.PySem.W.listOf vs.toArray nl)) (hz : xs.length ≤ 10000) (hp : Paired (PairAt H) vs ps) (hw : Paired WdP ps xs) : Ct w H 751 [.ref l] 5 100 [] (FreshL (outV xs) H) := by
  w_top off
  k_with_none
  (k_with "exec For Tuple Name cons nil" => (k_here; (rename Fr _ _ _ _ => lF'); (with_unfolding_all refine' For_turns lF' ?_; k_whole)))
  (k_with "exec For Tuple Name" => (k_here; (rename Fr _ _ _ _ => lF'); (with_unfolding_all refine' For_turns lF' ?_; k_whole)))
  (k_with "pyIter ref" => (k_here; (with_reducible show wpAny _ _ (pyIter (Value.ref _)) (fun it s₂ => TurnsAt _ _ _ _ _ _ _ _ _ it s₂) _ _); (rename Fr _ _ _ _ => lF'); (rename News _ _ _ _ => lN'); (rename Paired (PairAt _) _ _ => lP9); (rename Paired WdP _ _ => lW9); (with_unfolding_all refine for_outer (Str.ofString "word") (Str.ofString "told") (Str.ofString "deep") (by rfl) rfl lF' (news_swap lN') (isl_base lF' (by assumption)) (ne_base lF' (by assumption)) ⟨_, (by assumption)⟩ (by rfl) lP9 lW9 ?_ ?_); rotate_left; (intro n9 d9 t9 h9 tk9 u9 F' N'); rotate_left; (intro I9 it9 p9 us9 x9 n9 d9 t9 h9 tk9 own9 u9 q1 q2 hW9 hp9 hd9 hz9 hI9 hit9 ho9 F' N'); (cases hW9); all_goals (try dsimp only)))
  (k_with "call builtin:list.append" => (k_here; (with_reducible show wpAny _ _ (call (Value.builtin _) [Value.ref _, _]) _ _ _); (rename Fr _ _ _ _ => lF'); (rename News _ _ _ _ => lN'); (with_unfolding_all refine append_K lF' lN' (Upd.head (ne_pre (I := 0) (by k_ne) (by assumption))) ?_ (out_room (by assumption) (by assumption))); intro h' F' N'))
  (k_with "TurnEnd" => (refine out_end (by k_asm) (by k_asm) (by assumption) ?_ (if_pos rfl) ?_ ?_; (first | exact outV_more (by omega) | (refine outV_same ?_; first | rw [outer_var] | rw [outer_sel] | rw [outer_name] | rw [outer_coll] | rw [outer_cls] | rw [outer_opn1 (by omega)])); (first | (rw [outer_snoc, (by assumption : (Mine.outer 0 _).snd = _), outer_var]; simp only [dd_variable_open, dd_variable_close, dd_select_open, dd_select_close, dd_name_open, dd_name_close, dd_collate_open, dd_collate_close, dd_open_open, dd_open_close, dd_close_open, dd_close_close, Bool.false_eq_true, if_true, if_false]; omega) | (rw [outer_snoc, (by assumption : (Mine.outer 0 _).snd = _), outer_sel]; simp only [dd_variable_open, dd_variable_close, dd_select_open, dd_select_close, dd_name_open, dd_name_close, dd_collate_open, dd_collate_close, dd_open_open, dd_open_close, dd_close_open, dd_close_close, Bool.false_eq_true, if_true, if_false]; omega) | (rw [outer_snoc, (by assumption : (Mine.outer 0 _).snd = _), outer_name]; simp only [dd_variable_open, dd_variable_close, dd_select_open, dd_select_close, dd_name_open, dd_name_close, dd_collate_open, dd_collate_close, dd_open_open, dd_open_close, dd_close_open, dd_close_close, Bool.false_eq_true, if_true, if_false]; omega) | (rw [outer_snoc, (by assumption : (Mine.outer 0 _).snd = _), outer_coll]; simp only [dd_variable_open, dd_variable_close, dd_select_open, dd_select_close, dd_name_open, dd_name_close, dd_collate_open, dd_collate_close, dd_open_open, dd_open_close, dd_close_open, dd_close_close, Bool.false_eq_true, if_true, if_false]; omega) | (rw [outer_snoc, (by assumption : (Mine.outer 0 _).snd = _), outer_cls]; simp only [dd_variable_open, dd_variable_close, dd_select_open, dd_select_close, dd_name_open, dd_name_close, dd_collate_open, dd_collate_close, dd_open_open, dd_open_close, dd_close_open, dd_close_close, Bool.false_eq_true, if_true, if_false]; omega) | (rw [outer_snoc, (by assumption : (Mine.outer 0 _).snd = _), outer_opn0 (by assumption)]; simp only [dd_variable_open, dd_variable_close, dd_select_open, dd_select_close, dd_name_open, dd_name_close, dd_collate_open, dd_collate_close, dd_open_open, dd_open_close, dd_close_open, dd_close_close, Bool.false_eq_true, if_true, if_false]; omega) | (rw [outer_snoc, (by assumption : (Mine.outer 0 _).snd = _), outer_opn1 (by assumption)]; simp only [dd_variable_open, dd_variable_close, dd_select_open, dd_select_close, dd_name_open, dd_name_close, dd_collate_open, dd_collate_close, dd_open_open, dd_open_close, dd_close_open, dd_close_close, Bool.false_eq_true, if_true, if_false]; omega)); (intro z h1 h2 h3; simp [h1, h2, h3])))
  intro mean mg mb dp un gd cn cs a₁ ccd cl outer A₀ base h₀ L m s Q E hH B F X N T hk hd hu hret
  revert X; k_fill; intro X
  subst hH
  refine wpAny_call ?_
  k_dflt (refine' code_defG (binds := [(Str.ofString "words", .ref l)]) ?k1 ?k2 ?k3 N ?k5 ?kA ?kF ?kK ?k6 ?k7 ?k8 ?k9 ?kB ?_ ?c2 ?c3 ?c4 ?c5; (case kA => exact rfl); (case kF => exact rfl); (case kK => assumption); (case k1 => k_asm); (case k2 => k_asm); (case k3 => k_asm); (case k5 => k_asm); (case k6 => k_is); (case k7 => k_is); (case k8 => k_room); (case k9 => first | exact BindsTo.of_eq rfl | exact binds_K (by k_in) rfl (by k_is) rfl rfl rfl); (case c5 => decide); (case kB => exact locs rfl); (case c2 => exact rfl); (case c3 => exact rfl); (case c4 => exact rfl); k_whole)
  intro g' L' h' FG' F' N' B' X' T' G'
  (try dsimp only [List.reverse_cons, List.reverse_nil, List.nil_append, List.cons_append] at F'); (try dsimp only); (refine (?_ : let A9 : Around := _; wpAny _ A9 _ _ _ _); intro A9); (try k_fold)
  replace hl := gsub_all G' _ _ hl
  replace hp := pairs_up hp (gsub_all G')
  k_steps
  (rename News g' _ _ _ => N9); (rename Fr g' _ _ _ => F9)
  exact hret _ _ _ (freshL_of G' F9 N9 (List.Mem.head _))
theorem are_ct {w : World} {H : Heap} {l l' : Addr} {ns os : List Addr} {n n' : Nat} (hl : H.get? l = some (_root_.PySem.W.listOf (ns.map Value.ref).toArray n)) (hl' : H.get? l' = some (_root_.PySem.W.listOf (os.map Value.ref).toArray n')) (hz : ns.length ≤ 10000) (hz' : os.length ≤ 10000) (hno : Tag 9 ((∀ a ∈ ns, NoTup H a) ∧ ∀ a ∈ os, NoTup H a)) : Ct w H 756 [.ref l, .ref l'] 10 200 [] (fun h' r => Stay H h' ∧ r = .bool (decide (ns = os))) := by
  w_top off
  k_with_none
  (k_with "call builtin:len" => (k_here; (with_reducible show wpAny _ _ (call (Value.builtin "len") [Value.ref _]) _ _ _); refine call_len_list (isl_base (by k_asm) (by assumption)) (by simp only [List.size_toArray, List.length_map]; omega) ?_; (simp only [List.size_toArray, List.length_map])))
  (k_with "eval ListComp" => (k_here; (rename Tag 8 _ => lq8); (with_unfolding_all refine' comp_are lq8 ?q170q1 ?q170q2 ?q170q3 ?q170q4 ?q170q5 ?_; (case q170q1 => rfl); (case q170q2 => decide); (case q170q3 => rfl); (case q170q4 => decide); (case q170q5 => rfl); k_whole)))
  (k_with "pyIter ref" => (k_here; (rename Fr _ _ _ _ => lF'); (rename News _ _ _ _ => lN'); (with_unfolding_all refine comp_rng rfl lF' lN' (by assumption) (by assumption) ?_ ?_ ?_); (intro C9 i9 t9 s9 m9 E9 hi9 hn9 hm9 hs9 F' N'; refine test_one ?_); rotate_left; (intro C9 i9 t9 s9 m9 E9 hi9 hp9 hn9 hm9 hs9 F' N'); rotate_left; (intro D9 n9 h9 tk9 ys9 ks9 F' N' hD9 hs9 hi9 hk9; dsimp only)))
  (k_with "EltEnd" => exact elt_same)
  (k_with "TestEnd" => exact test_are (by assumption) (by omega))
  (k_with "subscriptTail" => (k_here; (with_reducible show wpAny _ _ (subscriptTail _ _ (Value.ref _) (Value.int _ _)) _ _ _); (rename Fr _ _ _ _ => lF'); refine item_listL (isl_base lF' (by assumption)) (by omega) (by omega) (refs_at (by omega)) ?_))
  (k_with "compareOp IsNot" => (k_here; (rename Fr _ _ _ _ => lF'); (rename Tag 9 _ => lT9); refine isNot_refs ((lT9.out.1 _ (List.getElem_mem _)).up lF'.keep) ((lT9.out.2 _ (List.getElem_mem _)).up lF'.keep) ?_))
  intro mean mg mb dp un gd cn cs a₁ ccd cl outer A₀ base h₀ L m s Q E hH B F X N T hk hd hu hret
  revert X; k_fill; intro X
  subst hH
  refine wpAny_call ?_
  k_dflt (refine' code_defGC (binds := [(Str.ofString "nodes", .ref l), (Str.ofString "others", .ref l')]) ?k1 ?k2 ?k3 N ?k5 ?kA ?kF ?kK ?k6 ?k7 ?k8 ?k9 ?kB ?kD ?_ ?c2 ?c3 ?c4; (case kA => exact rfl); (case kF => exact rfl); (case kK => assumption); (case k1 => k_asm); (case k2 => k_asm); (case k3 => k_asm); (case k5 => k_asm); (case k6 => k_is); (case k7 => k_is); (case k8 => k_room); (case k9 => first | exact BindsTo.of_eq rfl | exact binds_K (by k_in) rfl (by k_is) rfl rfl rfl); (case kB => exact rfl); (case kD => decide +kernel); (case c2 => exact rfl); (case c3 => exact rfl); (case c4 => exact rfl); k_whole)
  intro g' L' h' tk' cells' FG' F' N' Y' B' X' T' G'
  k_cells Y'
  (try simp only [List.cons_append, List.nil_append] at N'); (try dsimp only); (try k_fold)
  replace hl := gsub_all G' _ _ hl
  replace hl' := gsub_all G' _ _ hl'
  have hq8 : Tag 8 (ns = ns ∧ os = os) := ⟨rfl, rfl⟩
  replace hno : Tag 9 ((∀ a ∈ ns, NoTup g' a) ∧ ∀ a ∈ os, NoTup g' a) := ⟨fun a h => (hno.out.1 a h).up (gsub_all G'), fun a h => (hno.out.2 a h).up (gsub_all G')⟩
  k_steps
  all_goals ((rename Fr g' _ _ _ => F9); refine hret _ _ _ ⟨stay_of G' F9, ?_⟩; first | exact are_ends (by assumption) (by assumption) | exact are_not (by assumption))
theorem take_ct {w : World} {H : Heap} {src : Addr} {o : Obj} {top : Int} {t3 : Tok} (ho : SrcOk o) (ht : 2 ≤ top) (ht2 : top ≤ 12) : Ct w H 687 [.ref src, .int top t3] 5 100 [(src, o)] (DrawR src H (fun _ r => ∃ k t, r = .int k t ∧ 0 ≤ k ∧ k < top)) := by
  w_top off
  k_with_none
  (k_with "binaryOp Mult int int" => (k_here; refine mul_int ?_ sq_ok))
  obtain ⟨x, y, t1, t2, n, rfl, hx, hy, hy2⟩ := ho
  intro mean mg mb dp un gd cn cs a₁ ccd cl outer A₀ base h₀ L m s Q E hH B F X N T hk hd hu hret
  revert X; k_fill; intro X
  subst hH
  refine wpAny_call ?_
  k_dflt (refine' code_defG (binds := [(Str.ofString "source", .ref src), (Str.ofString "top", .int top t3)]) ?k1 ?k2 ?k3 N ?k5 ?kA ?kF ?kK ?k6 ?k7 ?k8 ?k9 ?kB ?_ ?c2 ?c3 ?c4 ?c5; (case kA => exact rfl); (case kF => exact rfl); (case kK => assumption); (case k1 => k_asm); (case k2 => k_asm); (case k3 => k_asm); (case k5 => k_asm); (case k6 => k_is); (case k7 => k_is); (case k8 => k_room); (case k9 => first | exact BindsTo.of_eq rfl | exact binds_K (by k_in) rfl (by k_is) rfl rfl rfl); (case c5 => decide); (case kB => exact locs rfl); (case c2 => exact rfl); (case c3 => exact rfl); (case c4 => exact rfl); k_whole)
  intro g' L' h' FG' F' N' B' X' T' G'
  (try dsimp only [List.reverse_cons, List.reverse_nil, List.nil_append, List.cons_append] at F'); (try dsimp only); (refine (?_ : let A9 : Around := _; wpAny _ A9 _ _ _ _); intro A9); (try k_fold)
  k_steps
  all_goals ((rename News g' _ _ _ => N9); (rename Fr g' _ _ _ => F9))
  all_goals refine hret _ _ _ ?_
  all_goals refine draw_end G' F9 N9 (by k_mem) ?_ ⟨_, _, rfl, rest_ok ht⟩
  all_goals first | exact src_a hx hy hy2 ht | exact src_b hx
theorem one_ct {w : World} {H : Heap} {src l : Addr} {o : Obj} {vs : List Value} {n : Nat} (ho : SrcOk o) (hl : H.get? l = some (_root_.PySem.W.listOf vs.toArray n)) (hne : l ≠ src) (hz : 2 ≤ vs.length) (hz2 : vs.length ≤ 12) : Ct w H 694 [.ref src, .ref l] 10 140 [(src, o)] (DrawR src H (fun _ r => r ∈ vs)) := by
  w_top off
  k_with_none
  (k_with "call builtin:len" => (k_here; (with_reducible show wpAny _ _ (call (Value.builtin "len") [Value.ref _]) _ _ _); refine call_len_list (isl_base (by k_asm) (by assumption)) (by simp only [List.size_toArray, List.length_map]; omega) ?_; (simp only [List.size_toArray, List.length_map])))
  (k_with "call ref" => (k_here; (with_reducible show wpAny _ _ (call (Value.ref 687) [_, _]) _ _ _); k_dflt (refine' ct_draw (take_ct ?q178ho ?q178ht ?q178ht2) ?q178lB ?q178lF ?q178lX ?q178lN ?q178lU ?q178lT ?q178lk ?q178ld ?q178lu ?_; (case q178ho => assumption); (case q178ht => first | decide | omega); (case q178ht2 => first | decide | omega); (case q178lB => k_asm); (case q178lF => k_asm); (case q178lX => k_asm); (case q178lN => k_asm); (case q178lU => k_updF); (case q178lT => k_asm); (case q178lk => first | exact rfl | assumption); (case q178ld => k_room); (case q178lu => k_units)); intro r9 h' tk9 o9 hr9 ok9 st9 F' N'; (try dsimp only at N'); obtain ⟨k9, t9, he9, h09, h19⟩ := hr9; subst he9; (try dsimp only)))
  (k_with "subscriptTail" => (k_here; (with_reducible show wpAny _ _ (subscriptTail _ _ (Value.ref _) (Value.int _ _)) _ _ _); k_dflt (refine' item_at (isl_base ?q179lF ?q179l1) ?q179l2 ?q179l3 ?q179l4 ?_; (case q179lF => k_asm); (case q179l1 => assumption); (case q179l2 => assumption); (case q179l3 => assumption); (case q179l4 => assumption)); intro v9 hv9))
  intro mean mg mb dp un gd cn cs a₁ ccd cl outer A₀ base h₀ L m s Q E hH B F X N T hk hd hu hret
  revert X; k_fill; intro X
  subst hH
  refine wpAny_call ?_
  k_dflt (refine' code_defG (binds := [(Str.ofString "source", .ref src), (Str.ofString "things", .ref l)]) ?k1 ?k2 ?k3 N ?k5 ?kA ?kF ?kK ?k6 ?k7 ?k8 ?k9 ?kB ?_ ?c2 ?c3 ?c4 ?c5; (case kA => exact rfl); (case kF => exact rfl); (case kK => assumption); (case k1 => k_asm); (case k2 => k_asm); (case k3 => k_asm); (case k5 => k_asm); (case k6 => k_is); (case k7 => k_is); (case k8 => k_room); (case k9 => first | exact BindsTo.of_eq rfl | exact binds_K (by k_in) rfl (by k_is) rfl rfl rfl); (case c5 => decide); (case kB => exact locs rfl); (case c2 => exact rfl); (case c3 => exact rfl); (case c4 => exact rfl); k_whole)
  intro g' L' h' FG' F' N' B' X' T' G'
  (try dsimp only [List.reverse_cons, List.reverse_nil, List.nil_append, List.cons_append] at F'); (try dsimp only); (refine (?_ : let A9 : Around := _; wpAny _ A9 _ _ _ _); intro A9); (try k_fold)
  replace hl := gsub_x G' _ _ hne hl
  k_steps
  (rename News g' _ _ _ => N9); (rename Fr g' _ _ _ => F9)
  refine hret _ _ _ ?_
  exact draw_end G' F9 N9 (by k_mem) (by assumption) (by assumption)
theorem words_ct {w : World} {H : Heap} {l : Addr} {vs : List Value} {wss : List (List Value)} {nl : Nat} (hl : H.get? l = some (_root_.PySem.W.listOf vs.toArray nl)) (hz : wss.flatten.length ≤ 10000) (hp : Paired (PartW H) vs wss) : Ct w H 722 [.ref l] 5 100 [] (FreshL wss.flatten H) := by
  w_top off
  k_with_none
  (k_with "exec For Name Name cons nil" => (k_here; (rename Fr _ _ _ _ => lF'); (with_unfolding_all refine' For_turns lF' ?_; k_whole)))
  (k_with "pyIter ref" => (k_here; (with_reducible show wpAny _ _ (pyIter (Value.ref _)) (fun it s₂ => TurnsAt _ _ _ _ _ _ _ _ _ it s₂) _ _); (rename Fr _ _ _ _ => lF'); (rename News _ _ _ _ => lN'); (rename Paired (PartW _) _ _ => lP9); (with_unfolding_all refine for_fillP (Str.ofString "part") (Str.ofString "found") (fun us => us.flatten) (by rfl) rfl lF' lN' (isl_base lF' (by assumption)) (ne_base lF' (by assumption)) (by rfl) lP9 ?_ ?_); (intro I9 it9 v9 q9 us9 f9 n9 h9 tk9 own9 u9 hF9 hr9 hI9 hf9 hit9 F' N'; (obtain ⟨p7, a7, l7, cv7, n7, m7, e7, e71, e72⟩ := hF9); subst e7); rotate_left; (intro f9 n9 h9 tk9 u9 F' N')))
  (k_with "subscriptTail" => (k_here; (with_reducible show wpAny _ _ (subscriptTail _ _ (Value.ref _) (Value.int _ _)) _ _ _); (rename Fr _ _ _ _ => lF'); refine item_tupleL (ist_base lF' (by assumption)) (by decide) (by decide) (by rfl) (by rfl) ?_))
  (k_with "binaryOp Add ref ref" => (k_here; (with_reducible show wpAny _ _ (binaryOp _ (Value.ref _) (Value.ref _)) _ _ _); k_dflt (refine' my_addB ?q183lF ?q183lN ?q183la ?q183lb ?q183lz ?_; (case q183lF => k_asm); (case q183lN => k_asm); (case q183la => k_mem); (case q183lb => assumption); (case q183lz => exact flat_room (by assumption) (by assumption))); intro D' h' F' N' l1))
  (k_with "TurnEnd" => (refine fill_endP (val := fun us => us.flatten) (x := Str.ofString "part") (y := Str.ofString "found") (by k_asm) (by k_asm) (by assumption) ?_ (by assumption) (by assumption) flat_next (if_pos rfl) ?_; (intro p hp; exact List.mem_cons_of_mem _ hp); (intro z h1 h2; simp [h1, h2])))
  intro mean mg mb dp un gd cn cs a₁ ccd cl outer A₀ base h₀ L m s Q E hH B F X N T hk hd hu hret
  revert X; k_fill; intro X
  subst hH
  refine wpAny_call ?_
  k_dflt (refine' code_defG (binds := [(Str.ofString "parts", .ref l)]) ?k1 ?k2 ?k3 N ?k5 ?kA ?kF ?kK ?k6 ?k7 ?k8 ?k9 ?kB ?_ ?c2 ?c3 ?c4 ?c5; (case kA => exact rfl); (case kF => exact rfl); (case kK => assumption); (case k1 => k_asm); (case k2 => k_asm); (case k3 => k_asm); (case k5 => k_asm); (case k6 => k_is); (case k7 => k_is); (case k8 => k_room); (case k9 => first | exact BindsTo.of_eq rfl | exact binds_K (by k_in) rfl (by k_is) rfl rfl rfl); (case c5 => decide); (case kB => exact locs rfl); (case c2 => exact rfl); (case c3 => exact rfl); (case c4 => exact rfl); k_whole)
  intro g' L' h' FG' F' N' B' X' T' G'
  (try dsimp only [List.reverse_cons, List.reverse_nil, List.nil_append, List.cons_append] at F'); (try dsimp only); (refine (?_ : let A9 : Around := _; wpAny _ A9 _ _ _ _); intro A9); (try k_fold)
  replace hl := gsub_all G' _ _ hl
  replace hp : Paired (PartW g') vs wss := hp.mono fun _ _ x => x.up (gsub_all G')
  k_steps
  (rename News g' _ _ _ => N9); (rename Fr g' _ _ _ => F9)
  exact hret _ _ _ (freshL_of G' F9 N9 (List.Mem.head _))
theorem allname_ct {w : World} {H : Heap} {l : Addr} {vs : List Value} {t : T} {ps : List (Value × Value)} {nl : Nat} {kt : Tok} (hl : H.get? l = some (_root_.PySem.W.listOf vs.toArray nl)) (hz : vs.length ≤ sizeLine) (hps : Paired (PairAt H) vs ps) (hw : Paired WdP ps (wordsT t)) : Ct w H 744 [.ref l, .str (Str.ofString "name") kt] 5 100 [] (FreshL ((namesT t).map Value.ref) H) := by
  have h := all_ct (w := w) (kt := kt) hl hz hps hw (kd := Str.ofString "name") trivial
  rwa [name_refs hw, names_T] at h
theorem outerT_ct {w : World} {H : Heap} {l : Addr} {vs : List Value} {ps : List (Value × Value)} {t : T} {nl : Nat} (hl : H.get? l = some (_root_.PySem.W.listOf vs.toArray nl)) (hz : (wordsT t).length ≤ 10000) (hp : Paired (PairAt H) vs ps) (hw : Paired WdP ps (wordsT t)) : Ct w H 751 [.ref l] 5 100 [] (FreshL ((aggsT t).map Value.ref) H) := by
  have h := outer_ct (w := w) hl hz hp hw
  rwa [outV_T] at h
theorem are_self {w : World} {H : Heap} {l l' : Addr} {ns : List Addr} {n n' : Nat} (hl : H.get? l = some (_root_.PySem.W.listOf (ns.map Value.ref).toArray n)) (hl' : H.get? l' = some (_root_.PySem.W.listOf (ns.map Value.ref).toArray n')) (hz : ns.length ≤ 10000) (hno : ∀ a ∈ ns, NoTup H a) : Ct w H 756 [.ref l, .ref l'] 10 200 [] (fun h' r => Stay H h' ∧ r = .bool true) := by
  have h := are_ct (w := w) hl hl' hz hz ⟨hno, hno⟩
  have e : decide (ns = ns) = true := by simp
  rwa [e] at h
theorem oneright_ct {w : World} {H : Heap} {v : Value} (hP : PartG (atH H) 2 v) : Ct w H 766 [v] 50 900 [] (fun h' r => Stay H h' ∧ r = .bool true) := by
  w_top off
  k_with_none
  (k_with "call ref" => (k_here; (with_reducible show wpAny _ _ (call (Value.ref 744) [_, _]) _ _ _); k_dflt (refine' ct_use (all_ct (kd := Str.ofString "collate") ?q195hl ?q195hz ?q195hps ?q195hw trivial) ?q195lR ?q195lB ?q195lF ?q195lX ?q195lN ?q195lT ?q195lk ?q195ld ?q195lu ?_; (case q195hl => refine Fr.keep (by k_asm) _ _ ?_; assumption); (case q195hz => assumption); (case q195hps => (rename Paired (PairAt _) _ _ => lP9); exact pairs_up lP9 (Fr.keep (by k_asm))); (case q195hw => assumption); (case q195lR => exact fun _ _ h => h.1); (case q195lB => k_asm); (case q195lF => k_asm); (case q195lX => k_asm); (case q195lN => k_asm); (case q195lT => k_asm); (case q195lk => first | exact rfl | assumption); (case q195ld => k_room); (case q195lu => k_units)); intro r9 h' tk9 hr9 hs9 F' N'; (replace hr9 := FreshL.out hr9); obtain ⟨_, l9, n9, he9, hl9, hg9⟩ := hr9; subst he9; (have hN9 := fresh_news (by k_asm) (by k_asm) hs9 hl9 hg9); clear N'; obtain ⟨N', hn9⟩ := hN9; (try dsimp only)))
  (k_with "call ref" => (k_here; (with_reducible show wpAny _ _ (call (Value.ref 744) [_, _]) _ _ _); k_dflt (refine' ct_use (all_ct (kd := Str.ofString "select") ?q196hl ?q196hz ?q196hps ?q196hw trivial) ?q196lR ?q196lB ?q196lF ?q196lX ?q196lN ?q196lT ?q196lk ?q196ld ?q196lu ?_; (case q196hl => refine Fr.keep (by k_asm) _ _ ?_; assumption); (case q196hz => assumption); (case q196hps => (rename Paired (PairAt _) _ _ => lP9); exact pairs_up lP9 (Fr.keep (by k_asm))); (case q196hw => assumption); (case q196lR => exact fun _ _ h => h.1); (case q196lB => k_asm); (case q196lF => k_asm); (case q196lX => k_asm); (case q196lN => k_asm); (case q196lT => k_asm); (case q196lk => first | exact rfl | assumption); (case q196ld => k_room); (case q196lu => k_units)); intro r9 h' tk9 hr9 hs9 F' N'; (replace hr9 := FreshL.out hr9); obtain ⟨_, l9, n9, he9, hl9, hg9⟩ := hr9; subst he9; (have hN9 := fresh_news (by k_asm) (by k_asm) hs9 hl9 hg9); clear N'; obtain ⟨N', hn9⟩ := hN9; (try dsimp only)))
  (k_with "call ref" => (k_here; (with_reducible show wpAny _ _ (call (Value.ref 744) [_, _]) _ _ _); k_dflt (refine' ct_use (allname_ct ?q197hl ?q197hz ?q197hps ?q197hw) ?q197lR ?q197lB ?q197lF ?q197lX ?q197lN ?q197lT ?q197lk ?q197ld ?q197lu ?_; (case q197hl => refine Fr.keep (by k_asm) _ _ ?_; assumption); (case q197hz => assumption); (case q197hps => (rename Paired (PairAt _) _ _ => lP9); exact pairs_up lP9 (Fr.keep (by k_asm))); (case q197hw => assumption); (case q197lR => exact fun _ _ h => h.1); (case q197lB => k_asm); (case q197lF => k_asm); (case q197lX => k_asm); (case q197lN => k_asm); (case q197lT => k_asm); (case q197lk => first | exact rfl | assumption); (case q197ld => k_room); (case q197lu => k_units)); intro r9 h' tk9 hr9 hs9 F' N'; (replace hr9 := FreshL.out hr9); obtain ⟨_, l9, n9, he9, hl9, hg9⟩ := hr9; subst he9; (have hN9 := fresh_news (by k_asm) (by k_asm) hs9 hl9 hg9); clear N'; obtain ⟨N', hn9⟩ := hN9; (try dsimp only)))
  (k_with "call ref" => (k_here; (with_reducible show wpAny _ _ (call (Value.ref 761) [_, _]) _ _ _); k_dflt (refine' ct_use (first_ct ?q198hl ?q198hz ?q198hv) ?q198lR ?q198lB ?q198lF ?q198lX ?q198lN ?q198lT ?q198lk ?q198ld ?q198lu ?_; (case q198hl => refine' News.get ?q198nN ?q198nM; (case q198nN => k_asm); (case q198nM => k_mem)); (case q198hz => first | exact Nat.le_of_ble_eq_true rfl | assumption); (case q198hv => first | exact two_ns (by assumption) (by assumption) | (rename Tag 31 _ => lq31; exact ⟨lq31.out.1⟩)); (case q198lR => exact fun _ _ h => h.1); (case q198lB => k_asm); (case q198lF => k_asm); (case q198lX => k_asm); (case q198lN => k_asm); (case q198lT => k_asm); (case q198lk => first | exact rfl | assumption); (case q198ld => k_room); (case q198lu => k_units)); intro r9 h' tk9 hr9 hs9 F' N'; first | ((rename Tag 31 _ => lq31); (replace hr9 : ColIs r9 _ := first31 hr9.2 lq31)) | (obtain ⟨t9, he9⟩ := first32 hr9.2 (by assumption) (by assumption); subst he9; (try dsimp only))))
  (k_with "call ref" => (k_here; (with_reducible show wpAny _ _ (call (Value.ref 602) [_]) _ _ _); k_dflt (refine' ct_use (expl_ct _ _ _ _ (Nat.le_refl _) ?q199hT) ?q199lR ?q199lB ?q199lF ?q199lX ?q199lN ?q199lT ?q199lk ?q199ld ?q199lu ?_; (case q199hT => exact TreeIn.mono (by assumption) (Fr.keep (by k_asm))); (case q199lR => exact fun _ _ h => h.1); (case q199lB => k_asm); (case q199lF => k_asm); (case q199lX => k_asm); (case q199lN => k_asm); (case q199lT => k_asm); (case q199lk => first | exact rfl | assumption); (case q199ld => k_room); (case q199lu => k_units)); intro r9 h' tk9 hr9 hs9 F' N'; replace hr9 := hr9.2))
  (k_with "call ref" => (k_here; (with_reducible show wpAny _ _ (call (Value.ref 609) [_]) _ _ _); k_dflt (refine' ct_use (col_ct _ _ _ _ (Nat.le_refl _) ?q200hT) ?q200lR ?q200lB ?q200lF ?q200lX ?q200lN ?q200lT ?q200lk ?q200ld ?q200lu ?_; (case q200hT => exact TreeIn.mono (by assumption) (Fr.keep (by k_asm))); (case q200lR => exact fun _ _ h => h.1); (case q200lB => k_asm); (case q200lF => k_asm); (case q200lX => k_asm); (case q200lN => k_asm); (case q200lT => k_asm); (case q200lk => first | exact rfl | assumption); (case q200ld => k_room); (case q200lu => k_units)); intro r9 h' tk9 hr9 hs9 F' N'; replace hr9 := hr9.2))
  (k_with "call ref" => (k_here; (with_reducible show wpAny _ _ (call (Value.ref 617) [_]) _ _ _); k_dflt (refine' ct_use (collof_ct ?q201hT ?q201hec) ?q201lR ?q201lB ?q201lF ?q201lX ?q201lN ?q201lT ?q201lk ?q201ld ?q201lu ?_; (case q201hT => exact TreeIn.mono (by assumption) (Fr.keep (by k_asm))); (case q201hec => assumption); (case q201lR => exact fun _ _ h => h.1); (case q201lB => k_asm); (case q201lF => k_asm); (case q201lX => k_asm); (case q201lN => k_asm); (case q201lT => k_asm); (case q201lk => first | exact rfl | assumption); (case q201ld => k_room); (case q201lu => k_units)); intro r9 h' tk9 hr9 hs9 F' N'; obtain ⟨_, t9, he9⟩ := hr9; subst he9; (try dsimp only)))
  (k_with "call ref" => (k_here; (with_reducible show wpAny _ _ (call (Value.ref 588) [_]) _ _ _); k_dflt (refine' ct_use (hasvar_ct _ _ _ _ (Nat.le_refl _) ?q202hT) ?q202lR ?q202lB ?q202lF ?q202lX ?q202lN ?q202lT ?q202lk ?q202ld ?q202lu ?_; (case q202hT => exact TreeIn.mono (by assumption) (Fr.keep (by k_asm))); (case q202lR => exact fun _ _ h => h.1); (case q202lB => k_asm); (case q202lF => k_asm); (case q202lX => k_asm); (case q202lN => k_asm); (case q202lT => k_asm); (case q202lk => first | exact rfl | assumption); (case q202ld => k_room); (case q202lu => k_units)); intro r9 h' tk9 hr9 hs9 F' N'; obtain ⟨_, he9⟩ := hr9; subst he9; (try dsimp only)))
  (k_with "call ref" => (k_here; (with_reducible show wpAny _ _ (call (Value.ref 583) [_]) _ _ _); k_dflt (refine' ct_use (hassub_ct _ _ _ _ (Nat.le_refl _) ?q203hT) ?q203lR ?q203lB ?q203lF ?q203lX ?q203lN ?q203lT ?q203lk ?q203ld ?q203lu ?_; (case q203hT => exact TreeIn.mono (by assumption) (Fr.keep (by k_asm))); (case q203lR => exact fun _ _ h => h.1); (case q203lB => k_asm); (case q203lF => k_asm); (case q203lX => k_asm); (case q203lN => k_asm); (case q203lT => k_asm); (case q203lk => first | exact rfl | assumption); (case q203ld => k_room); (case q203lu => k_units)); intro r9 h' tk9 hr9 hs9 F' N'; obtain ⟨_, he9⟩ := hr9; subst he9; (try dsimp only)))
  (k_with "call ref" => (k_here; (with_reducible show wpAny _ _ (call (Value.ref 571) [_]) _ _ _); k_dflt (refine' ct_use (iscall_ct (NodeIn.mono ?q204hn ?q204hm)) ?q204lR ?q204lB ?q204lF ?q204lX ?q204lN ?q204lT ?q204lk ?q204ld ?q204lu ?_; (case q204hn => assumption); (case q204hm => exact Fr.keep (by k_asm)); (case q204lR => exact fun _ _ h => h.1); (case q204lB => k_asm); (case q204lF => k_asm); (case q204lX => k_asm); (case q204lN => k_asm); (case q204lT => k_asm); (case q204lk => first | exact rfl | assumption); (case q204ld => k_room); (case q204lu => k_units)); intro r9 h' tk9 hr9 hs9 F' N'; obtain ⟨_, he9⟩ := hr9; subst he9; (try dsimp only)))
  (k_with "call ref" => (k_here; (with_reducible show wpAny _ _ (call (Value.ref 578) [_]) _ _ _); k_dflt (refine' ct_use (aggs_ct _ _ _ _ (Nat.le_refl _) ?q205hw ?q205hT) ?q205lR ?q205lB ?q205lF ?q205lX ?q205lN ?q205lT ?q205lk ?q205ld ?q205lu ?_; (case q205hw => assumption); (case q205hT => exact TreeIn.mono (by assumption) (Fr.keep (by k_asm))); (case q205lR => exact fun _ _ h => h.1); (case q205lB => k_asm); (case q205lF => k_asm); (case q205lX => k_asm); (case q205lN => k_asm); (case q205lT => k_asm); (case q205lk => first | exact rfl | assumption); (case q205ld => k_room); (case q205lu => k_units)); intro r9 h' tk9 hr9 hs9 F' N'; (replace hr9 := FreshL.out hr9); obtain ⟨_, l9, n9, he9, hl9, hg9⟩ := hr9; subst he9; (have hN9 := fresh_news (by k_asm) (by k_asm) hs9 hl9 hg9); clear N'; obtain ⟨N', hn9⟩ := hN9; (try dsimp only)))
  (k_with "call ref" => (k_here; (with_reducible show wpAny _ _ (call (Value.ref 595) [_]) _ _ _); k_dflt (refine' ct_use (names_ct _ _ _ _ (Nat.le_refl _) ?q206hw ?q206hT) ?q206lR ?q206lB ?q206lF ?q206lX ?q206lN ?q206lT ?q206lk ?q206ld ?q206lu ?_; (case q206hw => assumption); (case q206hT => exact TreeIn.mono (by assumption) (Fr.keep (by k_asm))); (case q206lR => exact fun _ _ h => h.1); (case q206lB => k_asm); (case q206lF => k_asm); (case q206lX => k_asm); (case q206lN => k_asm); (case q206lT => k_asm); (case q206lk => first | exact rfl | assumption); (case q206ld => k_room); (case q206lu => k_units)); intro r9 h' tk9 hr9 hs9 F' N'; (replace hr9 := FreshL.out hr9); obtain ⟨_, l9, n9, he9, hl9, hg9⟩ := hr9; subst he9; (have hN9 := fresh_news (by k_asm) (by k_asm) hs9 hl9 hg9); clear N'; obtain ⟨N', hn9⟩ := hN9; (try dsimp only)))
  (k_with "call ref" => (k_here; (with_reducible show wpAny _ _ (call (Value.ref 751) [_]) _ _ _); k_dflt (refine' ct_use (outerT_ct ?q207hl ?q207hz ?q207hp ?q207hw) ?q207lR ?q207lB ?q207lF ?q207lX ?q207lN ?q207lT ?q207lk ?q207ld ?q207lu ?_; (case q207hl => refine Fr.keep (by k_asm) _ _ ?_; assumption); (case q207hz => assumption); (case q207hp => (rename Paired (PairAt _) _ _ => lP9); exact pairs_up lP9 (Fr.keep (by k_asm))); (case q207hw => assumption); (case q207lR => exact fun _ _ h => h.1); (case q207lB => k_asm); (case q207lF => k_asm); (case q207lX => k_asm); (case q207lN => k_asm); (case q207lT => k_asm); (case q207lk => first | exact rfl | assumption); (case q207ld => k_room); (case q207lu => k_units)); intro r9 h' tk9 hr9 hs9 F' N'; (replace hr9 := FreshL.out hr9); obtain ⟨_, l9, n9, he9, hl9, hg9⟩ := hr9; subst he9; (have hN9 := fresh_news (by k_asm) (by k_asm) hs9 hl9 hg9); clear N'; obtain ⟨N', hn9⟩ := hN9; (try dsimp only)))
  (k_with "call ref" => (k_here; (with_reducible show wpAny _ _ (call (Value.ref 756) [_, _]) _ _ _); k_dflt (refine' ct_use (are_self ?q208hl ?q208hl2 ?q208hz ?q208hno) ?q208lR ?q208lB ?q208lF ?q208lX ?q208lN ?q208lT ?q208lk ?q208ld ?q208lu ?_; (case q208hl => refine' News.get ?q208nN ?q208nM; (case q208nN => k_asm); (case q208nM => k_mem)); (case q208hl2 => refine' News.get ?q208nN ?q208nM; (case q208nN => k_asm); (case q208nM => k_mem)); (case q208hz => assumption); (case q208hno => first | (rename Tag 33 _ => lq33; exact fun _ x => (lq33.out _ x).up (Fr.keep (by k_asm))) | (rename Tag 34 _ => lq34; exact fun _ x => (lq34.out _ x).up (Fr.keep (by k_asm)))); (case q208lR => exact fun _ _ h => h.1); (case q208lB => k_asm); (case q208lF => k_asm); (case q208lX => k_asm); (case q208lN => k_asm); (case q208lT => k_asm); (case q208lk => first | exact rfl | assumption); (case q208ld => k_room); (case q208lu => k_units)); intro r9 h' tk9 hr9 hs9 F' N'; obtain ⟨_, he9⟩ := hr9; subst he9; (try dsimp only)))
  (k_with "call builtin:len" => (k_here; (with_reducible show wpAny _ _ (call (Value.builtin "len") [Value.ref _]) _ _ _); refine call_len_list (isl_news (by k_asm) (by k_mem)) (by simp only [List.size_toArray, List.length_map]; omega) ?_; (simp only [List.size_toArray, List.length_map])))
  (k_with "assign Tuple" => (k_here; (with_reducible show wpAny _ _ (assign (PySem.Expr.Tuple _ _ _) _ (Value.ref _)) _ _ _); k_dflt (refine' unpackN_ ?q210k1 ?q210k2 ?q210k3 ?q210k4 ?q210k5 ?q210k6 ?_; (case q210k1 => k_asm); (case q210k2 => k_asm); (case q210k3 => refine ist_base (its := [_, _, _]) (by k_asm) (by assumption)); (case q210k4 => exact rfl); (case q210k5 => exact rfl); (case q210k6 => exact rfl); k_whole); intro h' F' N'; (try k_sweep)))
  (k_with "unpackItems ref" => (k_here; k_dflt (refine' unpackItemsN_ ?q211k1 ?q211k2 ?q211k3 ?q211k4 ?q211k5 ?_; (case q211k1 => k_asm); (case q211k2 => k_asm); (case q211k3 => assumption); (case q211k4 => exact rfl); (case q211k5 => exact rfl); k_whole); intro h' F' N'; (try k_sweep)))
  (k_with "eval ListComp" => (k_here; (with_unfolding_all refine' comp_words ?q212q0 ?q212q1 ?q212q2 ?q212q3 ?q212q4 ?q212q5 ?q212q6 ?q212q7 ?_; (case q212q0 => rfl); (case q212q1 => rfl); (case q212q2 => decide); (case q212q3 => rfl); (case q212q4 => decide); (case q212q5 => rfl); (case q212q6 => rfl); (case q212q7 => decide); k_whole)))
  (k_with "PairAskN" => (k_here; (rename Fr _ _ _ _ => lF'); (rename News _ _ _ _ => lN'); (rename Paired (PairAt _) _ _ => lP9); (rename Paired WdP _ _ => lW9); (refine pairAskN_intro (isl_base lF' (by assumption)) (by assumption) (pairs_up lP9 lF'.keep) ?_ ?_); (intro C9 s9 m9 E9 q9 hq9 hn9 ha9 hb9 hs9; (obtain ⟨w9, t9, v9, hw9, hz9⟩ := tag_of lW9 hq9); subst hw9; (dsimp only at ha9 hb9); (have F' := lF'.keeps hs9); (have N' := lN'.grown hs9)); rotate_left; (intro D9 n9 h9 tk9 ys9 hD9 hg9 hs9 hP9; (have e9 := isFst_all hP9; subst e9; (obtain ⟨_, F', N', hN9⟩ := comp_out lF' lN' hD9 ⟨_, hg9⟩ hs9); dsimp only))))
  (k_with "EltEnd2" => exact fst_elt)
  (k_with "compareOp In" => (k_here; (with_reducible show wpAny _ _ (compareOp CmpOp.In (Value.str _ _) (Value.ref _)) _ _ _); k_dflt (refine in_wds (isl_news (by k_asm) (by k_mem)) (by assumption) ?_)))
  (k_with "compareOp In str" => (k_here; (with_reducible show wpAny _ _ (compareOp CmpOp.In (Value.str _ _) (Value.ref _)) _ _ _); k_dflt (refine in_wds (isl_news (by k_asm) (by k_mem)) (by assumption) ?_)))
  (k_with "compareOp In str ref" => (k_here; (with_reducible show wpAny _ _ (compareOp CmpOp.In (Value.str _ _) (Value.ref _)) _ _ _); k_dflt (refine in_wds (isl_news (by k_asm) (by k_mem)) (by assumption) ?_)))
  (k_with "compareOp NotEq" => (k_here; (with_reducible show wpAny _ _ (compareOp CmpOp.NotEq _ _) _ _ _); refine ne_col (by assumption) (by assumption) ?_))
  (k_with "compareOp NotEq str str" => (k_here; (with_reducible show wpAny _ _ (compareOp CmpOp.NotEq (Value.str _ _) (Value.str _ _)) _ _ _); refine ne_strs ?_))
  (k_with "compareOp NotEq bool bool" => (k_here; (with_reducible show wpAny _ _ (compareOp CmpOp.NotEq (Value.bool _) (Value.bool _)) _ _ _); refine ne_bools (by first | exact (var_T _).symm | exact sub_eq (by assumption) | (rename Tag 35 _ => lq35; exact lq35.out _ (List.getElem_mem _)) | (rename Tag 36 _ => lq36; exact agg_no2 lq36 (by assumption))) ?_))
  (k_with "compareOp NotEq ref ref" => (k_here; (with_reducible show wpAny _ _ (compareOp CmpOp.NotEq (Value.ref _) (Value.ref _)) _ _ _); k_dflt (refine' ne_nil (isl_news ?q221n1 ?q221n2) (isl_news ?q221n3 ?q221n4) ?q221hu ?_; (case q221n1 => k_asm); (case q221n2 => k_mem); (case q221n3 => k_asm); (case q221n4 => k_mem); (case q221hu => k_units))))
  (k_with "subscriptTail" => (k_here; (with_reducible show wpAny _ _ (subscriptTail _ _ (Value.ref _) (Value.int _ _)) _ _ _); k_dflt (refine item_listL (isl_news (by k_asm) (by k_mem)) (by decide) (by decide) (refs_at0 (by omega)) ?_)))
  (k_with "subscriptTail Name Constant ref int" => (k_here; (with_reducible show wpAny _ _ (subscriptTail _ _ (Value.ref _) (Value.int _ _)) _ _ _); k_dflt (refine item_listL (isl_news (by k_asm) (by k_mem)) (by decide) (by decide) (refs_at0 (by omega)) ?_)))
  (k_with "compareOp Is ref ref" => (k_here; (with_reducible show wpAny _ _ (compareOp CmpOp.Is (Value.ref _) (Value.ref _)) _ _ _); (rename Tag 33 _ => lq33); k_dflt (refine is_refs ((lq33.out _ (List.getElem_mem _)).up (Fr.keep (by k_asm))) ((node_noTup (by assumption)).up (Fr.keep (by k_asm))) ?_)))
  obtain ⟨p, l, a, cv, ws, t, n1, n2, e, hD, hT, hl, hW, hC, hG⟩ := part_open hP
  subst e
  intro mean mg mb dp un gd cn cs a₁ ccd cl outer A₀ base h₀ L m s Q E hH B F X N T hk hd hu hret
  revert X; k_fill; intro X
  subst hH
  refine wpAny_call ?_
  k_dflt (refine' code_defG (binds := [(Str.ofString "told", .ref p)]) ?k1 ?k2 ?k3 N ?k5 ?kA ?kF ?kK ?k6 ?k7 ?k8 ?k9 ?kB ?_ ?c2 ?c3 ?c4 ?c5; (case kA => exact rfl); (case kF => exact rfl); (case kK => assumption); (case k1 => k_asm); (case k2 => k_asm); (case k3 => k_asm); (case k5 => k_asm); (case k6 => k_is); (case k7 => k_is); (case k8 => k_room); (case k9 => first | exact BindsTo.of_eq rfl | exact binds_K (by k_in) rfl (by k_is) rfl rfl rfl); (case c5 => decide); (case kB => exact locs rfl); (case c2 => exact rfl); (case c3 => exact rfl); (case c4 => exact rfl); k_whole)
  intro g' L' h' FG' F' N' B' X' T' G'
  (try dsimp only [List.reverse_cons, List.reverse_nil, List.nil_append, List.cons_append] at F'); (try dsimp only); (refine (?_ : let A9 : Around := _; wpAny _ A9 _ _ _ _); intro A9); (try k_fold)
  replace hD : g'.get? p = some (tupO [.ref a, .ref l, cv] n1) := gsub_all G' _ _ hD
  replace hl : g'.get? l = some (_root_.PySem.W.listOf ws.toArray n2) := gsub_all G' _ _ hl
  replace hT : TreeIn (atH g') (.ref a) t := hT.mono (gsub_all G')
  replace hW : WordsIn (atH g') ws (wordsT t) := hW.mono (gsub_all G')
  have hz0 : ws.length ≤ 10000 := few_words hG hW (by decide)
  have hz1 : ws.length ≤ sizeLine := by rw [sizeLine_eq]; omega
  have hz2 : (wordsT t).length ≤ 10000 := by rw [← hW.len]; exact hz0
  have hz3 : (aggsT t).length ≤ 10000 := Nat.le_trans (aggs_len t) hz2
  have hz4 : (namesT t).length ≤ 10000 := Nat.le_trans (names_len t) hz2
  have hd5 : depthT t ≤ 5 := hG.depth
  have hec : Tag 1 (∀ c, explT t = some c ∨ colT t = some c → c ∈ colls) := ⟨fun c h => h.elim (hG.expl c) (hG.col c)⟩
  obtain ⟨c, k, vs, ts, et, hn, hts⟩ := tree_open hT
  have h33 : Tag 33 (∀ b ∈ aggsT t, NoTup g' b) := ⟨fun b hb => let ⟨_, _, H⟩ := aggs_node hT hb; node_noTup H⟩
  have h34 : Tag 34 (∀ b ∈ namesT t, NoTup g' b) := ⟨fun b hb => let ⟨_, _, _, H⟩ := names_node hT hb; node_noTup H⟩
  have h35 : Tag 35 (∀ b ∈ aggsT t, decide (k = .agg) = decide (b = a)) := ⟨fun b hb => agg_yes hn hts (et ▸ hb)⟩
  have h36 : Tag 36 (¬ (aggsT t).length = 1 → decide (k = .agg) = false) := ⟨fun h => agg_no (et ▸ h)⟩
  obtain ⟨ps, hps, hwd⟩ := wordsP_of hW
  have h31 : Tag 31 ((∀ u ∈ (ps.filter (tagIs (Str.ofString "collate"))).map (·.2), NoneStr u) ∧ ColIs (firstV (List.filter notNone ((ps.filter (tagIs (Str.ofString "collate"))).map (·.2))) .none) (explT t)) := ⟨by rw [← expl_T]; exact strs_none (coll_strs hwd)⟩
  have hz6 : ((ps.filter (tagIs (Str.ofString "collate"))).map (·.2)).length ≤ 100000 := by
    rw [List.length_map]
    have q1 := List.length_filter_le (tagIs (Str.ofString "collate")) ps
    have q2 := hps.length
    omega
  clear hW hts et hG
  k_steps
  all_goals ((rename Fr g' _ _ _ => F9); exact hret _ _ _ ⟨stay_of G' F9, rfl⟩)
theorem callcoll_ct {w : World} {H : Heap} {ts : List T} {l : Addr} {vs : List Value} {nl : Nat} (hl : H.get? l = some (_root_.PySem.W.listOf vs.toArray nl)) (hT : TreesIn (atH H) vs ts) (hec : Tag 1 (∀ t ∈ ts, ∀ c, explT t = some c ∨ colT t = some c → c ∈ colls)) : Ct w H 624 [.ref l] (4 * depthL ts + 14) (60 * depthL ts + 240) [] (fun h' r => Stay H h' ∧ ∃ t', r = .str (callS ts) t') := by
  w_top off
  k_with_none
  (k_with "call ref" => (k_here; (with_reducible show wpAny _ _ (call (Value.ref 602) [_]) _ _ _); k_dflt (refine' ct_use (expl_ct _ _ _ _ (Nat.le_refl _) (TreeIn.mono (by assumption) (Fr.keep (by k_asm)))) ?q290lR ?q290lB ?q290lF ?q290lX ?q290lN ?q290lT ?q290lk ?q290ld ?q290lu ?_; (case q290lR => exact fun _ _ h => h.1); (case q290lB => k_asm); (case q290lF => k_asm); (case q290lX => k_asm); (case q290lN => k_asm); (case q290lT => k_asm); (case q290lk => first | exact rfl | assumption); (case q290ld => k_room); (case q290lu => k_units)); intro r9 h' tk9 hr9 hs9 F' N'; obtain ⟨_, hc9⟩ := hr9; (generalize he9 : explT _ = o9 at hc9); cases hc9; all_goals (try dsimp only)))
  (k_with "call ref" => (k_here; (with_reducible show wpAny _ _ (call (Value.ref 609) [_]) _ _ _); k_dflt (refine' ct_use (col_ct _ _ _ _ (Nat.le_refl _) (TreeIn.mono (by assumption) (Fr.keep (by k_asm)))) ?q291lR ?q291lB ?q291lF ?q291lX ?q291lN ?q291lT ?q291lk ?q291ld ?q291lu ?_; (case q291lR => exact fun _ _ h => h.1); (case q291lB => k_asm); (case q291lF => k_asm); (case q291lX => k_asm); (case q291lN => k_asm); (case q291lT => k_asm); (case q291lk => first | exact rfl | assumption); (case q291ld => k_room); (case q291lu => k_units)); intro r9 h' tk9 hr9 hs9 F' N'; obtain ⟨_, hc9⟩ := hr9; (generalize he9 : colT _ = o9 at hc9); cases hc9; all_goals (try dsimp only)))
  (k_with "truthy str" => (k_here; (rename Tag 1 _ => lh9); refine colls_truthy (lh9.out _ (mem_of_cut (by assumption)) _ (by first | exact Or.inl (by assumption) | exact Or.inr (by assumption))) ?_; intro tk9))
  (k_with "exec For Name Name cons nil" => (k_here; (rename Fr _ _ _ _ => lF'); (with_unfolding_all refine' For_turns lF' ?_; k_whole)))
  (k_with "TurnEnd" => first | (refine TurnEnd.out ?_; dsimp only) | (refine TurnEnd.go (by k_asm) (by k_asm) (by assumption) ⟨rfl, ?_, ?_⟩; (exact call_next (by assumption) (by assumption) (by assumption)); (intro z h1 h2; simp [h1, h2])))
  (k_with "pyIter ref" => (k_here; (with_reducible show wpAny _ _ (pyIter (Value.ref _)) (fun it s₂ => TurnsAt _ _ _ _ _ _ _ _ _ it s₂) _ _); (rename Fr _ _ _ _ => lF'); (rename News _ _ _ _ => lN'); (rename TreesIn _ _ _ => lS9); (with_unfolding_all refine for_treesB (Str.ofString "found") (Str.ofString "expr") (fun us => ∀ u ∈ us, oneT u = none) (by rfl) rfl lF' lN' (isl_base lF' (by assumption)) (ne_base lF' (by assumption)) lS9 (nofun) ?_ ?_); (intro I9 v9 t9 us9 h9 tk9 own9 u9 hT9 hd9 hr9 hP9 hI9 F' N'; (have e9 := TreeIn.ref hT9; subst e9)); rotate_left; (intro h9 tk9 u9 hP9 F' N')))
  intro mean mg mb dp un gd cn cs a₁ ccd cl outer A₀ base h₀ L m s Q E hH B F X N T hk hd hu hret
  revert X; k_fill; intro X
  subst hH
  refine wpAny_call ?_
  k_dflt (refine' code_defG (binds := [(Str.ofString "arguments", .ref l)]) ?k1 ?k2 ?k3 N ?k5 ?kA ?kF ?kK ?k6 ?k7 ?k8 ?k9 ?kB ?_ ?c2 ?c3 ?c4 ?c5; (case kA => exact rfl); (case kF => exact rfl); (case kK => assumption); (case k1 => k_asm); (case k2 => k_asm); (case k3 => k_asm); (case k5 => k_asm); (case k6 => k_is); (case k7 => k_is); (case k8 => k_room); (case k9 => first | exact BindsTo.of_eq rfl | exact binds_K (by k_in) rfl (by k_is) rfl rfl rfl); (case c5 => decide); (case kB => exact locs rfl); (case c2 => exact rfl); (case c3 => exact rfl); (case c4 => exact rfl); k_whole)
  intro g' L' h' FG' F' N' B' X' T' G'
  (try dsimp only [List.reverse_cons, List.reverse_nil, List.nil_append, List.cons_append] at F'); (try dsimp only); (refine (?_ : let A9 : Around := _; wpAny _ A9 _ _ _ _); intro A9); (try k_fold)
  replace hT := hT.mono (gsub_all G')
  replace hl := gsub_all G' _ _ hl
  k_steps
  all_goals (refine hret _ _ _ ⟨stay_of G' (by assumption), ?_⟩; first | (rw [call_none (by assumption)]; exact ⟨_, rfl⟩) | (rw [call_found (by assumption) (by assumption) (one_1 (by assumption))]; exact ⟨_, rfl⟩) | (rw [call_found (by assumption) (by assumption) (one_2 (by assumption) (by assumption))]; exact ⟨_, rfl⟩))
end
end
section
local macro_rules | `(tactic| k_ne) => `(tactic| ((try dsimp only); first | exact ne_lt (by with_reducible assumption) (by k_dflt k_mem) | exact ne_gt (by with_reducible assumption) (by k_dflt k_mem) | exact Nat.ne_of_lt (by with_reducible assumption) | exact Nat.ne_of_gt (by with_reducible assumption) | exact ne_all (by with_reducible assumption) (by k_dflt k_mem) | exact ne_all' (by with_reducible assumption) (by k_dflt k_mem)))
local macro_rules | `(tactic| k_lt $h:ident) => `(tactic| (replace $h := allLt_of $h))
local macro_rules | `(tactic| k_all) => `(tactic| exact allNe_sub (by with_reducible assumption) (by (intro p9 hp9; repeat (first | exact hp9 | refine List.mem_cons_of_mem _ ?_))))
local macro_rules | `(tactic| k_updF) => `(tactic| first | with_reducible exact UpdT.head | ((with_reducible refine' UpdT.tail ?a ?b); (case b => k_updF); (case a => k_ne)))
mutual
theorem new_lit {w : World} {mean : ExcName → Option Value} {mg mb : Str → Option Value} {dp un : Nat} {gd : Option (List Code)} {cn : Str} {cs : Scope} {a : Addr} {ccd : Value} {cl : List (Str × Addr)} {outer : List Env} {A₀ : Around} {base h₀ : Heap} {L : Addr} {m : Str → Option Value} {news : Led} {s : Shared} {Q E : Value → Shared → Prop} {v1 : Value} (B : Below A₀ base outer h₀) (F : Fr h₀ L s.heap m) (X : (_root_.Mine.top.heap_1_39 w.params).In h₀) (N : News h₀ L s.heap news) (T : Top _root_.Mine.top.view_1_40 Lo mean mg mb h₀) (hk : cs.kind = .function) (hd : dp + 5 < recursionLimit) (hu : un + 60 < cLine)
  (h : ∀ x d h' tk h1 t1, Fr h₀ L h' m → News h₀ L h' ((x, instObj 112 d) :: (d, dictOf [⟨h1, .str (Str.ofString "value") t1, v1⟩] 1) :: news) → AllLt d news → AllLt x news → (@LT.lt Nat _ d x) → Q (.ref x) { s with heap := h', toks := tk }) :
  wpAny (model PySem.Challenge.rw_xm0760_01.row.prog w) (ktrTop dp un gd cn cs L a ccd cl outer) (call (.ref 112) [v1]) Q E s := by
  w_top off
  k_with_none
  revert X; k_fill; intro X
  cases cs with
  | mk k0 =>
  cases (show k0 = ScopeKind.function from hk)
  k_steps
  exact h _ _ _ _ _ _ (by assumption) (by assumption) (by assumption) (allLt_up (by assumption) (by assumption)) (by assumption)
theorem new_name {w : World} {mean : ExcName → Option Value} {mg mb : Str → Option Value} {dp un : Nat} {gd : Option (List Code)} {cn : Str} {cs : Scope} {a : Addr} {ccd : Value} {cl : List (Str × Addr)} {outer : List Env} {A₀ : Around} {base h₀ : Heap} {L : Addr} {m : Str → Option Value} {news : Led} {s : Shared} {Q E : Value → Shared → Prop} {v1 v2 : Value} (B : Below A₀ base outer h₀) (F : Fr h₀ L s.heap m) (X : (_root_.Mine.top.heap_1_39 w.params).In h₀) (N : News h₀ L s.heap news) (T : Top _root_.Mine.top.view_1_40 Lo mean mg mb h₀) (hk : cs.kind = .function) (hd : dp + 5 < recursionLimit) (hu : un + 60 < cLine)
  (h : ∀ x d h' tk h1 t1 h2 t2 h3 t3 h4 t4 u5 h5 t5, Fr h₀ L h' m → News h₀ L h' ((x, instObj 138 d) :: (d, dictOf [⟨h1, .str (Str.ofString "table") t1, v1⟩, ⟨h2, .str (Str.ofString "column") t2, v2⟩, ⟨h3, .str (Str.ofString "source") t3, .none⟩, ⟨h4, .str (Str.ofString "place") t4, .none⟩, ⟨h5, .str (Str.ofString "depth") t5, .int 0 u5⟩] 5) :: news) → AllLt d news → AllLt x news → (@LT.lt Nat _ d x) → Q (.ref x) { s with heap := h', toks := tk }) :
  wpAny (model PySem.Challenge.rw_xm0760_01.row.prog w) (ktrTop dp un gd cn cs L a ccd cl outer) (call (.ref 138) [v1, v2]) Q E s := by
  w_top off
  k_with_none
  revert X; k_fill; intro X
  cases cs with
  | mk k0 =>
  cases (show k0 = ScopeKind.function from hk)
  k_steps
  exact h _ _ _ _ _ _ _ _ _ _ _ _ _ _ _ (by assumption) (by assumption) (by assumption) (allLt_up (by assumption) (by assumption)) (by assumption)
theorem new_var {w : World} {mean : ExcName → Option Value} {mg mb : Str → Option Value} {dp un : Nat} {gd : Option (List Code)} {cn : Str} {cs : Scope} {a : Addr} {ccd : Value} {cl : List (Str × Addr)} {outer : List Env} {A₀ : Around} {base h₀ : Heap} {L : Addr} {m : Str → Option Value} {news : Led} {s : Shared} {Q E : Value → Shared → Prop} {v1 : Value} (B : Below A₀ base outer h₀) (F : Fr h₀ L s.heap m) (X : (_root_.Mine.top.heap_1_39 w.params).In h₀) (N : News h₀ L s.heap news) (T : Top _root_.Mine.top.view_1_40 Lo mean mg mb h₀) (hk : cs.kind = .function) (hd : dp + 5 < recursionLimit) (hu : un + 60 < cLine)
  (h : ∀ x d h' tk h1 t1, Fr h₀ L h' m → News h₀ L h' ((x, instObj 164 d) :: (d, dictOf [⟨h1, .str (Str.ofString "number") t1, v1⟩] 1) :: news) → AllLt d news → AllLt x news → (@LT.lt Nat _ d x) → Q (.ref x) { s with heap := h', toks := tk }) :
  wpAny (model PySem.Challenge.rw_xm0760_01.row.prog w) (ktrTop dp un gd cn cs L a ccd cl outer) (call (.ref 164) [v1]) Q E s := by
  w_top off
  k_with_none
  revert X; k_fill; intro X
  cases cs with
  | mk k0 =>
  cases (show k0 = ScopeKind.function from hk)
  k_steps
  exact h _ _ _ _ _ _ (by assumption) (by assumption) (by assumption) (allLt_up (by assumption) (by assumption)) (by assumption)
theorem new_un {w : World} {mean : ExcName → Option Value} {mg mb : Str → Option Value} {dp un : Nat} {gd : Option (List Code)} {cn : Str} {cs : Scope} {a : Addr} {ccd : Value} {cl : List (Str × Addr)} {outer : List Env} {A₀ : Around} {base h₀ : Heap} {L : Addr} {m : Str → Option Value} {news : Led} {s : Shared} {Q E : Value → Shared → Prop} {v1 v2 : Value} (B : Below A₀ base outer h₀) (F : Fr h₀ L s.heap m) (X : (_root_.Mine.top.heap_1_39 w.params).In h₀) (N : News h₀ L s.heap news) (T : Top _root_.Mine.top.view_1_40 Lo mean mg mb h₀) (hk : cs.kind = .function) (hd : dp + 5 < recursionLimit) (hu : un + 60 < cLine)
  (h : ∀ x d h' tk h1 t1 h2 t2, Fr h₀ L h' m → News h₀ L h' ((x, instObj 190 d) :: (d, dictOf [⟨h1, .str (Str.ofString "op") t1, v1⟩, ⟨h2, .str (Str.ofString "operand") t2, v2⟩] 2) :: news) → AllLt d news → AllLt x news → (@LT.lt Nat _ d x) → Q (.ref x) { s with heap := h', toks := tk }) :
  wpAny (model PySem.Challenge.rw_xm0760_01.row.prog w) (ktrTop dp un gd cn cs L a ccd cl outer) (call (.ref 190) [v1, v2]) Q E s := by
  w_top off
  k_with_none
  revert X; k_fill; intro X
  cases cs with
  | mk k0 =>
  cases (show k0 = ScopeKind.function from hk)
  k_steps
  exact h _ _ _ _ _ _ _ _ (by assumption) (by assumption) (by assumption) (allLt_up (by assumption) (by assumption)) (by assumption)
theorem new_bin {w : World} {mean : ExcName → Option Value} {mg mb : Str → Option Value} {dp un : Nat} {gd : Option (List Code)} {cn : Str} {cs : Scope} {a : Addr} {ccd : Value} {cl : List (Str × Addr)} {outer : List Env} {A₀ : Around} {base h₀ : Heap} {L : Addr} {m : Str → Option Value} {news : Led} {s : Shared} {Q E : Value → Shared → Prop} {v1 v2 v3 : Value} (B : Below A₀ base outer h₀) (F : Fr h₀ L s.heap m) (X : (_root_.Mine.top.heap_1_39 w.params).In h₀) (N : News h₀ L s.heap news) (T : Top _root_.Mine.top.view_1_40 Lo mean mg mb h₀) (hk : cs.kind = .function) (hd : dp + 5 < recursionLimit) (hu : un + 60 < cLine)
  (h : ∀ x d h' tk h1 t1 h2 t2 h3 t3, Fr h₀ L h' m → News h₀ L h' ((x, instObj 216 d) :: (d, dictOf [⟨h1, .str (Str.ofString "op") t1, v1⟩, ⟨h2, .str (Str.ofString "left") t2, v2⟩, ⟨h3, .str (Str.ofString "right") t3, v3⟩] 3) :: news) → AllLt d news → AllLt x news → (@LT.lt Nat _ d x) → Q (.ref x) { s with heap := h', toks := tk }) :
  wpAny (model PySem.Challenge.rw_xm0760_01.row.prog w) (ktrTop dp un gd cn cs L a ccd cl outer) (call (.ref 216) [v1, v2, v3]) Q E s := by
  w_top off
  k_with_none
  revert X; k_fill; intro X
  cases cs with
  | mk k0 =>
  cases (show k0 = ScopeKind.function from hk)
  k_steps
  exact h _ _ _ _ _ _ _ _ _ _ (by assumption) (by assumption) (by assumption) (allLt_up (by assumption) (by assumption)) (by assumption)
theorem new_betw {w : World} {mean : ExcName → Option Value} {mg mb : Str → Option Value} {dp un : Nat} {gd : Option (List Code)} {cn : Str} {cs : Scope} {a : Addr} {ccd : Value} {cl : List (Str × Addr)} {outer : List Env} {A₀ : Around} {base h₀ : Heap} {L : Addr} {m : Str → Option Value} {news : Led} {s : Shared} {Q E : Value → Shared → Prop} {v1 v2 v3 v4 : Value} (B : Below A₀ base outer h₀) (F : Fr h₀ L s.heap m) (X : (_root_.Mine.top.heap_1_39 w.params).In h₀) (N : News h₀ L s.heap news) (T : Top _root_.Mine.top.view_1_40 Lo mean mg mb h₀) (hk : cs.kind = .function) (hd : dp + 5 < recursionLimit) (hu : un + 60 < cLine)
  (h : ∀ x d h' tk h1 t1 h2 t2 h3 t3 h4 t4, Fr h₀ L h' m → News h₀ L h' ((x, instObj 242 d) :: (d, dictOf [⟨h1, .str (Str.ofString "value") t1, v1⟩, ⟨h2, .str (Str.ofString "low") t2, v2⟩, ⟨h3, .str (Str.ofString "high") t3, v3⟩, ⟨h4, .str (Str.ofString "negated") t4, v4⟩] 4) :: news) → AllLt d news → AllLt x news → (@LT.lt Nat _ d x) → Q (.ref x) { s with heap := h', toks := tk }) :
  wpAny (model PySem.Challenge.rw_xm0760_01.row.prog w) (ktrTop dp un gd cn cs L a ccd cl outer) (call (.ref 242) [v1, v2, v3, v4]) Q E s := by
  w_top off
  k_with_none
  revert X; k_fill; intro X
  cases cs with
  | mk k0 =>
  cases (show k0 = ScopeKind.function from hk)
  k_steps
  exact h _ _ _ _ _ _ _ _ _ _ _ _ (by assumption) (by assumption) (by assumption) (allLt_up (by assumption) (by assumption)) (by assumption)
theorem new_inl {w : World} {mean : ExcName → Option Value} {mg mb : Str → Option Value} {dp un : Nat} {gd : Option (List Code)} {cn : Str} {cs : Scope} {a : Addr} {ccd : Value} {cl : List (Str × Addr)} {outer : List Env} {A₀ : Around} {base h₀ : Heap} {L : Addr} {m : Str → Option Value} {news : Led} {s : Shared} {Q E : Value → Shared → Prop} {v1 v2 v3 : Value} (B : Below A₀ base outer h₀) (F : Fr h₀ L s.heap m) (X : (_root_.Mine.top.heap_1_39 w.params).In h₀) (N : News h₀ L s.heap news) (T : Top _root_.Mine.top.view_1_40 Lo mean mg mb h₀) (hk : cs.kind = .function) (hd : dp + 5 < recursionLimit) (hu : un + 60 < cLine)
  (h : ∀ x d h' tk h1 t1 h2 t2 h3 t3, Fr h₀ L h' m → News h₀ L h' ((x, instObj 268 d) :: (d, dictOf [⟨h1, .str (Str.ofString "value") t1, v1⟩, ⟨h2, .str (Str.ofString "items") t2, v2⟩, ⟨h3, .str (Str.ofString "negated") t3, v3⟩] 3) :: news) → AllLt d news → AllLt x news → (@LT.lt Nat _ d x) → Q (.ref x) { s with heap := h', toks := tk }) :
  wpAny (model PySem.Challenge.rw_xm0760_01.row.prog w) (ktrTop dp un gd cn cs L a ccd cl outer) (call (.ref 268) [v1, v2, v3]) Q E s := by
  w_top off
  k_with_none
  revert X; k_fill; intro X
  cases cs with
  | mk k0 =>
  cases (show k0 = ScopeKind.function from hk)
  k_steps
  exact h _ _ _ _ _ _ _ _ _ _ (by assumption) (by assumption) (by assumption) (allLt_up (by assumption) (by assumption)) (by assumption)
theorem new_insel {w : World} {mean : ExcName → Option Value} {mg mb : Str → Option Value} {dp un : Nat} {gd : Option (List Code)} {cn : Str} {cs : Scope} {a : Addr} {ccd : Value} {cl : List (Str × Addr)} {outer : List Env} {A₀ : Around} {base h₀ : Heap} {L : Addr} {m : Str → Option Value} {news : Led} {s : Shared} {Q E : Value → Shared → Prop} {v1 v2 v3 : Value} (B : Below A₀ base outer h₀) (F : Fr h₀ L s.heap m) (X : (_root_.Mine.top.heap_1_39 w.params).In h₀) (N : News h₀ L s.heap news) (T : Top _root_.Mine.top.view_1_40 Lo mean mg mb h₀) (hk : cs.kind = .function) (hd : dp + 5 < recursionLimit) (hu : un + 60 < cLine)
  (h : ∀ x d h' tk h1 t1 h2 t2 h3 t3, Fr h₀ L h' m → News h₀ L h' ((x, instObj 294 d) :: (d, dictOf [⟨h1, .str (Str.ofString "value") t1, v1⟩, ⟨h2, .str (Str.ofString "select") t2, v2⟩, ⟨h3, .str (Str.ofString "negated") t3, v3⟩] 3) :: news) → AllLt d news → AllLt x news → (@LT.lt Nat _ d x) → Q (.ref x) { s with heap := h', toks := tk }) :
  wpAny (model PySem.Challenge.rw_xm0760_01.row.prog w) (ktrTop dp un gd cn cs L a ccd cl outer) (call (.ref 294) [v1, v2, v3]) Q E s := by
  w_top off
  k_with_none
  revert X; k_fill; intro X
  cases cs with
  | mk k0 =>
  cases (show k0 = ScopeKind.function from hk)
  k_steps
  exact h _ _ _ _ _ _ _ _ _ _ (by assumption) (by assumption) (by assumption) (allLt_up (by assumption) (by assumption)) (by assumption)
theorem new_ex {w : World} {mean : ExcName → Option Value} {mg mb : Str → Option Value} {dp un : Nat} {gd : Option (List Code)} {cn : Str} {cs : Scope} {a : Addr} {ccd : Value} {cl : List (Str × Addr)} {outer : List Env} {A₀ : Around} {base h₀ : Heap} {L : Addr} {m : Str → Option Value} {news : Led} {s : Shared} {Q E : Value → Shared → Prop} {v1 v2 : Value} (B : Below A₀ base outer h₀) (F : Fr h₀ L s.heap m) (X : (_root_.Mine.top.heap_1_39 w.params).In h₀) (N : News h₀ L s.heap news) (T : Top _root_.Mine.top.view_1_40 Lo mean mg mb h₀) (hk : cs.kind = .function) (hd : dp + 5 < recursionLimit) (hu : un + 60 < cLine)
  (h : ∀ x d h' tk h1 t1 h2 t2, Fr h₀ L h' m → News h₀ L h' ((x, instObj 320 d) :: (d, dictOf [⟨h1, .str (Str.ofString "select") t1, v1⟩, ⟨h2, .str (Str.ofString "negated") t2, v2⟩] 2) :: news) → AllLt d news → AllLt x news → (@LT.lt Nat _ d x) → Q (.ref x) { s with heap := h', toks := tk }) :
  wpAny (model PySem.Challenge.rw_xm0760_01.row.prog w) (ktrTop dp un gd cn cs L a ccd cl outer) (call (.ref 320) [v1, v2]) Q E s := by
  w_top off
  k_with_none
  revert X; k_fill; intro X
  cases cs with
  | mk k0 =>
  cases (show k0 = ScopeKind.function from hk)
  k_steps
  exact h _ _ _ _ _ _ _ _ (by assumption) (by assumption) (by assumption) (allLt_up (by assumption) (by assumption)) (by assumption)
theorem new_scal {w : World} {mean : ExcName → Option Value} {mg mb : Str → Option Value} {dp un : Nat} {gd : Option (List Code)} {cn : Str} {cs : Scope} {a : Addr} {ccd : Value} {cl : List (Str × Addr)} {outer : List Env} {A₀ : Around} {base h₀ : Heap} {L : Addr} {m : Str → Option Value} {news : Led} {s : Shared} {Q E : Value → Shared → Prop} {v1 : Value} (B : Below A₀ base outer h₀) (F : Fr h₀ L s.heap m) (X : (_root_.Mine.top.heap_1_39 w.params).In h₀) (N : News h₀ L s.heap news) (T : Top _root_.Mine.top.view_1_40 Lo mean mg mb h₀) (hk : cs.kind = .function) (hd : dp + 5 < recursionLimit) (hu : un + 60 < cLine)
  (h : ∀ x d h' tk h1 t1, Fr h₀ L h' m → News h₀ L h' ((x, instObj 346 d) :: (d, dictOf [⟨h1, .str (Str.ofString "select") t1, v1⟩] 1) :: news) → AllLt d news → AllLt x news → (@LT.lt Nat _ d x) → Q (.ref x) { s with heap := h', toks := tk }) :
  wpAny (model PySem.Challenge.rw_xm0760_01.row.prog w) (ktrTop dp un gd cn cs L a ccd cl outer) (call (.ref 346) [v1]) Q E s := by
  w_top off
  k_with_none
  revert X; k_fill; intro X
  cases cs with
  | mk k0 =>
  cases (show k0 = ScopeKind.function from hk)
  k_steps
  exact h _ _ _ _ _ _ (by assumption) (by assumption) (by assumption) (allLt_up (by assumption) (by assumption)) (by assumption)
theorem new_case {w : World} {mean : ExcName → Option Value} {mg mb : Str → Option Value} {dp un : Nat} {gd : Option (List Code)} {cn : Str} {cs : Scope} {a : Addr} {ccd : Value} {cl : List (Str × Addr)} {outer : List Env} {A₀ : Around} {base h₀ : Heap} {L : Addr} {m : Str → Option Value} {news : Led} {s : Shared} {Q E : Value → Shared → Prop} {v1 v2 v3 : Value} (B : Below A₀ base outer h₀) (F : Fr h₀ L s.heap m) (X : (_root_.Mine.top.heap_1_39 w.params).In h₀) (N : News h₀ L s.heap news) (T : Top _root_.Mine.top.view_1_40 Lo mean mg mb h₀) (hk : cs.kind = .function) (hd : dp + 5 < recursionLimit) (hu : un + 60 < cLine)
  (h : ∀ x d h' tk h1 t1 h2 t2 h3 t3, Fr h₀ L h' m → News h₀ L h' ((x, instObj 370 d) :: (d, dictOf [⟨h1, .str (Str.ofString "base") t1, v1⟩, ⟨h2, .str (Str.ofString "whens") t2, v2⟩, ⟨h3, .str (Str.ofString "other") t3, v3⟩] 3) :: news) → AllLt d news → AllLt x news → (@LT.lt Nat _ d x) → Q (.ref x) { s with heap := h', toks := tk }) :
  wpAny (model PySem.Challenge.rw_xm0760_01.row.prog w) (ktrTop dp un gd cn cs L a ccd cl outer) (call (.ref 370) [v1, v2, v3]) Q E s := by
  w_top off
  k_with_none
  revert X; k_fill; intro X
  cases cs with
  | mk k0 =>
  cases (show k0 = ScopeKind.function from hk)
  k_steps
  exact h _ _ _ _ _ _ _ _ _ _ (by assumption) (by assumption) (by assumption) (allLt_up (by assumption) (by assumption)) (by assumption)
theorem new_call {w : World} {mean : ExcName → Option Value} {mg mb : Str → Option Value} {dp un : Nat} {gd : Option (List Code)} {cn : Str} {cs : Scope} {a : Addr} {ccd : Value} {cl : List (Str × Addr)} {outer : List Env} {A₀ : Around} {base h₀ : Heap} {L : Addr} {m : Str → Option Value} {news : Led} {s : Shared} {Q E : Value → Shared → Prop} {v1 v2 v3 v4 : Value} (B : Below A₀ base outer h₀) (F : Fr h₀ L s.heap m) (X : (_root_.Mine.top.heap_1_39 w.params).In h₀) (N : News h₀ L s.heap news) (T : Top _root_.Mine.top.view_1_40 Lo mean mg mb h₀) (hk : cs.kind = .function) (hd : dp + 5 < recursionLimit) (hu : un + 60 < cLine)
  (h : ∀ x d h' tk h1 t1 h2 t2 h3 t3 h4 t4, Fr h₀ L h' m → News h₀ L h' ((x, instObj 396 d) :: (d, dictOf [⟨h1, .str (Str.ofString "name") t1, v1⟩, ⟨h2, .str (Str.ofString "arguments") t2, v2⟩, ⟨h3, .str (Str.ofString "distinct") t3, v3⟩, ⟨h4, .str (Str.ofString "star") t4, v4⟩] 4) :: news) → AllLt d news → AllLt x news → (@LT.lt Nat _ d x) → Q (.ref x) { s with heap := h', toks := tk }) :
  wpAny (model PySem.Challenge.rw_xm0760_01.row.prog w) (ktrTop dp un gd cn cs L a ccd cl outer) (call (.ref 396) [v1, v2, v3, v4]) Q E s := by
  w_top off
  k_with_none
  revert X; k_fill; intro X
  cases cs with
  | mk k0 =>
  cases (show k0 = ScopeKind.function from hk)
  k_steps
  exact h _ _ _ _ _ _ _ _ _ _ _ _ (by assumption) (by assumption) (by assumption) (allLt_up (by assumption) (by assumption)) (by assumption)
theorem new_cast {w : World} {mean : ExcName → Option Value} {mg mb : Str → Option Value} {dp un : Nat} {gd : Option (List Code)} {cn : Str} {cs : Scope} {a : Addr} {ccd : Value} {cl : List (Str × Addr)} {outer : List Env} {A₀ : Around} {base h₀ : Heap} {L : Addr} {m : Str → Option Value} {news : Led} {s : Shared} {Q E : Value → Shared → Prop} {v1 v2 : Value} (B : Below A₀ base outer h₀) (F : Fr h₀ L s.heap m) (X : (_root_.Mine.top.heap_1_39 w.params).In h₀) (N : News h₀ L s.heap news) (T : Top _root_.Mine.top.view_1_40 Lo mean mg mb h₀) (hk : cs.kind = .function) (hd : dp + 5 < recursionLimit) (hu : un + 60 < cLine)
  (h : ∀ x d h' tk h1 t1 h2 t2, Fr h₀ L h' m → News h₀ L h' ((x, instObj 422 d) :: (d, dictOf [⟨h1, .str (Str.ofString "value") t1, v1⟩, ⟨h2, .str (Str.ofString "type_name") t2, v2⟩] 2) :: news) → AllLt d news → AllLt x news → (@LT.lt Nat _ d x) → Q (.ref x) { s with heap := h', toks := tk }) :
  wpAny (model PySem.Challenge.rw_xm0760_01.row.prog w) (ktrTop dp un gd cn cs L a ccd cl outer) (call (.ref 422) [v1, v2]) Q E s := by
  w_top off
  k_with_none
  revert X; k_fill; intro X
  cases cs with
  | mk k0 =>
  cases (show k0 = ScopeKind.function from hk)
  k_steps
  exact h _ _ _ _ _ _ _ _ (by assumption) (by assumption) (by assumption) (allLt_up (by assumption) (by assumption)) (by assumption)
theorem new_coll {w : World} {mean : ExcName → Option Value} {mg mb : Str → Option Value} {dp un : Nat} {gd : Option (List Code)} {cn : Str} {cs : Scope} {a : Addr} {ccd : Value} {cl : List (Str × Addr)} {outer : List Env} {A₀ : Around} {base h₀ : Heap} {L : Addr} {m : Str → Option Value} {news : Led} {s : Shared} {Q E : Value → Shared → Prop} {v1 v2 : Value} (B : Below A₀ base outer h₀) (F : Fr h₀ L s.heap m) (X : (_root_.Mine.top.heap_1_39 w.params).In h₀) (N : News h₀ L s.heap news) (T : Top _root_.Mine.top.view_1_40 Lo mean mg mb h₀) (hk : cs.kind = .function) (hd : dp + 5 < recursionLimit) (hu : un + 60 < cLine)
  (h : ∀ x d h' tk h1 t1 h2 t2, Fr h₀ L h' m → News h₀ L h' ((x, instObj 448 d) :: (d, dictOf [⟨h1, .str (Str.ofString "value") t1, v1⟩, ⟨h2, .str (Str.ofString "collation") t2, v2⟩] 2) :: news) → AllLt d news → AllLt x news → (@LT.lt Nat _ d x) → Q (.ref x) { s with heap := h', toks := tk }) :
  wpAny (model PySem.Challenge.rw_xm0760_01.row.prog w) (ktrTop dp un gd cn cs L a ccd cl outer) (call (.ref 448) [v1, v2]) Q E s := by
  w_top off
  k_with_none
  revert X; k_fill; intro X
  cases cs with
  | mk k0 =>
  cases (show k0 = ScopeKind.function from hk)
  k_steps
  exact h _ _ _ _ _ _ _ _ (by assumption) (by assumption) (by assumption) (allLt_up (by assumption) (by assumption)) (by assumption)
theorem new_isn {w : World} {mean : ExcName → Option Value} {mg mb : Str → Option Value} {dp un : Nat} {gd : Option (List Code)} {cn : Str} {cs : Scope} {a : Addr} {ccd : Value} {cl : List (Str × Addr)} {outer : List Env} {A₀ : Around} {base h₀ : Heap} {L : Addr} {m : Str → Option Value} {news : Led} {s : Shared} {Q E : Value → Shared → Prop} {v1 v2 : Value} (B : Below A₀ base outer h₀) (F : Fr h₀ L s.heap m) (X : (_root_.Mine.top.heap_1_39 w.params).In h₀) (N : News h₀ L s.heap news) (T : Top _root_.Mine.top.view_1_40 Lo mean mg mb h₀) (hk : cs.kind = .function) (hd : dp + 5 < recursionLimit) (hu : un + 60 < cLine)
  (h : ∀ x d h' tk h1 t1 h2 t2, Fr h₀ L h' m → News h₀ L h' ((x, instObj 474 d) :: (d, dictOf [⟨h1, .str (Str.ofString "value") t1, v1⟩, ⟨h2, .str (Str.ofString "negated") t2, v2⟩] 2) :: news) → AllLt d news → AllLt x news → (@LT.lt Nat _ d x) → Q (.ref x) { s with heap := h', toks := tk }) :
  wpAny (model PySem.Challenge.rw_xm0760_01.row.prog w) (ktrTop dp un gd cn cs L a ccd cl outer) (call (.ref 474) [v1, v2]) Q E s := by
  w_top off
  k_with_none
  revert X; k_fill; intro X
  cases cs with
  | mk k0 =>
  cases (show k0 = ScopeKind.function from hk)
  k_steps
  exact h _ _ _ _ _ _ _ _ (by assumption) (by assumption) (by assumption) (allLt_up (by assumption) (by assumption)) (by assumption)
theorem new_mat {w : World} {mean : ExcName → Option Value} {mg mb : Str → Option Value} {dp un : Nat} {gd : Option (List Code)} {cn : Str} {cs : Scope} {a : Addr} {ccd : Value} {cl : List (Str × Addr)} {outer : List Env} {A₀ : Around} {base h₀ : Heap} {L : Addr} {m : Str → Option Value} {news : Led} {s : Shared} {Q E : Value → Shared → Prop} {v1 v2 v3 v4 v5 : Value} (B : Below A₀ base outer h₀) (F : Fr h₀ L s.heap m) (X : (_root_.Mine.top.heap_1_39 w.params).In h₀) (N : News h₀ L s.heap news) (T : Top _root_.Mine.top.view_1_40 Lo mean mg mb h₀) (hk : cs.kind = .function) (hd : dp + 5 < recursionLimit) (hu : un + 60 < cLine)
  (h : ∀ x d h' tk h1 t1 h2 t2 h3 t3 h4 t4 h5 t5, Fr h₀ L h' m → News h₀ L h' ((x, instObj 500 d) :: (d, dictOf [⟨h1, .str (Str.ofString "word") t1, v1⟩, ⟨h2, .str (Str.ofString "value") t2, v2⟩, ⟨h3, .str (Str.ofString "pattern") t3, v3⟩, ⟨h4, .str (Str.ofString "escape") t4, v4⟩, ⟨h5, .str (Str.ofString "negated") t5, v5⟩] 5) :: news) → AllLt d news → AllLt x news → (@LT.lt Nat _ d x) → Q (.ref x) { s with heap := h', toks := tk }) :
  wpAny (model PySem.Challenge.rw_xm0760_01.row.prog w) (ktrTop dp un gd cn cs L a ccd cl outer) (call (.ref 500) [v1, v2, v3, v4, v5]) Q E s := by
  w_top off
  k_with_none
  revert X; k_fill; intro X
  cases cs with
  | mk k0 =>
  cases (show k0 = ScopeKind.function from hk)
  k_steps
  exact h _ _ _ _ _ _ _ _ _ _ _ _ _ _ (by assumption) (by assumption) (by assumption) (allLt_up (by assumption) (by assumption)) (by assumption)
theorem new_vals {w : World} {mean : ExcName → Option Value} {mg mb : Str → Option Value} {dp un : Nat} {gd : Option (List Code)} {cn : Str} {cs : Scope} {a : Addr} {ccd : Value} {cl : List (Str × Addr)} {outer : List Env} {A₀ : Around} {base h₀ : Heap} {L : Addr} {m : Str → Option Value} {news : Led} {s : Shared} {Q E : Value → Shared → Prop} {v1 : Value} (B : Below A₀ base outer h₀) (F : Fr h₀ L s.heap m) (X : (_root_.Mine.top.heap_1_39 w.params).In h₀) (N : News h₀ L s.heap news) (T : Top _root_.Mine.top.view_1_40 Lo mean mg mb h₀) (hk : cs.kind = .function) (hd : dp + 5 < recursionLimit) (hu : un + 60 < cLine)
  (h : ∀ x d h' tk h1 t1, Fr h₀ L h' m → News h₀ L h' ((x, instObj 524 d) :: (d, dictOf [⟨h1, .str (Str.ofString "rows") t1, v1⟩] 1) :: news) → AllLt d news → AllLt x news → (@LT.lt Nat _ d x) → Q (.ref x) { s with heap := h', toks := tk }) :
  wpAny (model PySem.Challenge.rw_xm0760_01.row.prog w) (ktrTop dp un gd cn cs L a ccd cl outer) (call (.ref 524) [v1]) Q E s := by
  w_top off
  k_with_none
  revert X; k_fill; intro X
  cases cs with
  | mk k0 =>
  cases (show k0 = ScopeKind.function from hk)
  k_steps
  exact h _ _ _ _ _ _ (by assumption) (by assumption) (by assumption) (allLt_up (by assumption) (by assumption)) (by assumption)
theorem new_sel {w : World} {mean : ExcName → Option Value} {mg mb : Str → Option Value} {dp un : Nat} {gd : Option (List Code)} {cn : Str} {cs : Scope} {a : Addr} {ccd : Value} {cl : List (Str × Addr)} {outer : List Env} {A₀ : Around} {base h₀ : Heap} {L : Addr} {m : Str → Option Value} {news : Led} {s : Shared} {Q E : Value → Shared → Prop} {v1 v2 v3 v4 : Value} (B : Below A₀ base outer h₀) (F : Fr h₀ L s.heap m) (X : (_root_.Mine.top.heap_1_39 w.params).In h₀) (N : News h₀ L s.heap news) (T : Top _root_.Mine.top.view_1_40 Lo mean mg mb h₀) (hk : cs.kind = .function) (hd : dp + 5 < recursionLimit) (hu : un + 60 < cLine)
  (h : ∀ x d h' tk h1 t1 h2 t2 h3 t3 h4 t4, Fr h₀ L h' m → News h₀ L h' ((x, instObj 550 d) :: (d, dictOf [⟨h1, .str (Str.ofString "body") t1, v1⟩, ⟨h2, .str (Str.ofString "order") t2, v2⟩, ⟨h3, .str (Str.ofString "limit") t3, v3⟩, ⟨h4, .str (Str.ofString "offset") t4, v4⟩] 4) :: news) → AllLt d news → AllLt x news → (@LT.lt Nat _ d x) → Q (.ref x) { s with heap := h', toks := tk }) :
  wpAny (model PySem.Challenge.rw_xm0760_01.row.prog w) (ktrTop dp un gd cn cs L a ccd cl outer) (call (.ref 550) [v1, v2, v3, v4]) Q E s := by
  w_top off
  k_with_none
  revert X; k_fill; intro X
  cases cs with
  | mk k0 =>
  cases (show k0 = ScopeKind.function from hk)
  k_steps
  exact h _ _ _ _ _ _ _ _ _ _ _ _ (by assumption) (by assumption) (by assumption) (allLt_up (by assumption) (by assumption)) (by assumption)
theorem lcall_ct {w : World} {H : Heap} {src l : Addr} {o : Obj} {W₀ : Kn} {vs : List Value} {ts : List T} {nl n : Nat} (ho : SrcOk o) (hW : ∀ a b, W₀ a b → atX src H a b) (hl : H.get? l = some (_root_.PySem.W.listOf vs.toArray nl)) (hne : l ≠ src) (hP : Paired (PartIn W₀) vs ts) (hg : ∀ t ∈ ts, Good n t) (h1 : 1 ≤ vs.length) (h3 : vs.length ≤ 3) (hn : n ≤ 2) : Ct w H 727 [.ref src, .ref l] 30 600 [(src, o)] (MakeR src H (fun tl r => PartG (orK W₀ (inLed tl)) (n + 1) r)) := by
  w_top off
  k_with_none
  (k_with "call ref" => (k_here; (with_reducible show wpAny _ _ (call (Value.ref 396) [_, _, _, _]) _ _ _); k_dflt (refine' new_call ?q185lB ?q185lF ?q185lX ?q185lN ?q185lT ?q185lk ?q185ld ?q185lu ?_; (case q185lB => k_asm); (case q185lF => k_asm); (case q185lX => k_asm); (case q185lN => k_asm); (case q185lT => k_asm); (case q185lk => first | exact rfl | assumption); (case q185ld => k_room); (case q185lu => k_units)); intro x9 d9 h' tk9 h19 t19 h29 t29 h39 t39 h49 t49 F' N' l1 l2 l3; skip; skip; (try dsimp only)))
  (k_with "call builtin:len" => (k_here; (with_reducible show wpAny _ _ (call (Value.builtin "len") [Value.ref _]) _ _ _); refine call_len_list (isl_base (by k_asm) (by assumption)) (by simp only [List.size_toArray, List.length_map]; omega) ?_; (simp only [List.size_toArray, List.length_map])))
  (k_with "call ref" => (k_here; (with_reducible show wpAny _ _ (call (Value.ref 722) [_]) _ _ _); k_dflt (refine' ct_use (words_ct ?q187h1 ?q187h2 ?q187h3) ?q187lR ?q187lB ?q187lF ?q187lX ?q187lN ?q187lT ?q187lk ?q187ld ?q187lu ?_; (case q187h1 => first | (refine Fr.keep (by k_asm) _ _ ?_; assumption) | (refine' News.get ?q187nN ?q187nM; (case q187nN => k_asm); (case q187nM => k_mem))); (case q187h2 => assumption); (case q187h3 => (rename Paired (PartFull _) _ _ => lQ9); exact (full_words lQ9).mono (fun _ _ x => x.up (Fr.keep (by k_asm)))); (case q187lR => exact fun _ _ h => h.1); (case q187lB => k_asm); (case q187lF => k_asm); (case q187lX => k_asm); (case q187lN => k_asm); (case q187lT => k_asm); (case q187lk => first | exact rfl | assumption); (case q187ld => k_room); (case q187lu => k_units)); intro r9 h' tk9 hr9 hs9 F' N'; (replace hr9 := FreshL.out hr9); obtain ⟨_, l9, n9, he9, hl9, hg9⟩ := hr9; subst he9; (have hN9 := fresh_news (by k_asm) (by k_asm) hs9 hl9 hg9); clear N'; obtain ⟨N', hn9⟩ := hN9; (try dsimp only)))
  (k_with "call ref" => (k_here; (with_reducible show wpAny _ _ (call (Value.ref 694) [_, _]) _ _ _); k_dflt (refine' ct_draw (one_ct ?q188ho ?q188hl ?q188hne ?q188hz ?q188hz2) ?q188lB ?q188lF ?q188lX ?q188lN ?q188lU ?q188lT ?q188lk ?q188ld ?q188lu ?_; (case q188ho => assumption); (case q188hl => refine' News.get ?q188nN ?q188nM; (case q188nN => k_asm); (case q188nM => k_mem)); (case q188hne => k_ne); (case q188hz => exact Nat.le_of_ble_eq_true rfl); (case q188hz2 => exact Nat.le_of_ble_eq_true rfl); (case q188lB => k_asm); (case q188lF => k_asm); (case q188lX => k_asm); (case q188lN => k_asm); (case q188lU => k_updF); (case q188lT => k_asm); (case q188lk => first | exact rfl | assumption); (case q188ld => k_room); (case q188lu => k_units)); intro r9 h' tk9 o9 hr9 ok9 st9 F' N'; (try dsimp only at N'); ((rename Tag 8 _ => lk8); (have hR9 := row_goal (h := h') (r := r9) lk8 (by (simp only [List.cons_append, List.nil_append, List.mem_cons, List.not_mem_nil, or_false] at hr9; rcases hr9 with e9 | e9 | e9 | e9 | e9 | e9 | e9 | e9 | e9; (rw [e9]; exact row_of lk8.out.1 lk8.out.2 N' "count" (true) (by k_dflt k_mem) (by first | rfl | exact int_one) (by simp)); (rw [e9]; exact row_of lk8.out.1 lk8.out.2 N' "Sum" (true) (by k_dflt k_mem) (by first | rfl | exact int_one) (by simp)); (rw [e9]; exact row_of lk8.out.1 lk8.out.2 N' "TOTAL" (true) (by k_dflt k_mem) (by first | rfl | exact int_one) (by simp)); (rw [e9]; exact row_of lk8.out.1 lk8.out.2 N' "group_concat" (true) (by k_dflt k_mem) (by first | rfl | exact int_one) (by simp)); (rw [e9]; exact row_of lk8.out.1 lk8.out.2 N' "min" (decide (_ = 1)) (by k_dflt k_mem) (by first | rfl | exact int_one) (by simp)); (rw [e9]; exact row_of lk8.out.1 lk8.out.2 N' "MAX" (decide (_ = 1)) (by k_dflt k_mem) (by first | rfl | exact int_one) (by simp)); (rw [e9]; exact row_of lk8.out.1 lk8.out.2 N' "abs" (false) (by k_dflt k_mem) (by first | rfl | exact int_one) (by simp)); (rw [e9]; exact row_of lk8.out.1 lk8.out.2 N' "Coalesce" (false) (by k_dflt k_mem) (by first | rfl | exact int_one) (by simp)); (rw [e9]; exact row_of lk8.out.1 lk8.out.2 N' "none" (false) (by k_dflt k_mem) (by first | rfl | exact int_one) (by simp))))); obtain ⟨p9, nm9, t9, b9, he9, hU9, hw9⟩ := hR9; subst he9); (replace N' := news_drop 13 N'; (try simp only [List.drop_succ_cons, List.drop_zero] at N'); (repeat (rename @LT.lt Nat _ _ _ ∧ _ => z9; clear z9)); (repeat (rename AllLt _ _ => z9; clear z9))); (try dsimp only)))
  (k_with "eval ListComp" => (k_here; (rename Paired (PartFull _) _ _ => lQ9); (with_unfolding_all refine' comp_fst lQ9 ?q189q1 ?q189q2 ?q189q3 ?q189q4 ?q189q5 ?_; (case q189q1 => rfl); (case q189q2 => decide); (case q189q3 => rfl); (case q189q4 => decide); (case q189q5 => rfl); k_whole)))
  (k_with "pyIter ref" => (k_here; (rename Fr _ _ _ _ => lF'); (rename News _ _ _ _ => lN'); (rename Paired (PartFull _) _ _ => lQ9); (with_unfolding_all refine comp_list rfl lF' lN' (isl_base lF' (by assumption)) (few_line (by assumption)) ?_ ?_ ?_); (intro C9 v9 s9 m9 E9 hv9 hn9 hm9 hs9 F' N'; exact test_nil); (intro C9 v9 s9 m9 E9 hv9 hp9 hn9 hm9 hs9 F' N'; (obtain ⟨p7, y7, l7, cv7, n7, e7, g7⟩ := full_mem lQ9 hv9); subst e7); rotate_left; (intro D9 n9 h9 tk9 ys9 F' N' hD9 hs9 hP9; (have e9 := fst_fil lQ9 hP9; subst e9))))
  (k_with "EltEnd" => exact fst_end (by assumption) (keeps_self _ _))
  (k_with "subscriptTail" => (k_here; (with_reducible show wpAny _ _ (subscriptTail _ _ (Value.ref _) (Value.int _ _)) _ _ _); (rename Fr _ _ _ _ => lF'); refine item_tupleL (ist_base lF' (by assumption)) (by decide) (by decide) (by rfl) (by rfl) ?_))
  (k_with "binaryOp Add ref ref" => (k_here; (with_reducible show wpAny _ _ (binaryOp _ (Value.ref _) (Value.ref _)) _ _ _); k_dflt (refine' my_add ?q193lF ?q193lN ?q193la ?q193lb ?q193lz ?_; (case q193lF => k_asm); (case q193lN => k_asm); (case q193la => k_mem); (case q193lb => k_mem); (case q193lz => first | exact room1 (by assumption) | exact room2 (by assumption))); intro D' h' F' N' l1; (try k_lt l1); (try k_sweep)))
  (k_with "unpackItems ref" => (k_here; k_dflt (refine' unpackItemsN_ ?q194k1 ?q194k2 ?q194k3 ?q194k4 ?q194k5 ?_; (case q194k1 => k_asm); (case q194k2 => k_asm); (case q194k3 => assumption); (case q194k4 => exact rfl); (case q194k5 => exact rfl); k_whole); intro h' F' N'; (try k_sweep)))
  intro mean mg mb dp un gd cn cs a₁ ccd cl outer A₀ base h₀ L m s Q E hH B F X N T hk hd hu hret
  revert X; k_fill; intro X
  subst hH
  refine wpAny_call ?_
  k_dflt (refine' code_defG (binds := [(Str.ofString "source", .ref src), (Str.ofString "parts", .ref l)]) ?k1 ?k2 ?k3 N ?k5 ?kA ?kF ?kK ?k6 ?k7 ?k8 ?k9 ?kB ?_ ?c2 ?c3 ?c4 ?c5; (case kA => exact rfl); (case kF => exact rfl); (case kK => assumption); (case k1 => k_asm); (case k2 => k_asm); (case k3 => k_asm); (case k5 => k_asm); (case k6 => k_is); (case k7 => k_is); (case k8 => k_room); (case k9 => first | exact BindsTo.of_eq rfl | exact binds_K (by k_in) rfl (by k_is) rfl rfl rfl); (case c5 => decide); (case kB => exact locs rfl); (case c2 => exact rfl); (case c3 => exact rfl); (case c4 => exact rfl); k_whole)
  intro g' L' h' FG' F' N' B' X' T' G'
  (try dsimp only [List.reverse_cons, List.reverse_nil, List.nil_append, List.cons_append] at F'); (try dsimp only); (refine (?_ : let A9 : Around := _; wpAny _ A9 _ _ _ _); intro A9); (try k_fold)
  replace hl := gsub_x G' _ _ hne hl
  have hW' : ∀ a b, W₀ a b → g'.get? a = some b := fun a b x => gsub_x G' _ _ (hW a b x).1 (hW a b x).2
  obtain ⟨qs, hQ, hT, hWd⟩ := parts_full hW' hP
  have hz : ((qs.map (·.2)).flatten).length ≤ 10000 := words_bound hWd hg hP h3 hn
  have hk8 : Tag 8 (1 ≤ vs.length ∧ vs.length ≤ 3) := ⟨h1, h3⟩
  have hlen : (qs.map (·.1)).length = vs.length := by rw [← hT.len, hP.length]
  k_steps
  all_goals first | (exfalso; omega) | skip
  all_goals ((rename rowOk _ _ _ => hw9); (rename News g' _ _ _ => N9); (rename Fr g' _ _ _ => F9); (refine hret _ _ _ (make_end G' F9 N9 (by k_mem) (by assumption) (orK_end ?_))); first | (refine' part_callA ?y1 ?y2 ?y3 ?y4 ?y5 ?y6 ?za ?zb ?zc ?zd ?ze ?zf ?zg; (case y1 => exact row_fold hw9); (case y2 => first | exact (Eq.trans (by rw [hlen]) (row_yes1 hw9 (by assumption) (by assumption))) | exact (Eq.trans (by rw [hlen]) (row_yes2 hw9 (by assumption) (by assumption) (by assumption)))); (case y3 => exact hT.mono orK_l); (case y4 => exact hWd.mono orK_l); (case y5 => exact hg); (case y6 => rw [hlen]; exact h3); (case za => refine' Or.inr (And.intro ?zz1 ?zz2); (case zz1 => k_mem); (case zz2 => k_ne)); (case zb => refine' Or.inr (And.intro ?zz1 ?zz2); (case zz1 => k_mem); (case zz2 => k_ne)); (case zc => refine' Or.inr (And.intro ?zz1 ?zz2); (case zz1 => k_mem); (case zz2 => k_ne)); (case zd => refine' Or.inr (And.intro ?zz1 ?zz2); (case zz1 => k_mem); (case zz2 => k_ne)); (case ze => refine' Or.inr (And.intro ?zz1 ?zz2); (case zz1 => k_mem); (case zz2 => k_ne)); (case zf => refine' Or.inr (And.intro ?zz1 ?zz2); (case zz1 => k_mem); (case zz2 => k_ne)); (case zg => refine' Or.inr (And.intro ?zz1 ?zz2); (case zz1 => k_mem); (case zz2 => k_ne))) | (refine' part_callP ?y1 ?y2 ?y3 ?y4 ?y5 ?y6 ?za ?zb ?ze ?zf ?zg; (case y1 => exact row_fold hw9); (case y2 => first | exact (Eq.trans (by rw [hlen]) (row_no1 hw9 (by assumption))) | exact (Eq.trans (by rw [hlen]) (row_no2 hw9 (by assumption) (by assumption))) | exact (Eq.trans (by rw [hlen]) (row_no3 hw9 (by assumption) (by assumption)))); (case y3 => exact hT.mono orK_l); (case y4 => exact hWd.mono orK_l); (case y5 => exact hg); (case y6 => rw [hlen]; exact h3); (case za => refine' Or.inr (And.intro ?zz1 ?zz2); (case zz1 => k_mem); (case zz2 => k_ne)); (case zb => refine' Or.inr (And.intro ?zz1 ?zz2); (case zz1 => k_mem); (case zz2 => k_ne)); (case ze => refine' Or.inr (And.intro ?zz1 ?zz2); (case zz1 => k_mem); (case zz2 => k_ne)); (case zf => refine' Or.inr (And.intro ?zz1 ?zz2); (case zz1 => k_mem); (case zz2 => k_ne)); (case zg => refine' Or.inr (And.intro ?zz1 ?zz2); (case zz1 => k_mem); (case zz2 => k_ne))))
theorem column_ct {w : World} {H : Heap} {c : Str} {t : Tok} : Ct w H 701 [.str c t] 10 200 [] (NewR H (fun tl r => ∃ a, r = .ref a ∧ NodeIn (inLed tl) a .name (.name c) [])) := by
  w_top off
  k_with_none
  (k_with "call ref" => (k_here; (with_reducible show wpAny _ _ (call (Value.ref 138) [_, _]) _ _ _); k_dflt (refine' new_name ?q225lB ?q225lF ?q225lX ?q225lN ?q225lT ?q225lk ?q225ld ?q225lu ?_; (case q225lB => k_asm); (case q225lF => k_asm); (case q225lX => k_asm); (case q225lN => k_asm); (case q225lT => k_asm); (case q225lk => first | exact rfl | assumption); (case q225ld => k_room); (case q225lu => k_units)); intro x9 d9 h' tk9 h19 t19 h29 t29 h39 t39 h49 t49 u59 h59 t59 F' N' l1 l2 l3; skip; skip; (try dsimp only)))
  intro mean mg mb dp un gd cn cs a₁ ccd cl outer A₀ base h₀ L m s Q E hH B F X N T hk hd hu hret
  revert X; k_fill; intro X
  subst hH
  refine wpAny_call ?_
  k_dflt (refine' code_defG (binds := [(Str.ofString "collation", .str c t)]) ?k1 ?k2 ?k3 N ?k5 ?kA ?kF ?kK ?k6 ?k7 ?k8 ?k9 ?kB ?_ ?c2 ?c3 ?c4 ?c5; (case kA => exact rfl); (case kF => exact rfl); (case kK => assumption); (case k1 => k_asm); (case k2 => k_asm); (case k3 => k_asm); (case k5 => k_asm); (case k6 => k_is); (case k7 => k_is); (case k8 => k_room); (case k9 => first | exact BindsTo.of_eq rfl | exact binds_K (by k_in) rfl (by k_is) rfl rfl rfl); (case c5 => decide); (case kB => exact locs rfl); (case c2 => exact rfl); (case c3 => exact rfl); (case c4 => exact rfl); k_whole)
  intro g' L' h' FG' F' N' B' X' T' G'
  (try dsimp only [List.reverse_cons, List.reverse_nil, List.nil_append, List.cons_append] at F'); (try dsimp only); (refine (?_ : let A9 : Around := _; wpAny _ A9 _ _ _ _); intro A9); (try k_fold)
  k_steps
  refine' hret _ _ _ (new_end G' ?fF ?fN ⟨_, rfl, ?_⟩); (case fF => assumption); (case fN => assumption)
  refine' NodeIn.name ?a ?b; (case a => (with_reducible show _ ∈ _); k_mem); (case b => (with_reducible show _ ∈ _); k_mem)
theorem select_ct {w : World} {H : Heap} : Ct w H 708 [] 10 200 [] (fun h' r => Stay H h' ∧ ∃ a, r = .ref a) := by
  w_top off
  k_with_none
  (k_with "call ref" => (k_here; (with_reducible show wpAny _ _ (call (Value.ref 164) [_]) _ _ _); k_dflt (refine' new_var ?q226lB ?q226lF ?q226lX ?q226lN ?q226lT ?q226lk ?q226ld ?q226lu ?_; (case q226lB => k_asm); (case q226lF => k_asm); (case q226lX => k_asm); (case q226lN => k_asm); (case q226lT => k_asm); (case q226lk => first | exact rfl | assumption); (case q226ld => k_room); (case q226lu => k_units)); intro x9 d9 h' tk9 h19 t19 F' N' l1 l2 l3; skip; skip; (try dsimp only)))
  (k_with "call ref" => (k_here; (with_reducible show wpAny _ _ (call (Value.ref 448) [_, _]) _ _ _); k_dflt (refine' new_coll ?q227lB ?q227lF ?q227lX ?q227lN ?q227lT ?q227lk ?q227ld ?q227lu ?_; (case q227lB => k_asm); (case q227lF => k_asm); (case q227lX => k_asm); (case q227lN => k_asm); (case q227lT => k_asm); (case q227lk => first | exact rfl | assumption); (case q227ld => k_room); (case q227lu => k_units)); intro x9 d9 h' tk9 h19 t19 h29 t29 F' N' l1 l2 l3; skip; skip; (try dsimp only)))
  (k_with "call ref" => (k_here; (with_reducible show wpAny _ _ (call (Value.ref 112) [_]) _ _ _); k_dflt (refine' new_lit ?q228lB ?q228lF ?q228lX ?q228lN ?q228lT ?q228lk ?q228ld ?q228lu ?_; (case q228lB => k_asm); (case q228lF => k_asm); (case q228lX => k_asm); (case q228lN => k_asm); (case q228lT => k_asm); (case q228lk => first | exact rfl | assumption); (case q228ld => k_room); (case q228lu => k_units)); intro x9 d9 h' tk9 h19 t19 F' N' l1 l2 l3; skip; skip; (try dsimp only)))
  (k_with "call ref" => (k_here; (with_reducible show wpAny _ _ (call (Value.ref 396) [_, _, _, _]) _ _ _); k_dflt (refine' new_call ?q229lB ?q229lF ?q229lX ?q229lN ?q229lT ?q229lk ?q229ld ?q229lu ?_; (case q229lB => k_asm); (case q229lF => k_asm); (case q229lX => k_asm); (case q229lN => k_asm); (case q229lT => k_asm); (case q229lk => first | exact rfl | assumption); (case q229ld => k_room); (case q229lu => k_units)); intro x9 d9 h' tk9 h19 t19 h29 t29 h39 t39 h49 t49 F' N' l1 l2 l3; skip; skip; (try dsimp only)))
  (k_with "call ref" => (k_here; (with_reducible show wpAny _ _ (call (Value.ref 138) [_, _]) _ _ _); k_dflt (refine' new_name ?q230lB ?q230lF ?q230lX ?q230lN ?q230lT ?q230lk ?q230ld ?q230lu ?_; (case q230lB => k_asm); (case q230lF => k_asm); (case q230lX => k_asm); (case q230lN => k_asm); (case q230lT => k_asm); (case q230lk => first | exact rfl | assumption); (case q230ld => k_room); (case q230lu => k_units)); intro x9 d9 h' tk9 h19 t19 h29 t29 h39 t39 h49 t49 u59 h59 t59 F' N' l1 l2 l3; skip; skip; (try dsimp only)))
  (k_with "call ref" => (k_here; (with_reducible show wpAny _ _ (call (Value.ref 524) [_]) _ _ _); k_dflt (refine' new_vals ?q231lB ?q231lF ?q231lX ?q231lN ?q231lT ?q231lk ?q231ld ?q231lu ?_; (case q231lB => k_asm); (case q231lF => k_asm); (case q231lX => k_asm); (case q231lN => k_asm); (case q231lT => k_asm); (case q231lk => first | exact rfl | assumption); (case q231ld => k_room); (case q231lu => k_units)); intro x9 d9 h' tk9 h19 t19 F' N' l1 l2 l3; skip; skip; (try dsimp only)))
  (k_with "call ref" => (k_here; (with_reducible show wpAny _ _ (call (Value.ref 550) [_, _, _, _]) _ _ _); k_dflt (refine' new_sel ?q232lB ?q232lF ?q232lX ?q232lN ?q232lT ?q232lk ?q232ld ?q232lu ?_; (case q232lB => k_asm); (case q232lF => k_asm); (case q232lX => k_asm); (case q232lN => k_asm); (case q232lT => k_asm); (case q232lk => first | exact rfl | assumption); (case q232ld => k_room); (case q232lu => k_units)); intro x9 d9 h' tk9 h19 t19 h29 t29 h39 t39 h49 t49 F' N' l1 l2 l3; skip; skip; (try dsimp only)))
  intro mean mg mb dp un gd cn cs a₁ ccd cl outer A₀ base h₀ L m s Q E hH B F X N T hk hd hu hret
  revert X; k_fill; intro X
  subst hH
  refine wpAny_call ?_
  k_dflt (refine' code_defG (binds := ([] : List (Str × Value))) ?k1 ?k2 ?k3 N ?k5 ?kA ?kF ?kK ?k6 ?k7 ?k8 ?k9 ?kB ?_ ?c2 ?c3 ?c4 ?c5; (case kA => exact rfl); (case kF => exact rfl); (case kK => assumption); (case k1 => k_asm); (case k2 => k_asm); (case k3 => k_asm); (case k5 => k_asm); (case k6 => k_is); (case k7 => k_is); (case k8 => k_room); (case k9 => first | exact BindsTo.of_eq rfl | exact binds_K (by k_in) rfl (by k_is) rfl rfl rfl); (case c5 => decide); (case kB => exact locs rfl); (case c2 => exact rfl); (case c3 => exact rfl); (case c4 => exact rfl); k_whole)
  intro g' L' h' FG' F' N' B' X' T' G'
  (try dsimp only [List.reverse_cons, List.reverse_nil, List.nil_append, List.cons_append] at F'); (try dsimp only); (refine (?_ : let A9 : Around := _; wpAny _ A9 _ _ _ _); intro A9); (try k_fold)
  k_steps
  (rename Fr g' _ _ _ => F9)
  exact hret _ _ _ ⟨stay_of G' F9, _, rfl⟩
theorem leaf_ct {w : World} {H : Heap} {src : Addr} {o : Obj} (ho : SrcOk o) : Ct w H 715 [.ref src] 20 400 [(src, o)] (MakeR src H (fun tl r => PartG (inLed tl) 0 r)) := by
  w_top off
  k_with_none
  (k_with "call ref" => (k_here; (with_reducible show wpAny _ _ (call (Value.ref 112) [_]) _ _ _); k_dflt (refine' new_lit ?q233lB ?q233lF ?q233lX ?q233lN ?q233lT ?q233lk ?q233ld ?q233lu ?_; (case q233lB => k_asm); (case q233lF => k_asm); (case q233lX => k_asm); (case q233lN => k_asm); (case q233lT => k_asm); (case q233lk => first | exact rfl | assumption); (case q233ld => k_room); (case q233lu => k_units)); intro x9 d9 h' tk9 h19 t19 F' N' l1 l2 l3; skip; skip; (try dsimp only)))
  (k_with "call ref" => (k_here; (with_reducible show wpAny _ _ (call (Value.ref 164) [_]) _ _ _); k_dflt (refine' new_var ?q234lB ?q234lF ?q234lX ?q234lN ?q234lT ?q234lk ?q234ld ?q234lu ?_; (case q234lB => k_asm); (case q234lF => k_asm); (case q234lX => k_asm); (case q234lN => k_asm); (case q234lT => k_asm); (case q234lk => first | exact rfl | assumption); (case q234ld => k_room); (case q234lu => k_units)); intro x9 d9 h' tk9 h19 t19 F' N' l1 l2 l3; skip; skip; (try dsimp only)))
  (k_with "call ref" => (k_here; (with_reducible show wpAny _ _ (call (Value.ref 346) [_]) _ _ _); k_dflt (refine' new_scal ?q235lB ?q235lF ?q235lX ?q235lN ?q235lT ?q235lk ?q235ld ?q235lu ?_; (case q235lB => k_asm); (case q235lF => k_asm); (case q235lX => k_asm); (case q235lN => k_asm); (case q235lT => k_asm); (case q235lk => first | exact rfl | assumption); (case q235ld => k_room); (case q235lu => k_units)); intro x9 d9 h' tk9 h19 t19 F' N' l1 l2 l3; skip; skip; (try dsimp only)))
  (k_with "call ref" => (k_here; (with_reducible show wpAny _ _ (call (Value.ref 320) [_, _]) _ _ _); k_dflt (refine' new_ex ?q236lB ?q236lF ?q236lX ?q236lN ?q236lT ?q236lk ?q236ld ?q236lu ?_; (case q236lB => k_asm); (case q236lF => k_asm); (case q236lX => k_asm); (case q236lN => k_asm); (case q236lT => k_asm); (case q236lk => first | exact rfl | assumption); (case q236ld => k_room); (case q236lu => k_units)); intro x9 d9 h' tk9 h19 t19 h29 t29 F' N' l1 l2 l3; skip; skip; (try dsimp only)))
  (k_with "call builtin:len" => (k_here; (with_reducible show wpAny _ _ (call (Value.builtin "len") [Value.ref _]) _ _ _); refine call_len_list (isl_base (by k_asm) (by assumption)) (by simp only [List.size_toArray, List.length_map]; omega) ?_; (simp only [List.size_toArray, List.length_map])))
  (k_with "call ref" => (k_here; (with_reducible show wpAny _ _ (call (Value.ref 687) [_, _]) _ _ _); k_dflt (refine' ct_draw (take_ct ?q238ho ?q238ht ?q238ht2) ?q238lB ?q238lF ?q238lX ?q238lN ?q238lU ?q238lT ?q238lk ?q238ld ?q238lu ?_; (case q238ho => assumption); (case q238ht => first | decide | omega); (case q238ht2 => first | decide | omega); (case q238lB => k_asm); (case q238lF => k_asm); (case q238lX => k_asm); (case q238lN => k_asm); (case q238lU => k_updF); (case q238lT => k_asm); (case q238lk => first | exact rfl | assumption); (case q238ld => k_room); (case q238lu => k_units)); intro r9 h' tk9 o9 hr9 ok9 st9 F' N'; (try dsimp only at N'); obtain ⟨k9, t9, he9, h09, h19⟩ := hr9; subst he9; (try dsimp only)))
  (k_with "call ref" => (k_here; (with_reducible show wpAny _ _ (call (Value.ref 694) [_, _]) _ _ _); k_dflt (refine' ct_draw (one_ct ?q239ho ?q239hl ?q239hne ?q239hz ?q239hz2) ?q239lB ?q239lF ?q239lX ?q239lN ?q239lU ?q239lT ?q239lk ?q239ld ?q239lu ?_; (case q239ho => assumption); (case q239hl => refine' News.get ?q239nN ?q239nM; (case q239nN => k_asm); (case q239nM => k_mem)); (case q239hne => k_ne); (case q239hz => exact Nat.le_of_ble_eq_true rfl); (case q239hz2 => exact Nat.le_of_ble_eq_true rfl); (case q239lB => k_asm); (case q239lF => k_asm); (case q239lX => k_asm); (case q239lN => k_asm); (case q239lU => k_updF); (case q239lT => k_asm); (case q239lk => first | exact rfl | assumption); (case q239ld => k_room); (case q239lu => k_units)); intro r9 h' tk9 o9 hr9 ok9 st9 F' N'; (try dsimp only at N'); (first | (obtain ⟨c9, t9, he9, hc9⟩ := colls_of hr9; subst he9) | skip); (try dsimp only)))
  (k_with "call ref" => (k_here; (with_reducible show wpAny _ _ (call (Value.ref 708) _) _ _ _); (try dsimp only [List.nil_append]); k_dflt (refine' ct_use select_ct ?q240lR ?q240lB ?q240lF ?q240lX ?q240lN ?q240lT ?q240lk ?q240ld ?q240lu ?_; (case q240lR => exact fun _ _ h => h.1); (case q240lB => k_asm); (case q240lF => k_asm); (case q240lX => k_asm); (case q240lN => k_asm); (case q240lT => k_asm); (case q240lk => first | exact rfl | assumption); (case q240ld => k_room); (case q240lu => k_units)); intro r9 h' tk9 hr9 hs9 F' N'; obtain ⟨_, a9, he9⟩ := hr9; subst he9; (try dsimp only)))
  (k_with "call ref" => (k_here; (with_reducible show wpAny _ _ (call (Value.ref 701) [_]) _ _ _); k_dflt (refine' ct_new column_ct ?q241lo ?q241lB ?q241lF ?q241lX ?q241lN ?q241lU ?q241lt ?q241lT ?q241lk ?q241ld ?q241lu ?_; (case q241lo => assumption); (case q241lB => k_asm); (case q241lF => k_asm); (case q241lX => k_asm); (case q241lN => k_asm); (case q241lU => k_updF); (case q241lt => first | assumption | exact (fun p hp => nomatch hp)); (case q241lT => k_asm); (case q241lk => first | exact rfl | assumption); (case q241ld => k_room); (case q241lu => k_units)); intro r9 h' tk9 tl9 tl9' sub9 hr9 subr9 hT9 st9 F' N'; (try dsimp only at N'); obtain ⟨a9, he9, hn9⟩ := hr9; subst he9; (replace hn9 := hn9.mono subr9); clear sub9 subr9; (try dsimp only)))
  intro mean mg mb dp un gd cn cs a₁ ccd cl outer A₀ base h₀ L m s Q E hH B F X N T hk hd hu hret
  revert X; k_fill; intro X
  subst hH
  refine wpAny_call ?_
  k_dflt (refine' code_defG (binds := [(Str.ofString "source", .ref src)]) ?k1 ?k2 ?k3 N ?k5 ?kA ?kF ?kK ?k6 ?k7 ?k8 ?k9 ?kB ?_ ?c2 ?c3 ?c4 ?c5; (case kA => exact rfl); (case kF => exact rfl); (case kK => assumption); (case k1 => k_asm); (case k2 => k_asm); (case k3 => k_asm); (case k5 => k_asm); (case k6 => k_is); (case k7 => k_is); (case k8 => k_room); (case k9 => first | exact BindsTo.of_eq rfl | exact binds_K (by k_in) rfl (by k_is) rfl rfl rfl); (case c5 => decide); (case kB => exact locs rfl); (case c2 => exact rfl); (case c3 => exact rfl); (case c4 => exact rfl); k_whole)
  intro g' L' h' FG' F' N' B' X' T' G'
  (try dsimp only [List.reverse_cons, List.reverse_nil, List.nil_append, List.cons_append] at F'); (try dsimp only); (refine (?_ : let A9 : Around := _; wpAny _ A9 _ _ _ _); intro A9); (try k_fold)
  k_steps
  try (all_goals skip)
  all_goals ((rename News g' _ _ _ => N9); (rename Fr g' _ _ _ => F9); (refine hret _ _ _ (make_end G' F9 N9 (by k_mem) (by assumption) (part_end ?_))); first | (refine' part_lit ?za ?zb ?zc ?zd; (case za => refine' And.intro ?zz1 ?zz2; (case zz1 => k_mem); (case zz2 => k_ne)); (case zb => refine' And.intro ?zz1 ?zz2; (case zz1 => k_mem); (case zz2 => k_ne)); (case zc => refine' And.intro ?zz1 ?zz2; (case zz1 => k_mem); (case zz2 => k_ne)); (case zd => refine' And.intro ?zz1 ?zz2; (case zz1 => k_mem); (case zz2 => k_ne))) | (refine' part_var ?za ?zb ?zc ?zd ?ze; (case za => refine' And.intro ?zz1 ?zz2; (case zz1 => k_mem); (case zz2 => k_ne)); (case zb => refine' And.intro ?zz1 ?zz2; (case zz1 => k_mem); (case zz2 => k_ne)); (case zc => refine' And.intro ?zz1 ?zz2; (case zz1 => k_mem); (case zz2 => k_ne)); (case zd => refine' And.intro ?zz1 ?zz2; (case zz1 => k_mem); (case zz2 => k_ne)); (case ze => refine' And.intro ?zz1 ?zz2; (case zz1 => k_mem); (case zz2 => k_ne))) | ((rename (_ : Value) ∈ _ => hr9); rcases two_of hr9 with rfl | rfl; (refine' part_scal ?za ?zb ?zc ?zd ?ze; (case za => refine' And.intro ?zz1 ?zz2; (case zz1 => k_mem); (case zz2 => k_ne)); (case zb => refine' And.intro ?zz1 ?zz2; (case zz1 => k_mem); (case zz2 => k_ne)); (case zc => refine' And.intro ?zz1 ?zz2; (case zz1 => k_mem); (case zz2 => k_ne)); (case zd => refine' And.intro ?zz1 ?zz2; (case zz1 => k_mem); (case zz2 => k_ne)); (case ze => refine' And.intro ?zz1 ?zz2; (case zz1 => k_mem); (case zz2 => k_ne))); (refine' part_ex ?za ?zb ?zc ?zd ?ze; (case za => refine' And.intro ?zz1 ?zz2; (case zz1 => k_mem); (case zz2 => k_ne)); (case zb => refine' And.intro ?zz1 ?zz2; (case zz1 => k_mem); (case zz2 => k_ne)); (case zc => refine' And.intro ?zz1 ?zz2; (case zz1 => k_mem); (case zz2 => k_ne)); (case zd => refine' And.intro ?zz1 ?zz2; (case zz1 => k_mem); (case zz2 => k_ne)); (case ze => refine' And.intro ?zz1 ?zz2; (case zz1 => k_mem); (case zz2 => k_ne)))) | ((rename NodeIn _ _ _ _ _ => hn9); refine' part_name (by assumption) ?za ?zb ?zc ?zd; (case za => refine' And.intro ?zz1 ?zz2; (case zz1 => k_mem); (case zz2 => k_ne)); (case zb => refine' And.intro ?zz1 ?zz2; (case zz1 => k_mem); (case zz2 => k_ne)); (case zc => refine' And.intro ?zz1 ?zz2; (case zz1 => k_mem); (case zz2 => k_ne)); (case zd => exact hn9.mono (in_off (by first | exact in_self | exact in_cons in_self | exact in_cons (in_cons in_self) | (repeat (first | exact in_self | refine in_cons ?_))) (by assumption)))))
theorem bare_ct {w : World} {H : Heap} {src : Addr} {o : Obj} (ho : SrcOk o) : Ct w H 734 [.ref src] 20 400 [(src, o)] (MakeR src H (fun tl r => PartG (inLed tl) 0 r)) := by
  w_top off
  k_with_none
  (k_with "call ref" => (k_here; (with_reducible show wpAny _ _ (call (Value.ref 396) [_, _, _, _]) _ _ _); k_dflt (refine' new_call ?q242lB ?q242lF ?q242lX ?q242lN ?q242lT ?q242lk ?q242ld ?q242lu ?_; (case q242lB => k_asm); (case q242lF => k_asm); (case q242lX => k_asm); (case q242lN => k_asm); (case q242lT => k_asm); (case q242lk => first | exact rfl | assumption); (case q242ld => k_room); (case q242lu => k_units)); intro x9 d9 h' tk9 h19 t19 h29 t29 h39 t39 h49 t49 F' N' l1 l2 l3; skip; skip; (try dsimp only)))
  (k_with "call ref" => (k_here; (with_reducible show wpAny _ _ (call (Value.ref 687) [_, _]) _ _ _); k_dflt (refine' ct_draw (take_ct ?q243ho ?q243ht ?q243ht2) ?q243lB ?q243lF ?q243lX ?q243lN ?q243lU ?q243lT ?q243lk ?q243ld ?q243lu ?_; (case q243ho => assumption); (case q243ht => first | decide | omega); (case q243ht2 => first | decide | omega); (case q243lB => k_asm); (case q243lF => k_asm); (case q243lX => k_asm); (case q243lN => k_asm); (case q243lU => k_updF); (case q243lT => k_asm); (case q243lk => first | exact rfl | assumption); (case q243ld => k_room); (case q243lu => k_units)); intro r9 h' tk9 o9 hr9 ok9 st9 F' N'; (try dsimp only at N'); obtain ⟨k9, t9, he9, h09, h19⟩ := hr9; subst he9; (try dsimp only)))
  (k_with "call ref" => (k_here; (with_reducible show wpAny _ _ (call (Value.ref 694) [_, _]) _ _ _); k_dflt (refine' ct_draw (one_ct ?q244ho ?q244hl ?q244hne ?q244hz ?q244hz2) ?q244lB ?q244lF ?q244lX ?q244lN ?q244lU ?q244lT ?q244lk ?q244ld ?q244lu ?_; (case q244ho => assumption); (case q244hl => refine' News.get ?q244nN ?q244nM; (case q244nN => k_asm); (case q244nM => k_mem)); (case q244hne => k_ne); (case q244hz => exact Nat.le_of_ble_eq_true rfl); (case q244hz2 => exact Nat.le_of_ble_eq_true rfl); (case q244lB => k_asm); (case q244lF => k_asm); (case q244lX => k_asm); (case q244lN => k_asm); (case q244lU => k_updF); (case q244lT => k_asm); (case q244lk => first | exact rfl | assumption); (case q244ld => k_room); (case q244lu => k_units)); intro r9 h' tk9 o9 hr9 ok9 st9 F' N'; (try dsimp only at N'); (first | (obtain ⟨c9, t9, he9, hc9⟩ := bare_of hr9; subst he9) | skip); (try dsimp only)))
  intro mean mg mb dp un gd cn cs a₁ ccd cl outer A₀ base h₀ L m s Q E hH B F X N T hk hd hu hret
  revert X; k_fill; intro X
  subst hH
  refine wpAny_call ?_
  k_dflt (refine' code_defG (binds := [(Str.ofString "source", .ref src)]) ?k1 ?k2 ?k3 N ?k5 ?kA ?kF ?kK ?k6 ?k7 ?k8 ?k9 ?kB ?_ ?c2 ?c3 ?c4 ?c5; (case kA => exact rfl); (case kF => exact rfl); (case kK => assumption); (case k1 => k_asm); (case k2 => k_asm); (case k3 => k_asm); (case k5 => k_asm); (case k6 => k_is); (case k7 => k_is); (case k8 => k_room); (case k9 => first | exact BindsTo.of_eq rfl | exact binds_K (by k_in) rfl (by k_is) rfl rfl rfl); (case c5 => decide); (case kB => exact locs rfl); (case c2 => exact rfl); (case c3 => exact rfl); (case c4 => exact rfl); k_whole)
  intro g' L' h' FG' F' N' B' X' T' G'
  (try dsimp only [List.reverse_cons, List.reverse_nil, List.nil_append, List.cons_append] at F'); (try dsimp only); (refine (?_ : let A9 : Around := _; wpAny _ A9 _ _ _ _); intro A9); (try k_fold)
  k_steps
  all_goals ((rename News g' _ _ _ => N9); (rename Fr g' _ _ _ => F9); (refine hret _ _ _ (make_end G' F9 N9 (by k_mem) (by assumption) (part_end ?_))); first | (refine' part_bare1 ?q1 ?q2 ?za ?zb ?zc ?zd ?zw ?zy ?zz; (case q1 => assumption); (case q2 => assumption); (case za => refine' And.intro ?zz1 ?zz2; (case zz1 => k_mem); (case zz2 => k_ne)); (case zb => refine' And.intro ?zz1 ?zz2; (case zz1 => k_mem); (case zz2 => k_ne)); (case zc => refine' And.intro ?zz1 ?zz2; (case zz1 => k_mem); (case zz2 => k_ne)); (case zd => refine' And.intro ?zz1 ?zz2; (case zz1 => k_mem); (case zz2 => k_ne)); (case zw => refine' And.intro ?zz1 ?zz2; (case zz1 => k_mem); (case zz2 => k_ne)); (case zy => refine' And.intro ?zz1 ?zz2; (case zz1 => k_mem); (case zz2 => k_ne)); (case zz => refine' And.intro ?zz1 ?zz2; (case zz1 => k_mem); (case zz2 => k_ne))) | (refine' part_bare0 ?q1 ?q2 ?za ?zb ?zw ?zy ?zz; (case q1 => assumption); (case q2 => assumption); (case za => refine' And.intro ?zz1 ?zz2; (case zz1 => k_mem); (case zz2 => k_ne)); (case zb => refine' And.intro ?zz1 ?zz2; (case zz1 => k_mem); (case zz2 => k_ne)); (case zw => refine' And.intro ?zz1 ?zz2; (case zz1 => k_mem); (case zz2 => k_ne)); (case zy => refine' And.intro ?zz1 ?zz2; (case zz1 => k_mem); (case zz2 => k_ne)); (case zz => refine' And.intro ?zz1 ?zz2; (case zz1 => k_mem); (case zz2 => k_ne))))
end
mutual
theorem exprS_ct {w : World} {n : Nat} (ih : Tag 739 (∀ (H : Heap) (src : Addr) (o : Obj) (k : Int) (tk : Tok), SrcOk o → k = (n : Int) → Ct w H 739 [.ref src, .int k tk] (40 * n + 40) (800 * n + 800) [(src, o)] (MakeR src H (fun tl r => PartG (inLed tl) n r)))) {H : Heap} {src : Addr} {o : Obj} {k : Int} {tk : Tok} (ho : SrcOk o) (hk0 : k = (n : Int) + 1) (hn : n ≤ 1) : Ct w H 739 [.ref src, .int k tk] (40 * (n + 1) + 40) (800 * (n + 1) + 800) [(src, o)] (MakeR src H (fun tl r => PartG (inLed tl) (n + 1) r)) := by
  w_top off
  k_with_none
  (k_with "call ref" => (k_here; (with_reducible show wpAny _ _ (call (Value.ref 112) [_]) _ _ _); k_dflt (refine' new_lit ?q245lB ?q245lF ?q245lX ?q245lN ?q245lT ?q245lk ?q245ld ?q245lu ?_; (case q245lB => k_asm); (case q245lF => k_asm); (case q245lX => k_asm); (case q245lN => k_asm); (case q245lT => k_asm); (case q245lk => first | exact rfl | assumption); (case q245ld => k_room); (case q245lu => k_units)); intro x9 d9 h' tk9 h19 t19 F' N' l1 l2 l3; skip; skip; (try dsimp only)))
  (k_with "call ref" => (k_here; (with_reducible show wpAny _ _ (call (Value.ref 448) [_, _]) _ _ _); k_dflt (refine' new_coll ?q246lB ?q246lF ?q246lX ?q246lN ?q246lT ?q246lk ?q246ld ?q246lu ?_; (case q246lB => k_asm); (case q246lF => k_asm); (case q246lX => k_asm); (case q246lN => k_asm); (case q246lT => k_asm); (case q246lk => first | exact rfl | assumption); (case q246ld => k_room); (case q246lu => k_units)); intro x9 d9 h' tk9 h19 t19 h29 t29 F' N' l1 l2 l3; skip; skip; (try dsimp only)))
  (k_with "call ref" => (k_here; (with_reducible show wpAny _ _ (call (Value.ref 422) [_, _]) _ _ _); k_dflt (refine' new_cast ?q247lB ?q247lF ?q247lX ?q247lN ?q247lT ?q247lk ?q247ld ?q247lu ?_; (case q247lB => k_asm); (case q247lF => k_asm); (case q247lX => k_asm); (case q247lN => k_asm); (case q247lT => k_asm); (case q247lk => first | exact rfl | assumption); (case q247ld => k_room); (case q247lu => k_units)); intro x9 d9 h' tk9 h19 t19 h29 t29 F' N' l1 l2 l3; skip; skip; (try dsimp only)))
  (k_with "call ref" => (k_here; (with_reducible show wpAny _ _ (call (Value.ref 190) [_, _]) _ _ _); k_dflt (refine' new_un ?q248lB ?q248lF ?q248lX ?q248lN ?q248lT ?q248lk ?q248ld ?q248lu ?_; (case q248lB => k_asm); (case q248lF => k_asm); (case q248lX => k_asm); (case q248lN => k_asm); (case q248lT => k_asm); (case q248lk => first | exact rfl | assumption); (case q248ld => k_room); (case q248lu => k_units)); intro x9 d9 h' tk9 h19 t19 h29 t29 F' N' l1 l2 l3; skip; skip; (try dsimp only)))
  (k_with "call ref" => (k_here; (with_reducible show wpAny _ _ (call (Value.ref 294) [_, _, _]) _ _ _); k_dflt (refine' new_insel ?q249lB ?q249lF ?q249lX ?q249lN ?q249lT ?q249lk ?q249ld ?q249lu ?_; (case q249lB => k_asm); (case q249lF => k_asm); (case q249lX => k_asm); (case q249lN => k_asm); (case q249lT => k_asm); (case q249lk => first | exact rfl | assumption); (case q249ld => k_room); (case q249lu => k_units)); intro x9 d9 h' tk9 h19 t19 h29 t29 h39 t39 F' N' l1 l2 l3; skip; skip; (try dsimp only)))
  (k_with "call ref" => (k_here; (with_reducible show wpAny _ _ (call (Value.ref 474) [_, _]) _ _ _); k_dflt (refine' new_isn ?q250lB ?q250lF ?q250lX ?q250lN ?q250lT ?q250lk ?q250ld ?q250lu ?_; (case q250lB => k_asm); (case q250lF => k_asm); (case q250lX => k_asm); (case q250lN => k_asm); (case q250lT => k_asm); (case q250lk => first | exact rfl | assumption); (case q250ld => k_room); (case q250lu => k_units)); intro x9 d9 h' tk9 h19 t19 h29 t29 F' N' l1 l2 l3; skip; skip; (try dsimp only)))
  (k_with "call ref" => (k_here; (with_reducible show wpAny _ _ (call (Value.ref 242) [_, _, _, _]) _ _ _); k_dflt (refine' new_betw ?q251lB ?q251lF ?q251lX ?q251lN ?q251lT ?q251lk ?q251ld ?q251lu ?_; (case q251lB => k_asm); (case q251lF => k_asm); (case q251lX => k_asm); (case q251lN => k_asm); (case q251lT => k_asm); (case q251lk => first | exact rfl | assumption); (case q251ld => k_room); (case q251lu => k_units)); intro x9 d9 h' tk9 h19 t19 h29 t29 h39 t39 h49 t49 F' N' l1 l2 l3; skip; skip; (try dsimp only)))
  (k_with "call ref" => (k_here; (with_reducible show wpAny _ _ (call (Value.ref 268) [_, _, _]) _ _ _); k_dflt (refine' new_inl ?q252lB ?q252lF ?q252lX ?q252lN ?q252lT ?q252lk ?q252ld ?q252lu ?_; (case q252lB => k_asm); (case q252lF => k_asm); (case q252lX => k_asm); (case q252lN => k_asm); (case q252lT => k_asm); (case q252lk => first | exact rfl | assumption); (case q252ld => k_room); (case q252lu => k_units)); intro x9 d9 h' tk9 h19 t19 h29 t29 h39 t39 F' N' l1 l2 l3; skip; skip; (try dsimp only)))
  (k_with "call ref" => (k_here; (with_reducible show wpAny _ _ (call (Value.ref 370) [_, _, _]) _ _ _); k_dflt (refine' new_case ?q253lB ?q253lF ?q253lX ?q253lN ?q253lT ?q253lk ?q253ld ?q253lu ?_; (case q253lB => k_asm); (case q253lF => k_asm); (case q253lX => k_asm); (case q253lN => k_asm); (case q253lT => k_asm); (case q253lk => first | exact rfl | assumption); (case q253ld => k_room); (case q253lu => k_units)); intro x9 d9 h' tk9 h19 t19 h29 t29 h39 t39 F' N' l1 l2 l3; skip; skip; (try dsimp only)))
  (k_with "call ref" => (k_here; (with_reducible show wpAny _ _ (call (Value.ref 500) [_, _, _, _, _]) _ _ _); k_dflt (refine' new_mat ?q254lB ?q254lF ?q254lX ?q254lN ?q254lT ?q254lk ?q254ld ?q254lu ?_; (case q254lB => k_asm); (case q254lF => k_asm); (case q254lX => k_asm); (case q254lN => k_asm); (case q254lT => k_asm); (case q254lk => first | exact rfl | assumption); (case q254ld => k_room); (case q254lu => k_units)); intro x9 d9 h' tk9 h19 t19 h29 t29 h39 t39 h49 t49 h59 t59 F' N' l1 l2 l3; skip; skip; (try dsimp only)))
  (k_with "call ref" => (k_here; (with_reducible show wpAny _ _ (call (Value.ref 216) [_, _, _]) _ _ _); k_dflt (refine' new_bin ?q255lB ?q255lF ?q255lX ?q255lN ?q255lT ?q255lk ?q255ld ?q255lu ?_; (case q255lB => k_asm); (case q255lF => k_asm); (case q255lX => k_asm); (case q255lN => k_asm); (case q255lT => k_asm); (case q255lk => first | exact rfl | assumption); (case q255ld => k_room); (case q255lu => k_units)); intro x9 d9 h' tk9 h19 t19 h29 t29 h39 t39 F' N' l1 l2 l3; skip; skip; (try dsimp only)))
  (k_with "call builtin:len" => (k_here; (with_reducible show wpAny _ _ (call (Value.builtin "len") [Value.ref _]) _ _ _); refine call_len_list (isl_base (by k_asm) (by assumption)) (by simp only [List.size_toArray, List.length_map]; omega) ?_; (simp only [List.size_toArray, List.length_map])))
  (k_with "call ref" => (k_here; (with_reducible show wpAny _ _ (call (Value.ref 687) [_, _]) _ _ _); k_dflt (refine' ct_draw (take_ct ?q257ho ?q257ht ?q257ht2) ?q257lB ?q257lF ?q257lX ?q257lN ?q257lU ?q257lT ?q257lk ?q257ld ?q257lu ?_; (case q257ho => assumption); (case q257ht => first | decide | omega); (case q257ht2 => first | decide | omega); (case q257lB => k_asm); (case q257lF => k_asm); (case q257lX => k_asm); (case q257lN => k_asm); (case q257lU => k_updF); (case q257lT => k_asm); (case q257lk => first | exact rfl | assumption); (case q257ld => k_room); (case q257lu => k_units)); intro r9 h' tk9 o9 hr9 ok9 st9 F' N'; (try dsimp only at N'); obtain ⟨k9, t9, he9, h09, h19⟩ := hr9; subst he9; (try dsimp only)))
  (k_with "call ref" => (k_here; (with_reducible show wpAny _ _ (call (Value.ref 715) [_]) _ _ _); k_dflt (refine' ct_make (leaf_ct ?q258ho) ?q258lB ?q258lF ?q258lX ?q258lN ?q258lU ?q258lt ?q258lT ?q258lk ?q258ld ?q258lu ?_; (case q258ho => assumption); (case q258lB => k_asm); (case q258lF => k_asm); (case q258lX => k_asm); (case q258lN => k_asm); (case q258lU => k_updF); (case q258lt => first | assumption | exact (fun p hp => nomatch hp)); (case q258lT => k_asm); (case q258lk => first | exact rfl | assumption); (case q258ld => k_room); (case q258lu => k_units)); intro r9 h' tk9 o9 tl9 tl9' sub9 hr9 subr9 hT9 ok9 st9 F' N'; (try dsimp only at N'); (replace hr9 := hr9.mono subr9); clear subr9; (try dsimp only)))
  (k_with "call ref" => (k_here; (with_reducible show wpAny _ _ (call (Value.ref 734) [_]) _ _ _); k_dflt (refine' ct_make (bare_ct ?q259ho) ?q259lB ?q259lF ?q259lX ?q259lN ?q259lU ?q259lt ?q259lT ?q259lk ?q259ld ?q259lu ?_; (case q259ho => assumption); (case q259lB => k_asm); (case q259lF => k_asm); (case q259lX => k_asm); (case q259lN => k_asm); (case q259lU => k_updF); (case q259lt => first | assumption | exact (fun p hp => nomatch hp)); (case q259lT => k_asm); (case q259lk => first | exact rfl | assumption); (case q259ld => k_room); (case q259lu => k_units)); intro r9 h' tk9 o9 tl9 tl9' sub9 hr9 subr9 hT9 ok9 st9 F' N'; (try dsimp only at N'); (replace hr9 := hr9.mono subr9); clear subr9; (try dsimp only)))
  (k_with "call ref" => (k_here; (with_reducible show wpAny _ _ (call (Value.ref 694) [_, _]) _ _ _); k_dflt (refine' ct_drawO (one_ct ?q260ho ?q260hl ?q260hne ?q260hz ?q260hz2) ?q260lB ?q260lF ?q260lX ?q260lN ?q260lU ?q260lT ?q260lk ?q260ld ?q260lu ?_; (case q260ho => assumption); (case q260hl => refine' News.get ?q260nN ?q260nM; (case q260nN => k_asm); (case q260nM => k_mem)); (case q260hne => k_ne); (case q260hz => exact Nat.le_of_ble_eq_true rfl); (case q260hz2 => exact Nat.le_of_ble_eq_true rfl); (case q260lB => k_asm); (case q260lF => k_asm); (case q260lX => k_asm); (case q260lN => k_asm); (case q260lU => k_updF); (case q260lT => k_asm); (case q260lk => first | exact rfl | assumption); (case q260ld => k_room); (case q260lu => k_units)); intro r9 h' tk9 o9 hr9 ok9 st9 F' N' so9; (try dsimp only at N' so9); (first | (obtain ⟨c9, t9, he9, hc9, hz9⟩ := cword_of hr9; subst he9) | (obtain ⟨c9, t9, he9⟩ := uop_of hr9; subst he9) | skip); (try dsimp only)))
  (k_with "call ref" => (k_here; (with_reducible show wpAny _ _ (call (Value.ref 708) _) _ _ _); (try dsimp only [List.nil_append]); k_dflt (refine' ct_use select_ct ?q261lR ?q261lB ?q261lF ?q261lX ?q261lN ?q261lT ?q261lk ?q261ld ?q261lu ?_; (case q261lR => exact fun _ _ h => h.1); (case q261lB => k_asm); (case q261lF => k_asm); (case q261lX => k_asm); (case q261lN => k_asm); (case q261lT => k_asm); (case q261lk => first | exact rfl | assumption); (case q261ld => k_room); (case q261lu => k_units)); intro r9 h' tk9 hr9 hs9 F' N'; obtain ⟨_, a9, he9⟩ := hr9; subst he9; (try dsimp only)))
  (k_with "call ref" => (k_here; (with_reducible show wpAny _ _ (call (Value.ref 739) [_, _]) _ _ _); (rename Tag 739 _ => ih9); k_dflt (refine' ct_make (ih9.out _ _ _ _ _ ?q262ho ?q262hk) ?q262lB ?q262lF ?q262lX ?q262lN ?q262lU ?q262lt ?q262lT ?q262lk ?q262ld ?q262lu ?_; (case q262ho => assumption); (case q262hk => first | exact kpred (by assumption) | omega); (case q262lB => k_asm); (case q262lF => k_asm); (case q262lX => k_asm); (case q262lN => k_asm); (case q262lU => k_updF); (case q262lt => first | assumption | exact (fun p hp => nomatch hp)); (case q262lT => k_asm); (case q262lk => first | exact rfl | assumption); (case q262ld => k_room); (case q262lu => k_units)); intro r9 h' tk9 o9 tl9 tl9' sub9 hr9 subr9 hT9 ok9 st9 F' N'; (try dsimp only at N'); (replace hr9 := hr9.mono subr9); clear subr9; (obtain ⟨p9, l9, a9, cv9, ws9, t9, n91, n92, e9, hD9, hTr9, hl9, hW9, hC9, hG9⟩ := part_open hr9; subst e9); (have hz9 := few_words hG9 hW9 (by first | exact Nat.le_succ_of_le (by assumption) | omega)); (try dsimp only)))
  (k_with "subscriptTail" => (k_here; (with_reducible show wpAny _ _ (subscriptTail _ _ (Value.ref _) (Value.int _ _)) _ _ _); (rename News _ _ _ _ => lN'); first | k_dflt (first | refine item_listL (isl_news lN' (by k_mem)) (by decide) (by decide) (by rfl) ?_ | refine item_tupleL (ist_up (its := [_, _, _]) (by with_reducible assumption) (by with_reducible assumption)) (by decide) (by decide) (by rfl) (by rfl) ?_) | (refine' item3_0 lN' ?q263ie ?_; (case q263ie => (repeat' (first | with_reducible assumption | with_reducible refine' List.mem_cons_of_mem _ ?_)))) | (refine' item3_1 lN' ?q263ie ?_; (case q263ie => (repeat' (first | with_reducible assumption | with_reducible refine' List.mem_cons_of_mem _ ?_)))) | (refine' item3_2 lN' ?q263ie ?_; (case q263ie => (repeat' (first | with_reducible assumption | with_reducible refine' List.mem_cons_of_mem _ ?_))))))
  (k_with "subscriptTail Name Constant ref int" => (k_here; (with_reducible show wpAny _ _ (subscriptTail _ _ (Value.ref _) (Value.int _ _)) _ _ _); (rename News _ _ _ _ => lN'); first | k_dflt (first | refine item_listL (isl_news lN' (by k_mem)) (by decide) (by decide) (by rfl) ?_ | refine item_tupleL (ist_up (its := [_, _, _]) (by with_reducible assumption) (by with_reducible assumption)) (by decide) (by decide) (by rfl) (by rfl) ?_) | (refine' item3_0 lN' ?q264ie ?_; (case q264ie => (repeat' (first | with_reducible assumption | with_reducible refine' List.mem_cons_of_mem _ ?_)))) | (refine' item3_1 lN' ?q264ie ?_; (case q264ie => (repeat' (first | with_reducible assumption | with_reducible refine' List.mem_cons_of_mem _ ?_)))) | (refine' item3_2 lN' ?q264ie ?_; (case q264ie => (repeat' (first | with_reducible assumption | with_reducible refine' List.mem_cons_of_mem _ ?_))))))
  (k_with "binaryOp Add ref ref" => (k_here; (with_reducible show wpAny _ _ (binaryOp _ (Value.ref _) (Value.ref _)) _ _ _); k_dflt (refine' my_add ?q265lF ?q265lN ?q265la ?q265lb ?q265lz ?_; (case q265lF => k_asm); (case q265lN => k_asm); (case q265la => k_mem); (case q265lb => (first | k_mem | (repeat' (first | with_reducible assumption | with_reducible refine' List.mem_cons_of_mem _ ?_)))); (case q265lz => first | exact room1 (by assumption) | exact room2 (by assumption) | exact room3 (by assumption))); intro D' h' F' N' l1; (try k_lt l1); (try k_sweep)))
  (k_with "call ref" => (k_here; (with_reducible show wpAny _ _ (call (Value.ref 727) [_, _]) _ _ _); k_dflt (refine' ct_make (lcall_ct ?q266ho ?q266hW ?q266hl ?q266hne ?q266hP ?q266hg ?q266h1 ?q266h3 ?q266hn) ?q266lB ?q266lF ?q266lX ?q266lN ?q266lU ?q266lt ?q266lT ?q266lk ?q266ld ?q266lu ?_; (case q266ho => assumption); (case q266hP => assumption); (case q266hl => refine' News.get ?q266nN ?q266nM; (case q266nN => k_asm); (case q266nM => k_mem)); (case q266hg => assumption); (case q266h1 => assumption); (case q266h3 => assumption); (case q266hn => first | assumption | exact Nat.le_succ_of_le (by assumption) | omega); (case q266hne => k_ne); (case q266hW => exact led_atX (by k_asm) (by first | exact in_self | exact in_cons in_self | exact in_cons (in_cons in_self) | (repeat (first | exact in_self | refine in_cons ?_))) (by assumption)); (case q266lB => k_asm); (case q266lF => k_asm); (case q266lX => k_asm); (case q266lN => k_asm); (case q266lU => k_updF); (case q266lt => first | assumption | exact (fun p hp => nomatch hp)); (case q266lT => k_asm); (case q266lk => first | exact rfl | assumption); (case q266ld => k_room); (case q266lu => k_units)); intro r9 h' tk9 o9 tl9 tl9' sub9 hr9 subr9 hT9 ok9 st9 F' N'; (try dsimp only at N'); (replace hr9 := hr9.mono (orK_sub sub9 subr9)); clear subr9; (try dsimp only)))
  (k_with "subscriptTail Name Slice ref ref" => (k_here; (with_reducible show wpAny _ _ (subscriptTail _ (PySem.Expr.Slice none (some (PySem.Expr.BinOp _ _ _ _)) none _) (Value.ref _) (Value.ref _)) _ _ _); k_dflt (refine' slice_first ?q267zxF ?q267zxN ?q267zxl ?q267zxp ?q267zxq ?q267zxh0 ?q267zxh3 ?q267zxall ?_ ?q267zxs ?q267zxt; (case q267zxF => k_asm); (case q267zxN => k_asm); (case q267zxl => exact isl_news (by k_asm) (by k_mem)); (case q267zxp => kmk_part); (case q267zxq => kmk_part); (case q267zxh0 => assumption); (case q267zxh3 => assumption); (case q267zxall => exact three_parts (by assumption) (by assumption) (by assumption) (in_trans (by assumption) (by assumption)) (by assumption)); (case q267zxs => with_unfolding_all rfl); (case q267zxt => kmk_pure)); intro D' vs9 ts9 h' hP9 hg9 h1' h3' F' N' l1; (try k_lt l1); (try k_sweep)))
  (k_with "subscriptTail Name Slice ref ref" => (k_here; (with_reducible show wpAny _ _ (subscriptTail _ (PySem.Expr.Slice none (some (PySem.Expr.Constant _ _ _)) none _) (Value.ref _) (Value.ref _)) _ _ _); (rename Paired (PartIn _) _ _ => lP9); (rename (∀ t ∈ _, Good _ t) => lg9); k_dflt (refine' slice_secondO ?q268zxF ?q268zxN ?q268zxl ?q268zxp ?q268zxq lP9 lg9 ?q268zxh1 ?q268zxh3 ?q268zxhT ?q268zxhS ?q268zxhq1 ?q268zxhq2 ?_ ?q268zxs ?q268zxt; (case q268zxF => k_asm); (case q268zxN => k_asm); (case q268zxl => exact isl_news (by k_asm) (by k_mem)); (case q268zxp => kmk_part); (case q268zxq => kmk_part); (case q268zxh1 => assumption); (case q268zxh3 => assumption); (case q268zxhT => assumption); (case q268zxhS => exact (by first | exact in_self | exact in_cons in_self | exact in_cons (in_cons in_self) | (repeat (first | exact in_self | refine in_cons ?_)))); (case q268zxhq1 => refine' part_lit ?q268za ?q268zb ?q268zc ?q268zd; (case q268za => refine' And.intro ?q268zz1 ?q268zz2; (case q268zz1 => k_mem); (case q268zz2 => k_ne)); (case q268zb => refine' And.intro ?q268zz1 ?q268zz2; (case q268zz1 => k_mem); (case q268zz2 => k_ne)); (case q268zc => refine' And.intro ?q268zz1 ?q268zz2; (case q268zz1 => k_mem); (case q268zz2 => k_ne)); (case q268zd => refine' And.intro ?q268zz1 ?q268zz2; (case q268zz1 => k_mem); (case q268zz2 => k_ne))); (case q268zxhq2 => refine' part_lit ?q268za ?q268zb ?q268zc ?q268zd; (case q268za => refine' And.intro ?q268zz1 ?q268zz2; (case q268zz1 => k_mem); (case q268zz2 => k_ne)); (case q268zb => refine' And.intro ?q268zz1 ?q268zz2; (case q268zz1 => k_mem); (case q268zz2 => k_ne)); (case q268zc => refine' And.intro ?q268zz1 ?q268zz2; (case q268zz1 => k_mem); (case q268zz2 => k_ne)); (case q268zd => refine' And.intro ?q268zz1 ?q268zz2; (case q268zz1 => k_mem); (case q268zz2 => k_ne))); (case q268zxs => with_unfolding_all rfl); (case q268zxt => kmk_pure)); intro D' p1' p2' p3' a1' a2' a3' w1' w2' w3' t1' t2' t3' h' hQ9 r1' r2' r3' hWd9 g1' g2' g3' F' N' l1; (have hz9 := three_words hWd9 g1' g2' g3' (by first | exact Nat.le_succ_of_le (by assumption) | omega)); (try k_lt l1); (try k_sweep)))
  (k_with "exec Assign cons ListComp" => (k_here; (rename Paired (FullK _) _ _ => lQ9); (rename News _ _ _ _ => lN'); (rename Fr _ _ _ _ => lF'); (have lQ8 := fullK_at lQ9 (off_at lN' (by repeat (first | exact off_self | (refine off_trans ?_ (by assumption)) | refine off_cons ?_)))); (with_unfolding_all refine' assign_fst lQ8 lF' ?q269q0 ?q269q9 ?q269q1 ?q269q2 ?q269q3 ?q269q4 ?q269q5 ?q269q6 ?q269q7 ?_; (case q269q0 => rfl); (case q269q9 => rfl); (case q269q1 => rfl); (case q269q2 => decide); (case q269q3 => rfl); (case q269q4 => decide); (case q269q5 => rfl); (case q269q6 => rfl); (case q269q7 => rfl); k_whole)))
  (k_with "AskA" => (k_here; (rename Fr _ _ _ _ => lF'); (rename News _ _ _ _ => lN'); (rename Paired (PartFull _) _ _ => lQ8); (with_unfolding_all refine askA_intro (by rfl) (isl_news lN' (by k_mem)) (few_line (Nat.le_of_ble_eq_true rfl)) lF' lN' ?_ ?_); (intro C9 v9 s9 m9 E9 hv9 hn9 hm9 hs9 F' N'; (obtain ⟨p7, y7, l7, cv7, n7, e7, g7⟩ := full_mem lQ8 hv9); subst e7); rotate_left; (intro D9 n9 h9 tk9 ys9 F' N' hD9 hP9; (have e9 := full_fst lQ8 hP9; subst e9); (simp only [List.map_cons, List.map_nil] at N'); clear lQ8; dsimp only)))
  (k_with "EltEnd" => exact fst_end (by assumption) (keeps_self _ _))
  (k_with "call ref" => (k_here; (with_reducible show wpAny _ _ (call (Value.ref 722) [_]) _ _ _); k_dflt (refine' ct_use (words_ct ?q272h1 ?q272h2 ?q272h3) ?q272lR ?q272lB ?q272lF ?q272lX ?q272lN ?q272lT ?q272lk ?q272ld ?q272lu ?_; (case q272h3 => (rename Paired (FullK _) _ _ => lQ9); exact full_words (fullK_at lQ9 (off_at (by k_asm) (by repeat (first | exact off_self | (refine off_trans ?_ (by assumption)) | refine off_cons ?_))))); (case q272h1 => refine' News.get ?q272nN ?q272nM; (case q272nN => k_asm); (case q272nM => k_mem)); (case q272h2 => assumption); (case q272lR => exact fun _ _ h => h.1); (case q272lB => k_asm); (case q272lF => k_asm); (case q272lX => k_asm); (case q272lN => k_asm); (case q272lT => k_asm); (case q272lk => first | exact rfl | assumption); (case q272ld => k_room); (case q272lu => k_units)); intro r9 h' tk9 hr9 hs9 F' N'; (replace hr9 := FreshL.out hr9); obtain ⟨_, l9, n9, he9, hl9, hg9⟩ := hr9; subst he9; (have hN9 := fresh_news (by k_asm) (by k_asm) hs9 hl9 hg9); clear N'; obtain ⟨N', hn9⟩ := hN9; (try dsimp only)))
  intro mean mg mb dp un gd cn cs a₁ ccd cl outer A₀ base h₀ L m s Q E hH B F X N T hk hd hu hret
  revert X; k_fill; intro X
  subst hH
  refine wpAny_call ?_
  k_dflt (refine' code_defG (binds := [(Str.ofString "source", .ref src), (Str.ofString "depth", .int k tk)]) ?k1 ?k2 ?k3 N ?k5 ?kA ?kF ?kK ?k6 ?k7 ?k8 ?k9 ?kB ?_ ?c2 ?c3 ?c4 ?c5; (case kA => exact rfl); (case kF => exact rfl); (case kK => assumption); (case k1 => k_asm); (case k2 => k_asm); (case k3 => k_asm); (case k5 => k_asm); (case k6 => k_is); (case k7 => k_is); (case k8 => k_room); (case k9 => first | exact BindsTo.of_eq rfl | exact binds_K (by k_in) rfl (by k_is) rfl rfl rfl); (case c5 => decide); (case kB => exact locs rfl); (case c2 => exact rfl); (case c3 => exact rfl); (case c4 => exact rfl); k_whole)
  intro g' L' h' FG' F' N' B' X' T' G'
  (try dsimp only [List.reverse_cons, List.reverse_nil, List.nil_append, List.cons_append] at F'); (try dsimp only); (refine (?_ : let A9 : Around := _; wpAny _ A9 _ _ _ _); intro A9); (try k_fold)
  k_steps
  · (rename News g' _ _ _ => N9); (rename Fr g' _ _ _ => F9); refine hret _ _ _ (make_end G' F9 N9 (by k_mem) (by assumption) (part_end ?_)); (rename PartG _ _ _ => hp9); exact (hp9.up (by first | exact Nat.zero_le _ | exact Nat.le_succ _ | exact Nat.le_refl _ | omega)).mono (in_off (by first | exact in_self | exact in_cons in_self | exact in_cons (in_cons in_self) | (repeat (first | exact in_self | refine in_cons ?_))) (by assumption))
  · (rename News g' _ _ _ => N9); (rename Fr g' _ _ _ => F9); refine hret _ _ _ (make_end G' F9 N9 (by k_mem) (by assumption) (part_end ?_)); (rename PartG _ _ _ => hp9); exact (hp9.up (by first | exact Nat.zero_le _ | exact Nat.le_succ _ | exact Nat.le_refl _ | omega)).mono (in_off (by first | exact in_self | exact in_cons in_self | exact in_cons (in_cons in_self) | (repeat (first | exact in_self | refine in_cons ?_))) (by assumption))
  · (rename News g' _ _ _ => N9); (rename Fr g' _ _ _ => F9); refine hret _ _ _ (make_end G' F9 N9 (by k_mem) (by assumption) (part_end ?_)); (rename TreeIn _ _ _ => hTr9); (rename WordsIn _ _ _ => hW9); (rename Good _ _ => hG9); (rename ColIs _ _ => hC9); (rename inLed _ _ (_root_.PySem.W.listOf _ _) => hl9); refine' part_coll (cword_lower _ (by assumption)).2.1 (cword_lower _ (by assumption)).1 (NodeIn.coll ?za ?zb ?y1) (hTr9.mono (in_off (by first | exact in_self | exact in_cons in_self | exact in_cons (in_cons in_self) | (repeat (first | exact in_self | refine in_cons ?_))) (by assumption))) (hW9.mono (in_off (by first | exact in_self | exact in_cons in_self | exact in_cons (in_cons in_self) | (repeat (first | exact in_self | refine in_cons ?_))) (by assumption))) hG9 ?zc ?zd ?ze; (case zc => refine' And.intro ?zz1 ?zz2; (case zz1 => k_mem); (case zz2 => k_ne)); (case za => refine' And.intro ?zz1 ?zz2; (case zz1 => k_mem); (case zz2 => k_ne)); (case zb => refine' And.intro ?zz1 ?zz2; (case zz1 => k_mem); (case zz2 => k_ne)); (case zd => refine' And.intro ?zz1 ?zz2; (case zz1 => k_mem); (case zz2 => k_ne)); (case ze => refine' And.intro ?zz1 ?zz2; (case zz1 => k_mem); (case zz2 => k_ne)); (case y1 => exact (cword_lower _ (by assumption)).2.2)
  · (rename News g' _ _ _ => N9); (rename Fr g' _ _ _ => F9); refine hret _ _ _ (make_end G' F9 N9 (by k_mem) (by assumption) (part_end ?_)); (rename TreeIn _ _ _ => hTr9); (rename WordsIn _ _ _ => hW9); (rename Good _ _ => hG9); (rename ColIs _ _ => hC9); (rename inLed _ _ (_root_.PySem.W.listOf _ _) => hl9); refine' part_pass (NodeIn.cast ?za ?zb) (hTr9.mono (in_off (by first | exact in_self | exact in_cons in_self | exact in_cons (in_cons in_self) | (repeat (first | exact in_self | refine in_cons ?_))) (by assumption))) (hW9.mono (in_off (by first | exact in_self | exact in_cons in_self | exact in_cons (in_cons in_self) | (repeat (first | exact in_self | refine in_cons ?_))) (by assumption))) hC9 hG9 ?zc ((in_off (by first | exact in_self | exact in_cons in_self | exact in_cons (in_cons in_self) | (repeat (first | exact in_self | refine in_cons ?_))) (by assumption)) _ _ hl9); (case zc => refine' And.intro ?zz1 ?zz2; (case zz1 => k_mem); (case zz2 => k_ne)); (case za => refine' And.intro ?zz1 ?zz2; (case zz1 => k_mem); (case zz2 => k_ne)); (case zb => refine' And.intro ?zz1 ?zz2; (case zz1 => k_mem); (case zz2 => k_ne))
  · (rename News g' _ _ _ => N9); (rename Fr g' _ _ _ => F9); refine hret _ _ _ (make_end G' F9 N9 (by k_mem) (by assumption) (part_end ?_)); (rename TreeIn _ _ _ => hTr9); (rename WordsIn _ _ _ => hW9); (rename Good _ _ => hG9); (rename ColIs _ _ => hC9); (rename inLed _ _ (_root_.PySem.W.listOf _ _) => hl9); refine' part_pass (un_plus (by assumption) ?za ?zb) (hTr9.mono (in_off (by first | exact in_self | exact in_cons in_self | exact in_cons (in_cons in_self) | (repeat (first | exact in_self | refine in_cons ?_))) (by assumption))) (hW9.mono (in_off (by first | exact in_self | exact in_cons in_self | exact in_cons (in_cons in_self) | (repeat (first | exact in_self | refine in_cons ?_))) (by assumption))) hC9 hG9 ?zc ((in_off (by first | exact in_self | exact in_cons in_self | exact in_cons (in_cons in_self) | (repeat (first | exact in_self | refine in_cons ?_))) (by assumption)) _ _ hl9); (case zc => refine' And.intro ?zz1 ?zz2; (case zz1 => k_mem); (case zz2 => k_ne)); (case za => refine' And.intro ?zz1 ?zz2; (case zz1 => k_mem); (case zz2 => k_ne)); (case zb => refine' And.intro ?zz1 ?zz2; (case zz1 => k_mem); (case zz2 => k_ne))
  · (rename News g' _ _ _ => N9); (rename Fr g' _ _ _ => F9); refine hret _ _ _ (make_end G' F9 N9 (by k_mem) (by assumption) (part_end ?_)); (rename TreeIn _ _ _ => hTr9); (rename WordsIn _ _ _ => hW9); (rename Good _ _ => hG9); (rename ColIs _ _ => hC9); (rename inLed _ _ (_root_.PySem.W.listOf _ _) => hl9); refine' part_plain1 (un_other (by assumption) ?za ?zb) (hTr9.mono (in_off (by first | exact in_self | exact in_cons in_self | exact in_cons (in_cons in_self) | (repeat (first | exact in_self | refine in_cons ?_))) (by assumption))) (hW9.mono (in_off (by first | exact in_self | exact in_cons in_self | exact in_cons (in_cons in_self) | (repeat (first | exact in_self | refine in_cons ?_))) (by assumption))) hG9 ?zc ((in_off (by first | exact in_self | exact in_cons in_self | exact in_cons (in_cons in_self) | (repeat (first | exact in_self | refine in_cons ?_))) (by assumption)) _ _ hl9); (case zc => refine' And.intro ?zz1 ?zz2; (case zz1 => k_mem); (case zz2 => k_ne)); (case za => refine' And.intro ?zz1 ?zz2; (case zz1 => k_mem); (case zz2 => k_ne)); (case zb => refine' And.intro ?zz1 ?zz2; (case zz1 => k_mem); (case zz2 => k_ne))
  · (rename News g' _ _ _ => N9); (rename Fr g' _ _ _ => F9); refine hret _ _ _ (make_end G' F9 N9 (by k_mem) (by assumption) (part_end ?_)); (rename PartG _ _ _ => hp9); exact (hp9.up (by first | exact Nat.zero_le _ | exact Nat.le_succ _ | exact Nat.le_refl _ | omega)).mono (in_off (by first | exact in_self | exact in_cons in_self | exact in_cons (in_cons in_self) | (repeat (first | exact in_self | refine in_cons ?_))) (by assumption))
  · (rename News g' _ _ _ => N9); (rename Fr g' _ _ _ => F9); refine hret _ _ _ (make_end G' F9 N9 (by k_mem) (by assumption) (part_end ?_)); (rename TreeIn _ _ _ => hTr9); (rename WordsIn _ _ _ => hW9); (rename Good _ _ => hG9); (rename ColIs _ _ => hC9); (rename inLed _ _ (_root_.PySem.W.listOf _ _) => hl9); refine' part_insel (NodeIn.insel ?za ?zb) (hTr9.mono (in_off (by first | exact in_self | exact in_cons in_self | exact in_cons (in_cons in_self) | (repeat (first | exact in_self | refine in_cons ?_))) (by assumption))) (hW9.mono (in_off (by first | exact in_self | exact in_cons in_self | exact in_cons (in_cons in_self) | (repeat (first | exact in_self | refine in_cons ?_))) (by assumption))) hG9 ?zc ?zd ?ze; (case zc => refine' And.intro ?zz1 ?zz2; (case zz1 => k_mem); (case zz2 => k_ne)); (case za => refine' And.intro ?zz1 ?zz2; (case zz1 => k_mem); (case zz2 => k_ne)); (case zb => refine' And.intro ?zz1 ?zz2; (case zz1 => k_mem); (case zz2 => k_ne)); (case zd => refine' And.intro ?zz1 ?zz2; (case zz1 => k_mem); (case zz2 => k_ne)); (case ze => refine' And.intro ?zz1 ?zz2; (case zz1 => k_mem); (case zz2 => k_ne))
  · (rename News g' _ _ _ => N9); (rename Fr g' _ _ _ => F9); refine hret _ _ _ (make_end G' F9 N9 (by k_mem) (by assumption) (part_end ?_)); (rename TreeIn _ _ _ => hTr9); (rename WordsIn _ _ _ => hW9); (rename Good _ _ => hG9); (rename ColIs _ _ => hC9); (rename inLed _ _ (_root_.PySem.W.listOf _ _) => hl9); refine' part_plain1 (NodeIn.isn ?za ?zb) (hTr9.mono (in_off (by first | exact in_self | exact in_cons in_self | exact in_cons (in_cons in_self) | (repeat (first | exact in_self | refine in_cons ?_))) (by assumption))) (hW9.mono (in_off (by first | exact in_self | exact in_cons in_self | exact in_cons (in_cons in_self) | (repeat (first | exact in_self | refine in_cons ?_))) (by assumption))) hG9 ?zc ((in_off (by first | exact in_self | exact in_cons in_self | exact in_cons (in_cons in_self) | (repeat (first | exact in_self | refine in_cons ?_))) (by assumption)) _ _ hl9); (case zc => refine' And.intro ?zz1 ?zz2; (case zz1 => k_mem); (case zz2 => k_ne)); (case za => refine' And.intro ?zz1 ?zz2; (case zz1 => k_mem); (case zz2 => k_ne)); (case zb => refine' And.intro ?zz1 ?zz2; (case zz1 => k_mem); (case zz2 => k_ne))
  · (rename News g' _ _ _ => N9); (rename Fr g' _ _ _ => F9); refine hret _ _ _ (make_end G' F9 N9 (by k_mem) (by assumption) (part_end ?_)); (rename PartG _ _ _ => hp9); exact (hp9.up (by first | exact Nat.zero_le _ | exact Nat.le_succ _ | exact Nat.le_refl _ | omega)).mono (in_off (by first | exact in_self | exact in_cons in_self | exact in_cons (in_cons in_self) | (repeat (first | exact in_self | refine in_cons ?_))) (by assumption))
  · (rename News g' _ _ _ => N9); (rename Fr g' _ _ _ => F9); refine hret _ _ _ (make_end G' F9 N9 (by k_mem) (by assumption) (part_end ?_)); (rename (_ : Value) ∈ _ => hr9); rcases six_of hr9 with rfl | rfl | rfl | rfl | rfl | rfl; (refine' part3 ?nd ?k1 ?k2 ?k3 ?k4 ?k5 ?k6 ?k7 ?zc ?zd; (case zc => refine' And.intro ?zz1 ?zz2; (case zz1 => k_mem); (case zz2 => k_ne)); (case zd => refine' And.intro ?zz1 ?zz2; (case zz1 => k_mem); (case zz2 => k_ne)); (case nd => refine' NodeIn.betw ?za ?zb; (case za => refine' And.intro ?zz1 ?zz2; (case zz1 => k_mem); (case zz2 => k_ne)); (case zb => refine' And.intro ?zz1 ?zz2; (case zz1 => k_mem); (case zz2 => k_ne))); (case k1 => exact TreeIn.mono (by assumption) (by repeat (first | exact off_self | (refine off_trans ?_ (by assumption)) | refine off_cons ?_))); (case k2 => exact TreeIn.mono (by assumption) (by repeat (first | exact off_self | (refine off_trans ?_ (by assumption)) | refine off_cons ?_))); (case k3 => exact TreeIn.mono (by assumption) (by repeat (first | exact off_self | (refine off_trans ?_ (by assumption)) | refine off_cons ?_))); (case k4 => exact WordsIn.mono (by assumption) (by repeat (first | exact off_self | (refine off_trans ?_ (by assumption)) | refine off_cons ?_))); (case k5 => assumption); (case k6 => assumption); (case k7 => assumption)); (refine' part3 ?nd ?k1 ?k2 ?k3 ?k4 ?k5 ?k6 ?k7 ?zc ?zd; (case zc => refine' And.intro ?zz1 ?zz2; (case zz1 => k_mem); (case zz2 => k_ne)); (case zd => refine' And.intro ?zz1 ?zz2; (case zz1 => k_mem); (case zz2 => k_ne)); (case nd => refine' NodeIn.inl ?za ?zb ?ze; (case za => refine' And.intro ?zz1 ?zz2; (case zz1 => k_mem); (case zz2 => k_ne)); (case zb => refine' And.intro ?zz1 ?zz2; (case zz1 => k_mem); (case zz2 => k_ne)); (case ze => refine' And.intro ?zz1 ?zz2; (case zz1 => k_mem); (case zz2 => k_ne))); (case k1 => exact TreeIn.mono (by assumption) (by repeat (first | exact off_self | (refine off_trans ?_ (by assumption)) | refine off_cons ?_))); (case k2 => exact TreeIn.mono (by assumption) (by repeat (first | exact off_self | (refine off_trans ?_ (by assumption)) | refine off_cons ?_))); (case k3 => exact TreeIn.mono (by assumption) (by repeat (first | exact off_self | (refine off_trans ?_ (by assumption)) | refine off_cons ?_))); (case k4 => exact WordsIn.mono (by assumption) (by repeat (first | exact off_self | (refine off_trans ?_ (by assumption)) | refine off_cons ?_))); (case k5 => assumption); (case k6 => assumption); (case k7 => assumption)); (refine' part3 ?nd ?k1 ?k2 ?k3 ?k4 ?k5 ?k6 ?k7 ?zc ?zd; (case zc => refine' And.intro ?zz1 ?zz2; (case zz1 => k_mem); (case zz2 => k_ne)); (case zd => refine' And.intro ?zz1 ?zz2; (case zz1 => k_mem); (case zz2 => k_ne)); (case nd => refine' NodeIn.case1 ?za ?zb ?ze ?zf; (case za => refine' And.intro ?zz1 ?zz2; (case zz1 => k_mem); (case zz2 => k_ne)); (case zb => refine' And.intro ?zz1 ?zz2; (case zz1 => k_mem); (case zz2 => k_ne)); (case ze => refine' And.intro ?zz1 ?zz2; (case zz1 => k_mem); (case zz2 => k_ne)); (case zf => refine' And.intro ?zz1 ?zz2; (case zz1 => k_mem); (case zz2 => k_ne))); (case k1 => exact TreeIn.mono (by assumption) (by repeat (first | exact off_self | (refine off_trans ?_ (by assumption)) | refine off_cons ?_))); (case k2 => exact TreeIn.mono (by assumption) (by repeat (first | exact off_self | (refine off_trans ?_ (by assumption)) | refine off_cons ?_))); (case k3 => exact TreeIn.mono (by assumption) (by repeat (first | exact off_self | (refine off_trans ?_ (by assumption)) | refine off_cons ?_))); (case k4 => exact WordsIn.mono (by assumption) (by repeat (first | exact off_self | (refine off_trans ?_ (by assumption)) | refine off_cons ?_))); (case k5 => assumption); (case k6 => assumption); (case k7 => assumption)); (refine' part3 ?nd ?k1 ?k2 ?k3 ?k4 ?k5 ?k6 ?k7 ?zc ?zd; (case zc => refine' And.intro ?zz1 ?zz2; (case zz1 => k_mem); (case zz2 => k_ne)); (case zd => refine' And.intro ?zz1 ?zz2; (case zz1 => k_mem); (case zz2 => k_ne)); (case nd => refine' NodeIn.case2 ?za ?zb ?ze ?zf; (case za => refine' And.intro ?zz1 ?zz2; (case zz1 => k_mem); (case zz2 => k_ne)); (case zb => refine' And.intro ?zz1 ?zz2; (case zz1 => k_mem); (case zz2 => k_ne)); (case ze => refine' And.intro ?zz1 ?zz2; (case zz1 => k_mem); (case zz2 => k_ne)); (case zf => refine' And.intro ?zz1 ?zz2; (case zz1 => k_mem); (case zz2 => k_ne))); (case k1 => exact TreeIn.mono (by assumption) (by repeat (first | exact off_self | (refine off_trans ?_ (by assumption)) | refine off_cons ?_))); (case k2 => exact TreeIn.mono (by assumption) (by repeat (first | exact off_self | (refine off_trans ?_ (by assumption)) | refine off_cons ?_))); (case k3 => exact TreeIn.mono (by assumption) (by repeat (first | exact off_self | (refine off_trans ?_ (by assumption)) | refine off_cons ?_))); (case k4 => exact WordsIn.mono (by assumption) (by repeat (first | exact off_self | (refine off_trans ?_ (by assumption)) | refine off_cons ?_))); (case k5 => assumption); (case k6 => assumption); (case k7 => assumption)); (refine' part3 ?nd ?k1 ?k2 ?k3 ?k4 ?k5 ?k6 ?k7 ?zc ?zd; (case zc => refine' And.intro ?zz1 ?zz2; (case zz1 => k_mem); (case zz2 => k_ne)); (case zd => refine' And.intro ?zz1 ?zz2; (case zz1 => k_mem); (case zz2 => k_ne)); (case nd => refine' NodeIn.mat ?za ?zb; (case za => refine' And.intro ?zz1 ?zz2; (case zz1 => k_mem); (case zz2 => k_ne)); (case zb => refine' And.intro ?zz1 ?zz2; (case zz1 => k_mem); (case zz2 => k_ne))); (case k1 => exact TreeIn.mono (by assumption) (by repeat (first | exact off_self | (refine off_trans ?_ (by assumption)) | refine off_cons ?_))); (case k2 => exact TreeIn.mono (by assumption) (by repeat (first | exact off_self | (refine off_trans ?_ (by assumption)) | refine off_cons ?_))); (case k3 => exact TreeIn.mono (by assumption) (by repeat (first | exact off_self | (refine off_trans ?_ (by assumption)) | refine off_cons ?_))); (case k4 => exact WordsIn.mono (by assumption) (by repeat (first | exact off_self | (refine off_trans ?_ (by assumption)) | refine off_cons ?_))); (case k5 => assumption); (case k6 => assumption); (case k7 => assumption)); (refine' part_bin ?nd ?ne ?k1 ?k2 ?k3 ?k4 ?k5 ?k6 ?k7 ?zc ?zd; (case zc => refine' And.intro ?zz1 ?zz2; (case zz1 => k_mem); (case zz2 => k_ne)); (case zd => refine' And.intro ?zz1 ?zz2; (case zz1 => k_mem); (case zz2 => k_ne)); (case nd => refine' NodeIn.bin ?za ?zb; (case za => refine' And.intro ?zz1 ?zz2; (case zz1 => k_mem); (case zz2 => k_ne)); (case zb => refine' And.intro ?zz1 ?zz2; (case zz1 => k_mem); (case zz2 => k_ne))); (case ne => refine' NodeIn.bin ?za ?zb; (case za => refine' And.intro ?zz1 ?zz2; (case zz1 => k_mem); (case zz2 => k_ne)); (case zb => refine' And.intro ?zz1 ?zz2; (case zz1 => k_mem); (case zz2 => k_ne))); (case k1 => exact TreeIn.mono (by assumption) (by repeat (first | exact off_self | (refine off_trans ?_ (by assumption)) | refine off_cons ?_))); (case k2 => exact TreeIn.mono (by assumption) (by repeat (first | exact off_self | (refine off_trans ?_ (by assumption)) | refine off_cons ?_))); (case k3 => exact TreeIn.mono (by assumption) (by repeat (first | exact off_self | (refine off_trans ?_ (by assumption)) | refine off_cons ?_))); (case k4 => exact WordsIn.mono (by assumption) (by repeat (first | exact off_self | (refine off_trans ?_ (by assumption)) | refine off_cons ?_))); (case k5 => assumption); (case k6 => assumption); (case k7 => assumption))

theorem expr0_ct {w : World} {H : Heap} {src : Addr} {o : Obj} {k : Int} {tk : Tok} (ho : SrcOk o) (hk0 : k = 0) : Ct w H 739 [.ref src, .int k tk] 40 800 [(src, o)] (MakeR src H (fun tl r => PartG (inLed tl) 0 r)) := by
  w_top off
  k_with_none
  (k_with "call ref" => (k_here; (with_reducible show wpAny _ _ (call (Value.ref 112) [_]) _ _ _); k_dflt (refine' new_lit ?q273lB ?q273lF ?q273lX ?q273lN ?q273lT ?q273lk ?q273ld ?q273lu ?_; (case q273lB => k_asm); (case q273lF => k_asm); (case q273lX => k_asm); (case q273lN => k_asm); (case q273lT => k_asm); (case q273lk => first | exact rfl | assumption); (case q273ld => k_room); (case q273lu => k_units)); intro x9 d9 h' tk9 h19 t19 F' N' l1 l2 l3; skip; skip; (try dsimp only)))
  (k_with "call ref" => (k_here; (with_reducible show wpAny _ _ (call (Value.ref 448) [_, _]) _ _ _); k_dflt (refine' new_coll ?q274lB ?q274lF ?q274lX ?q274lN ?q274lT ?q274lk ?q274ld ?q274lu ?_; (case q274lB => k_asm); (case q274lF => k_asm); (case q274lX => k_asm); (case q274lN => k_asm); (case q274lT => k_asm); (case q274lk => first | exact rfl | assumption); (case q274ld => k_room); (case q274lu => k_units)); intro x9 d9 h' tk9 h19 t19 h29 t29 F' N' l1 l2 l3; skip; skip; (try dsimp only)))
  (k_with "call ref" => (k_here; (with_reducible show wpAny _ _ (call (Value.ref 422) [_, _]) _ _ _); k_dflt (refine' new_cast ?q275lB ?q275lF ?q275lX ?q275lN ?q275lT ?q275lk ?q275ld ?q275lu ?_; (case q275lB => k_asm); (case q275lF => k_asm); (case q275lX => k_asm); (case q275lN => k_asm); (case q275lT => k_asm); (case q275lk => first | exact rfl | assumption); (case q275ld => k_room); (case q275lu => k_units)); intro x9 d9 h' tk9 h19 t19 h29 t29 F' N' l1 l2 l3; skip; skip; (try dsimp only)))
  (k_with "call ref" => (k_here; (with_reducible show wpAny _ _ (call (Value.ref 190) [_, _]) _ _ _); k_dflt (refine' new_un ?q276lB ?q276lF ?q276lX ?q276lN ?q276lT ?q276lk ?q276ld ?q276lu ?_; (case q276lB => k_asm); (case q276lF => k_asm); (case q276lX => k_asm); (case q276lN => k_asm); (case q276lT => k_asm); (case q276lk => first | exact rfl | assumption); (case q276ld => k_room); (case q276lu => k_units)); intro x9 d9 h' tk9 h19 t19 h29 t29 F' N' l1 l2 l3; skip; skip; (try dsimp only)))
  (k_with "call ref" => (k_here; (with_reducible show wpAny _ _ (call (Value.ref 294) [_, _, _]) _ _ _); k_dflt (refine' new_insel ?q277lB ?q277lF ?q277lX ?q277lN ?q277lT ?q277lk ?q277ld ?q277lu ?_; (case q277lB => k_asm); (case q277lF => k_asm); (case q277lX => k_asm); (case q277lN => k_asm); (case q277lT => k_asm); (case q277lk => first | exact rfl | assumption); (case q277ld => k_room); (case q277lu => k_units)); intro x9 d9 h' tk9 h19 t19 h29 t29 h39 t39 F' N' l1 l2 l3; skip; skip; (try dsimp only)))
  (k_with "call ref" => (k_here; (with_reducible show wpAny _ _ (call (Value.ref 474) [_, _]) _ _ _); k_dflt (refine' new_isn ?q278lB ?q278lF ?q278lX ?q278lN ?q278lT ?q278lk ?q278ld ?q278lu ?_; (case q278lB => k_asm); (case q278lF => k_asm); (case q278lX => k_asm); (case q278lN => k_asm); (case q278lT => k_asm); (case q278lk => first | exact rfl | assumption); (case q278ld => k_room); (case q278lu => k_units)); intro x9 d9 h' tk9 h19 t19 h29 t29 F' N' l1 l2 l3; skip; skip; (try dsimp only)))
  (k_with "call ref" => (k_here; (with_reducible show wpAny _ _ (call (Value.ref 242) [_, _, _, _]) _ _ _); k_dflt (refine' new_betw ?q279lB ?q279lF ?q279lX ?q279lN ?q279lT ?q279lk ?q279ld ?q279lu ?_; (case q279lB => k_asm); (case q279lF => k_asm); (case q279lX => k_asm); (case q279lN => k_asm); (case q279lT => k_asm); (case q279lk => first | exact rfl | assumption); (case q279ld => k_room); (case q279lu => k_units)); intro x9 d9 h' tk9 h19 t19 h29 t29 h39 t39 h49 t49 F' N' l1 l2 l3; skip; skip; (try dsimp only)))
  (k_with "call ref" => (k_here; (with_reducible show wpAny _ _ (call (Value.ref 268) [_, _, _]) _ _ _); k_dflt (refine' new_inl ?q280lB ?q280lF ?q280lX ?q280lN ?q280lT ?q280lk ?q280ld ?q280lu ?_; (case q280lB => k_asm); (case q280lF => k_asm); (case q280lX => k_asm); (case q280lN => k_asm); (case q280lT => k_asm); (case q280lk => first | exact rfl | assumption); (case q280ld => k_room); (case q280lu => k_units)); intro x9 d9 h' tk9 h19 t19 h29 t29 h39 t39 F' N' l1 l2 l3; skip; skip; (try dsimp only)))
  (k_with "call ref" => (k_here; (with_reducible show wpAny _ _ (call (Value.ref 370) [_, _, _]) _ _ _); k_dflt (refine' new_case ?q281lB ?q281lF ?q281lX ?q281lN ?q281lT ?q281lk ?q281ld ?q281lu ?_; (case q281lB => k_asm); (case q281lF => k_asm); (case q281lX => k_asm); (case q281lN => k_asm); (case q281lT => k_asm); (case q281lk => first | exact rfl | assumption); (case q281ld => k_room); (case q281lu => k_units)); intro x9 d9 h' tk9 h19 t19 h29 t29 h39 t39 F' N' l1 l2 l3; skip; skip; (try dsimp only)))
  (k_with "call ref" => (k_here; (with_reducible show wpAny _ _ (call (Value.ref 500) [_, _, _, _, _]) _ _ _); k_dflt (refine' new_mat ?q282lB ?q282lF ?q282lX ?q282lN ?q282lT ?q282lk ?q282ld ?q282lu ?_; (case q282lB => k_asm); (case q282lF => k_asm); (case q282lX => k_asm); (case q282lN => k_asm); (case q282lT => k_asm); (case q282lk => first | exact rfl | assumption); (case q282ld => k_room); (case q282lu => k_units)); intro x9 d9 h' tk9 h19 t19 h29 t29 h39 t39 h49 t49 h59 t59 F' N' l1 l2 l3; skip; skip; (try dsimp only)))
  (k_with "call ref" => (k_here; (with_reducible show wpAny _ _ (call (Value.ref 216) [_, _, _]) _ _ _); k_dflt (refine' new_bin ?q283lB ?q283lF ?q283lX ?q283lN ?q283lT ?q283lk ?q283ld ?q283lu ?_; (case q283lB => k_asm); (case q283lF => k_asm); (case q283lX => k_asm); (case q283lN => k_asm); (case q283lT => k_asm); (case q283lk => first | exact rfl | assumption); (case q283ld => k_room); (case q283lu => k_units)); intro x9 d9 h' tk9 h19 t19 h29 t29 h39 t39 F' N' l1 l2 l3; skip; skip; (try dsimp only)))
  (k_with "call builtin:len" => (k_here; (with_reducible show wpAny _ _ (call (Value.builtin "len") [Value.ref _]) _ _ _); refine call_len_list (isl_base (by k_asm) (by assumption)) (by simp only [List.size_toArray, List.length_map]; omega) ?_; (simp only [List.size_toArray, List.length_map])))
  (k_with "call ref" => (k_here; (with_reducible show wpAny _ _ (call (Value.ref 687) [_, _]) _ _ _); k_dflt (refine' ct_draw (take_ct ?q285ho ?q285ht ?q285ht2) ?q285lB ?q285lF ?q285lX ?q285lN ?q285lU ?q285lT ?q285lk ?q285ld ?q285lu ?_; (case q285ho => assumption); (case q285ht => first | decide | omega); (case q285ht2 => first | decide | omega); (case q285lB => k_asm); (case q285lF => k_asm); (case q285lX => k_asm); (case q285lN => k_asm); (case q285lU => k_updF); (case q285lT => k_asm); (case q285lk => first | exact rfl | assumption); (case q285ld => k_room); (case q285lu => k_units)); intro r9 h' tk9 o9 hr9 ok9 st9 F' N'; (try dsimp only at N'); obtain ⟨k9, t9, he9, h09, h19⟩ := hr9; subst he9; (try dsimp only)))
  (k_with "call ref" => (k_here; (with_reducible show wpAny _ _ (call (Value.ref 715) [_]) _ _ _); k_dflt (refine' ct_make (leaf_ct ?q286ho) ?q286lB ?q286lF ?q286lX ?q286lN ?q286lU ?q286lt ?q286lT ?q286lk ?q286ld ?q286lu ?_; (case q286ho => assumption); (case q286lB => k_asm); (case q286lF => k_asm); (case q286lX => k_asm); (case q286lN => k_asm); (case q286lU => k_updF); (case q286lt => first | assumption | exact (fun p hp => nomatch hp)); (case q286lT => k_asm); (case q286lk => first | exact rfl | assumption); (case q286ld => k_room); (case q286lu => k_units)); intro r9 h' tk9 o9 tl9 tl9' sub9 hr9 subr9 hT9 ok9 st9 F' N'; (try dsimp only at N'); (replace hr9 := hr9.mono subr9); clear subr9; (try dsimp only)))
  (k_with "call ref" => (k_here; (with_reducible show wpAny _ _ (call (Value.ref 734) [_]) _ _ _); k_dflt (refine' ct_make (bare_ct ?q287ho) ?q287lB ?q287lF ?q287lX ?q287lN ?q287lU ?q287lt ?q287lT ?q287lk ?q287ld ?q287lu ?_; (case q287ho => assumption); (case q287lB => k_asm); (case q287lF => k_asm); (case q287lX => k_asm); (case q287lN => k_asm); (case q287lU => k_updF); (case q287lt => first | assumption | exact (fun p hp => nomatch hp)); (case q287lT => k_asm); (case q287lk => first | exact rfl | assumption); (case q287ld => k_room); (case q287lu => k_units)); intro r9 h' tk9 o9 tl9 tl9' sub9 hr9 subr9 hT9 ok9 st9 F' N'; (try dsimp only at N'); (replace hr9 := hr9.mono subr9); clear subr9; (try dsimp only)))
  (k_with "call ref" => (k_here; (with_reducible show wpAny _ _ (call (Value.ref 694) [_, _]) _ _ _); k_dflt (refine' ct_drawO (one_ct ?q288ho ?q288hl ?q288hne ?q288hz ?q288hz2) ?q288lB ?q288lF ?q288lX ?q288lN ?q288lU ?q288lT ?q288lk ?q288ld ?q288lu ?_; (case q288ho => assumption); (case q288hl => refine' News.get ?q288nN ?q288nM; (case q288nN => k_asm); (case q288nM => k_mem)); (case q288hne => k_ne); (case q288hz => exact Nat.le_of_ble_eq_true rfl); (case q288hz2 => exact Nat.le_of_ble_eq_true rfl); (case q288lB => k_asm); (case q288lF => k_asm); (case q288lX => k_asm); (case q288lN => k_asm); (case q288lU => k_updF); (case q288lT => k_asm); (case q288lk => first | exact rfl | assumption); (case q288ld => k_room); (case q288lu => k_units)); intro r9 h' tk9 o9 hr9 ok9 st9 F' N' so9; (try dsimp only at N' so9); (first | (obtain ⟨c9, t9, he9, hc9, hz9⟩ := cword_of hr9; subst he9) | (obtain ⟨c9, t9, he9⟩ := uop_of hr9; subst he9) | skip); (try dsimp only)))
  (k_with "call ref" => (k_here; (with_reducible show wpAny _ _ (call (Value.ref 708) _) _ _ _); (try dsimp only [List.nil_append]); k_dflt (refine' ct_use select_ct ?q289lR ?q289lB ?q289lF ?q289lX ?q289lN ?q289lT ?q289lk ?q289ld ?q289lu ?_; (case q289lR => exact fun _ _ h => h.1); (case q289lB => k_asm); (case q289lF => k_asm); (case q289lX => k_asm); (case q289lN => k_asm); (case q289lT => k_asm); (case q289lk => first | exact rfl | assumption); (case q289ld => k_room); (case q289lu => k_units)); intro r9 h' tk9 hr9 hs9 F' N'; obtain ⟨_, a9, he9⟩ := hr9; subst he9; (try dsimp only)))
  intro mean mg mb dp un gd cn cs a₁ ccd cl outer A₀ base h₀ L m s Q E hH B F X N T hk hd hu hret
  revert X; k_fill; intro X
  subst hH
  refine wpAny_call ?_
  k_dflt (refine' code_defG (binds := [(Str.ofString "source", .ref src), (Str.ofString "depth", .int k tk)]) ?k1 ?k2 ?k3 N ?k5 ?kA ?kF ?kK ?k6 ?k7 ?k8 ?k9 ?kB ?_ ?c2 ?c3 ?c4 ?c5; (case kA => exact rfl); (case kF => exact rfl); (case kK => assumption); (case k1 => k_asm); (case k2 => k_asm); (case k3 => k_asm); (case k5 => k_asm); (case k6 => k_is); (case k7 => k_is); (case k8 => k_room); (case k9 => first | exact BindsTo.of_eq rfl | exact binds_K (by k_in) rfl (by k_is) rfl rfl rfl); (case c5 => decide); (case kB => exact locs rfl); (case c2 => exact rfl); (case c3 => exact rfl); (case c4 => exact rfl); k_whole)
  intro g' L' h' FG' F' N' B' X' T' G'
  (try dsimp only [List.reverse_cons, List.reverse_nil, List.nil_append, List.cons_append] at F'); (try dsimp only); (refine (?_ : let A9 : Around := _; wpAny _ A9 _ _ _ _); intro A9); (try k_fold)
  k_steps
  all_goals ((rename News g' _ _ _ => N9); (rename Fr g' _ _ _ => F9); (refine hret _ _ _ (make_end G' F9 N9 (by k_mem) (by assumption) (part_end ?_))); first | ((rename PartG _ _ _ => hp9); exact hp9.mono (in_off (by first | exact in_self | exact in_cons in_self | exact in_cons (in_cons in_self) | (repeat (first | exact in_self | refine in_cons ?_))) (by assumption))))
theorem expr_ct {w : World} : ∀ (n : Nat), n ≤ 2 → ∀ (H : Heap) (src : Addr) (o : Obj) (k : Int) (tk : Tok), SrcOk o → k = (n : Int) → Ct w H 739 [.ref src, .int k tk] (40 * n + 40) (800 * n + 800) [(src, o)] (MakeR src H (fun tl r => PartG (inLed tl) n r))
  | 0, _, H, src, o, k, tk, ho, hk => expr0_ct ho hk
  | n + 1, hn, H, src, o, k, tk, ho, hk => exprS_ct ⟨expr_ct n (by omega)⟩ ho (by omega) (by omega)
end
mutual
theorem right_ct {w : World} {H : Heap} {src : Addr} {o : Obj} (ho : SrcOk o) : Ct w H 771 [.ref src] 180 3500 [(src, o)] (DrawR src H (fun _ r => r = .bool true)) := by
  w_top off
  k_with_none
  (k_with "exec Assign cons ListComp" => (k_here; (with_reducible show wpAny _ _ (exec (PySem.Stmt.Assign [PySem.Expr.Name (Str.ofString "some") _] _ _) _) _ _ _); (rename GSub _ _ _ => lG9); (rename Fr _ _ _ _ => lF'); (with_unfolding_all refine' assign_drawG (x := Str.ofString "turn") lG9 2 lF' ?q296q9 ?q296q0 ?q296q1 ?q296q2 ?q296q3 ?q296q4 ?q296q5 ?q296q6 ?q296q7 ?q296q8 ?_; (case q296q9 => rfl); (case q296q0 => rfl); (case q296q1 => rfl); (case q296q2 => rfl); (case q296q3 => decide); (case q296q4 => rfl); (case q296q5 => decide); (case q296q6 => rfl); (case q296q7 => rfl); (case q296q8 => rfl); k_whole)))
  (k_with "exec Assign cons ListComp" => (k_here; (with_reducible show wpAny _ _ (exec (PySem.Stmt.Assign [PySem.Expr.Name (Str.ofString "explicit") _] _ _) _) _ _ _); (rename Fr _ _ _ _ => lF'); (rename (∀ v ∈ _, PartG (inLed _) _ v) => hall9); (with_unfolding_all refine' assign_expl hall9 lF' ?q297q0 ?q297q1 ?q297q2 ?q297q3 ?q297q4 ?q297q5 ?q297q6 ?q297q7 ?q297q8 ?_; (case q297q0 => rfl); (case q297q1 => rfl); (case q297q2 => rfl); (case q297q3 => decide); (case q297q4 => rfl); (case q297q5 => decide); (case q297q6 => rfl); (case q297q7 => rfl); (case q297q8 => rfl); k_whole)))
  (k_with "exec Assign cons ListComp" => (k_here; (with_reducible show wpAny _ _ (exec (PySem.Stmt.Assign [PySem.Expr.Name (Str.ofString "nodes") _] _ _) _) _ _ _); (rename Fr _ _ _ _ => lF'); (rename (∀ v ∈ _, PartG (inLed _) _ v) => hall9); (with_unfolding_all refine' assign_nodes hall9 lF' ?q298q0 ?q298q1 ?q298q2 ?q298q3 ?q298q4 ?q298q5 ?q298q6 ?q298q7 ?q298q8 ?_; (case q298q0 => rfl); (case q298q1 => rfl); (case q298q2 => rfl); (case q298q3 => decide); (case q298q4 => rfl); (case q298q5 => decide); (case q298q6 => rfl); (case q298q7 => rfl); (case q298q8 => rfl); k_whole)))
  (k_with "AskD" => (k_here; (rename Fr _ _ _ _ => lF'); (rename News _ _ _ _ => lN'); (rename SrcOk _ => lo9); with_unfolding_all refine askD_intro (pre := [_]) (tl := []) (by assumption) lF' lN' lo9 (cell_off lN' lo9 (by assumption)) (fun _ h => nomatch h) ?_ ?_; (intro C9 s9 m9 E9 o9 tl9 ho9 hn9 F' N'; (simp only [List.cons_append, List.nil_append] at N')); rotate_left; (intro D9 h9 tk9 ys9 o9 tl9 hl9 hys9 ho9 hT9 F' N' hD9; (have hall9 := hys9); (obtain ⟨p1, l1, a1, c1, w1, t1, n1, m1, p2, l2, a2, c2, w2, t2, n2, m2, p3, l3, a3, c3, w3, t3, n3, m3, ey9, ⟨hD1, hR1, hl1, hW1, hC1, hG1⟩, ⟨hD2, hR2, hl2, hW2, hC2, hG2⟩, ⟨hD3, hR3, hl3, hW3, hC3, hG3⟩⟩ := parts_three hl9 hys9); subst ey9; (simp only [List.cons_append, List.nil_append, List.length_cons, List.length_nil] at N' hD9); (have hdL9 := goods_depth hG1 hG2 hG3); (have hdN9 : depthL [] = 0 := by simp only [depthL]); clear hys9 hl9; dsimp only)))
  (k_with "call ref" => (k_here; (with_reducible show wpAny _ _ (call (Value.ref 739) [_, _]) _ _ _); k_dflt (refine' ct_raw (expr_ct 2 (by decide) _ _ _ _ _ ?q300ho rfl) ?q300lB ?q300lF ?q300lX ?q300lN ?q300lm ?q300lT ?q300lk ?q300ld ?q300lu ?_; (case q300ho => assumption); (case q300lB => k_asm); (case q300lF => k_asm); (case q300lX => k_asm); (case q300lN => k_asm); (case q300lm => k_mem); (case q300lT => k_asm); (case q300lk => first | exact rfl | assumption); (case q300ld => k_room); (case q300lu => k_units)); intro r9 h' tk9 hr9))
  (k_with "MadeEnd" => (rename MakeR _ _ _ _ _ => hr9); exact made_end hr9)
  (k_with "eval ListComp" => (k_here; (with_unfolding_all refine' comp_none ?q302q1 ?q302q2 ?q302q3 ?q302q4 ?q302q5 ?_; (case q302q1 => rfl); (case q302q2 => decide); (case q302q3 => rfl); (case q302q4 => decide); (case q302q5 => rfl); k_whole)))
  (k_with "pyIter ref" => (k_here; (rename Fr _ _ _ _ => lF'); (rename News _ _ _ _ => lN'); (rename (∀ v ∈ _, PartG (inLed _) _ v) => hall9); (with_unfolding_all refine comp_list rfl lF' lN' (isl_news lN' (by k_mem)) (few_line (Nat.le_of_ble_eq_true rfl)) ?_ ?_ ?_); (intro C9 v9 s9 m9 E9 hv9 hn9 hm9 hs9 F' N'; refine test_one ?_; (have hP9 : PartG (atH s9.heap) 2 v9 := (hall9 _ hv9).mono (led_at N' (by repeat (first | exact in_self | refine in_cons ?_))))); rotate_left; (intro C9 v9 s9 m9 E9 hv9 hp9 hn9 hm9 hs9 F' N'; exact absurd hp9 Bool.false_ne_true); (intro D9 n9 h9 tk9 ys9 F' N' hD9 hs9 hP9; (have e9 := none_fil hP9; subst e9); dsimp only)))
  (k_with "call ref" => (k_here; (with_reducible show wpAny _ _ (call (Value.ref 766) [_]) _ _ _); k_dflt (refine' ct_use (oneright_ct ?q304hP) ?q304lR ?q304lB ?q304lF ?q304lX ?q304lN ?q304lT ?q304lk ?q304ld ?q304lu ?_; (case q304hP => assumption); (case q304lR => exact fun _ _ h => h.1); (case q304lB => k_asm); (case q304lF => k_asm); (case q304lX => k_asm); (case q304lN => k_asm); (case q304lT => k_asm); (case q304lk => first | exact rfl | assumption); (case q304ld => k_room); (case q304lu => k_units)); intro r9 h' tk9 hr9 hs9 F' N'; obtain ⟨_, he9⟩ := hr9; subst he9; (try dsimp only)))
  (k_with "TestEnd" => exact test_no (by assumption))
  (k_with "compareOp NotEq ref ref" => (k_here; (with_reducible show wpAny _ _ (compareOp CmpOp.NotEq (Value.ref _) (Value.ref _)) _ _ _); k_dflt (refine' ne_nils (isl_news ?q306n1 ?q306n2) (isl_news ?q306n3 ?q306n4) ?q306hu ?_; (case q306n1 => k_asm); (case q306n2 => k_mem); (case q306n3 => k_asm); (case q306n4 => k_mem); (case q306hu => k_units))))
  (k_with "AskA" => (k_here; (rename Fr _ _ _ _ => lF'); (rename News _ _ _ _ => lN'); (rename (∀ v ∈ _, PartG (inLed _) _ v) => hall9); (with_unfolding_all refine askA_intro (by rfl) (isl_news lN' (by k_mem)) (few_line (Nat.le_of_ble_eq_true rfl)) lF' lN' ?_ ?_); (intro C9 v9 s9 m9 E9 hv9 hn9 hm9 hs9 F' N'; (obtain ⟨p7, l7, a7, c7, w7, t7, n7, m7, e7, hD7, hR7, hl7, hW7, hC7, hG7⟩ := part_open (hall9 _ hv9)); subst e7; (have hl8 : s9.heap.get? l7 = some (_root_.PySem.W.listOf (List.toArray w7) m7) := led_at N' (by repeat (first | exact in_self | refine in_cons ?_)) _ _ hl7); (obtain ⟨ps7, hps7, hwd7⟩ := wordsP_of (hW7.mono (W' := atH s9.heap) (led_at N' (by repeat (first | exact in_self | refine in_cons ?_))))); (have hz7 : w7.length ≤ sizeLine := by (have q7 := few_words hG7 hW7 (by decide)); rw [sizeLine_eq]; omega); (have h31 := tag31 hwd7); (have hz6 := coll_few hps7 (few_words hG7 hW7 (by decide)))); rotate_left; (intro D9 n9 h9 tk9 ys9 F' N' hD9 hP9; (first | ((rename Paired (ExplOf _) _ _ => hP8); obtain ⟨y1, y2, y3, ey9, hE1, hE2, hE3⟩ := expl_three (led_at lN' (by repeat (first | exact in_self | refine in_cons ?_))) hP8 (by exact .mk (by assumption) (by assumption) (by assumption) (by assumption) (by assumption)) (by exact .mk (by assumption) (by assumption) (by assumption) (by assumption) (by assumption)) (by exact .mk (by assumption) (by assumption) (by assumption) (by assumption) (by assumption)); clear hP8) | ((rename Paired (NodeOf _) _ _ => hP8); obtain ⟨y1, y2, y3, ey9, hE1, hE2, hE3⟩ := node_three (led_at lN' (by repeat (first | exact in_self | refine in_cons ?_))) hP8 (by exact .mk (by assumption) (by assumption) (by assumption) (by assumption) (by assumption)) (by exact .mk (by assumption) (by assumption) (by assumption) (by assumption) (by assumption)) (by exact .mk (by assumption) (by assumption) (by assumption) (by assumption) (by assumption)))); subst ey9; dsimp only)))
  (k_with "EltEnd" => first | exact ⟨⟨_, .mk (by assumption) (by assumption) (by assumption) (by assumption) (by assumption), by assumption⟩, keeps_self _ _⟩ | exact ⟨⟨_, .mk (by assumption) (by assumption) (by assumption) (by assumption) (by assumption), by assumption⟩, _, _, rfl, stay_two (by assumption) (by assumption)⟩)
  (k_with "call ref" => (k_here; (with_reducible show wpAny _ _ (call (Value.ref 744) [_, _]) _ _ _); k_dflt (refine' ct_use (all_ct (kd := Str.ofString "collate") ?q309hl ?q309hz ?q309hps ?q309hw trivial) ?q309lR ?q309lB ?q309lF ?q309lX ?q309lN ?q309lT ?q309lk ?q309ld ?q309lu ?_; (case q309hl => assumption); (case q309hz => assumption); (case q309hps => assumption); (case q309hw => assumption); (case q309lR => exact fun _ _ h => h.1); (case q309lB => k_asm); (case q309lF => k_asm); (case q309lX => k_asm); (case q309lN => k_asm); (case q309lT => k_asm); (case q309lk => first | exact rfl | assumption); (case q309ld => k_room); (case q309lu => k_units)); intro r9 h' tk9 hr9 hs9 F' N'; (replace hr9 := FreshL.out hr9); obtain ⟨_, l9, n9, he9, hl9, hg9⟩ := hr9; subst he9; (have hN9 := fresh_news (by k_asm) (by k_asm) hs9 hl9 hg9); clear N'; obtain ⟨N', hn9⟩ := hN9; (try dsimp only)))
  (k_with "call ref" => (k_here; (with_reducible show wpAny _ _ (call (Value.ref 761) [_, _]) _ _ _); k_dflt (refine' ct_use (first_ct ?q310hl ?q310hz ?q310hv) ?q310lR ?q310lB ?q310lF ?q310lX ?q310lN ?q310lT ?q310lk ?q310ld ?q310lu ?_; (case q310hl => refine' News.get ?q310nN ?q310nM; (case q310nN => k_asm); (case q310nM => k_mem)); (case q310hz => first | exact Nat.le_of_ble_eq_true rfl | assumption); (case q310hv => first | exact cols_ns (six_cols (by assumption) (by assumption) (by assumption) (by assumption) (by assumption) (by assumption)) | exact cols_ns (four_cols (by assumption) (by assumption) (by assumption) (by assumption)) | (rename Tag 31 _ => lq31; exact ⟨lq31.out.1⟩)); (case q310lR => exact fun _ _ h => h.1); (case q310lB => k_asm); (case q310lF => k_asm); (case q310lX => k_asm); (case q310lN => k_asm); (case q310lT => k_asm); (case q310lk => first | exact rfl | assumption); (case q310ld => k_room); (case q310lu => k_units)); intro r9 h' tk9 hr9 hs9 F' N'; first | ((rename Tag 31 _ => lq31); (replace hr9 : ColIs r9 _ := first31 hr9.2 lq31)) | (obtain ⟨t9, he9⟩ := first_six (by assumption) (by assumption) (by assumption) (by assumption) (by assumption) (by assumption) hr9.2; subst he9; (try dsimp only)) | (obtain ⟨t9, he9⟩ := first_four (by assumption) (by assumption) (by assumption) (by assumption) hr9.2; subst he9; (try dsimp only))))
  (k_with "call ref" => (k_here; (with_reducible show wpAny _ _ (call (Value.ref 624) [_]) _ _ _); k_dflt (refine' ct_use (callcoll_ct ?q311hl ?q311hT ?q311hec) ?q311lR ?q311lB ?q311lF ?q311lX ?q311lN ?q311lT ?q311lk ?q311ld ?q311lu ?_; (case q311hl => refine' News.get ?q311nN ?q311nM; (case q311nN => k_asm); (case q311nM => k_mem)); (case q311hT => (rename News _ _ _ _ => lN9); first | exact .nil | exact .cons (TreeIn.mono (by assumption) (led_at lN9 (by repeat (first | exact in_self | refine in_cons ?_)))) (.cons (TreeIn.mono (by assumption) (led_at lN9 (by repeat (first | exact in_self | refine in_cons ?_)))) (.cons (TreeIn.mono (by assumption) (led_at lN9 (by repeat (first | exact in_self | refine in_cons ?_)))) .nil))); (case q311hec => first | exact goods_col (by assumption) (by assumption) (by assumption) | exact goods_nil); (case q311lR => exact fun _ _ h => h.1); (case q311lB => k_asm); (case q311lF => k_asm); (case q311lX => k_asm); (case q311lN => k_asm); (case q311lT => k_asm); (case q311lk => first | exact rfl | assumption); (case q311ld => k_room); (case q311lu => k_units)); intro r9 h' tk9 hr9 hs9 F' N'; obtain ⟨_, t9, he9⟩ := hr9; subst he9; (try dsimp only)))
  (k_with "call ref" => (k_here; (with_reducible show wpAny _ _ (call (Value.ref 631) [_, _]) _ _ _); k_dflt (refine' ct_use (cmp_ct (n := 5) ?q312h1 ?q312h2 ?q312d1 ?q312d2 ?q312hec) ?q312lR ?q312lB ?q312lF ?q312lX ?q312lN ?q312lT ?q312lk ?q312ld ?q312lu ?_; (case q312h1 => (rename News _ _ _ _ => lN9); exact (TreeIn.mono (by assumption) (led_at lN9 (by repeat (first | exact in_self | refine in_cons ?_))))); (case q312h2 => (rename News _ _ _ _ => lN9); exact (TreeIn.mono (by assumption) (led_at lN9 (by repeat (first | exact in_self | refine in_cons ?_))))); (case q312d1 => exact Good.depth (n := 2) (by assumption)); (case q312d2 => exact Good.depth (n := 2) (by assumption)); (case q312hec => exact ⟨Good.col (n := 2) (by assumption)⟩); (case q312lR => exact fun _ _ h => h.1); (case q312lB => k_asm); (case q312lF => k_asm); (case q312lX => k_asm); (case q312lN => k_asm); (case q312lT => k_asm); (case q312lk => first | exact rfl | assumption); (case q312ld => k_room); (case q312lu => k_units)); intro r9 h' tk9 hr9 hs9 F' N'; obtain ⟨_, t9, he9⟩ := hr9; subst he9; (try dsimp only)))
  (k_with "compareOp NotEq str str" => (k_here; (with_reducible show wpAny _ _ (compareOp CmpOp.NotEq (Value.str _ _) (Value.str _ _)) _ _ _); k_dflt (refine ne_strs ?_)))
  (k_with "compareOp Eq str str" => (k_here; (with_reducible show wpAny _ _ (compareOp CmpOp.Eq (Value.str _ _) (Value.str _ _)) _ _ _); refine eq_strs ?_))
  (k_with "subscriptTail" => (k_here; (with_reducible show wpAny _ _ (subscriptTail _ _ (Value.ref _) (Value.int _ _)) _ _ _); (rename News _ _ _ _ => lN'); first | k_dflt (refine item_listL (isl_news lN' (by k_mem)) (by decide) (by decide) (by rfl) ?_) | (refine' item3_0 lN' ?q315ie ?_; (case q315ie => (repeat' (first | with_reducible assumption | with_reducible refine' List.mem_cons_of_mem _ ?_)))) | (refine' item3_1 lN' ?q315ie ?_; (case q315ie => (repeat' (first | with_reducible assumption | with_reducible refine' List.mem_cons_of_mem _ ?_)))) | (refine' item3_2 lN' ?q315ie ?_; (case q315ie => (repeat' (first | with_reducible assumption | with_reducible refine' List.mem_cons_of_mem _ ?_))))))
  (k_with "subscriptTail Name Constant ref int" => (k_here; (with_reducible show wpAny _ _ (subscriptTail _ _ (Value.ref _) (Value.int _ _)) _ _ _); (rename News _ _ _ _ => lN'); first | k_dflt (refine item_listL (isl_news lN' (by k_mem)) (by decide) (by decide) (by rfl) ?_) | (refine' item3_0 lN' ?q316ie ?_; (case q316ie => (repeat' (first | with_reducible assumption | with_reducible refine' List.mem_cons_of_mem _ ?_)))) | (refine' item3_1 lN' ?q316ie ?_; (case q316ie => (repeat' (first | with_reducible assumption | with_reducible refine' List.mem_cons_of_mem _ ?_)))) | (refine' item3_2 lN' ?q316ie ?_; (case q316ie => (repeat' (first | with_reducible assumption | with_reducible refine' List.mem_cons_of_mem _ ?_))))))
  (k_with "subscriptTail Subscript Name Constant Constant ref int" => (k_here; (with_reducible show wpAny _ _ (subscriptTail _ _ (Value.ref _) (Value.int _ _)) _ _ _); (rename News _ _ _ _ => lN'); first | k_dflt (refine item_listL (isl_news lN' (by k_mem)) (by decide) (by decide) (by rfl) ?_) | (refine' item3_0 lN' ?q317ie ?_; (case q317ie => (repeat' (first | with_reducible assumption | with_reducible refine' List.mem_cons_of_mem _ ?_)))) | (refine' item3_1 lN' ?q317ie ?_; (case q317ie => (repeat' (first | with_reducible assumption | with_reducible refine' List.mem_cons_of_mem _ ?_)))) | (refine' item3t_2 lN' ?q317ie ?_; (case q317ie => (repeat' (first | with_reducible assumption | with_reducible refine' List.mem_cons_of_mem _ ?_))))))
  intro mean mg mb dp un gd cn cs a₁ ccd cl outer A₀ base h₀ L m s Q E hH B F X N T hk hd hu hret
  revert X; k_fill; intro X
  subst hH
  refine wpAny_call ?_
  k_dflt (refine' code_defGC (binds := [(Str.ofString "source", .ref src)]) ?k1 ?k2 ?k3 N ?k5 ?kA ?kF ?kK ?k6 ?k7 ?k8 ?k9 ?kB ?kD ?_ ?c2 ?c3 ?c4; (case kA => exact rfl); (case kF => exact rfl); (case kK => assumption); (case k1 => k_asm); (case k2 => k_asm); (case k3 => k_asm); (case k5 => k_asm); (case k6 => k_is); (case k7 => k_is); (case k8 => k_room); (case k9 => first | exact BindsTo.of_eq rfl | exact binds_K (by k_in) rfl (by k_is) rfl rfl rfl); (case kB => exact rfl); (case kD => decide +kernel); (case c2 => exact rfl); (case c3 => exact rfl); (case c4 => exact rfl); k_whole)
  intro g' L' h' tk' cells' FG' F' N' Y' B' X' T' G'
  k_cells Y'
  (try simp only [List.cons_append, List.nil_append] at N'); (try dsimp only); (refine (?_ : let A9 : Around := _; wpAny _ A9 _ _ _ _); intro A9); (try k_fold)
  k_steps
  all_goals ((rename News g' _ _ _ => N9); (rename Fr g' _ _ _ => F9); (rename GSub _ _ _ => G9); exact hret _ _ _ (draw_end G9 F9 N9 (by k_mem) (by assumption) rfl))
theorem law_holds : PySem.Challenge.rw_xm0760_01.Holds := by
  w_top off
  k_with_none
  (k_with "call ref" => (k_here; (with_reducible show wpAny _ _ (call (Value.ref 190) [_, _]) _ _ _); k_dflt (refine' new_un ?q318lB ?q318lF ?q318lX ?q318lN ?q318lT ?q318lk ?q318ld ?q318lu ?_; (case q318lB => k_asm); (case q318lF => k_asm); (case q318lX => k_asm); (case q318lN => k_asm); (case q318lT => k_asm); (case q318lk => first | exact rfl | assumption); (case q318ld => k_room); (case q318lu => k_units)); intro x9 d9 h' tk9 h19 t19 h29 t29 F' N' l1 l2 l3; skip; skip; (try dsimp only)))
  (k_with "call ref" => (k_here; (with_reducible show wpAny _ _ (call (Value.ref 422) [_, _]) _ _ _); k_dflt (refine' new_cast ?q319lB ?q319lF ?q319lX ?q319lN ?q319lT ?q319lk ?q319ld ?q319lu ?_; (case q319lB => k_asm); (case q319lF => k_asm); (case q319lX => k_asm); (case q319lN => k_asm); (case q319lT => k_asm); (case q319lk => first | exact rfl | assumption); (case q319ld => k_room); (case q319lu => k_units)); intro x9 d9 h' tk9 h19 t19 h29 t29 F' N' l1 l2 l3; skip; skip; (try dsimp only)))
  (k_with "call ref" => (k_here; (with_reducible show wpAny _ _ (call (Value.ref 701) [_]) _ _ _); k_dflt (refine' ct_new0 column_ct ?q320lB ?q320lF ?q320lX ?q320lN ?q320lT ?q320lk ?q320ld ?q320lu ?_;  (case q320lB => k_asm); (case q320lF => k_asm); (case q320lX => k_asm); (case q320lN => k_asm); (case q320lT => k_asm); (case q320lk => first | exact rfl | assumption); (case q320ld => exact Nat.le_of_ble_eq_true rfl); (case q320lu => exact Nat.le_of_ble_eq_true rfl)); intro r9 h' tk9 tl9 hr9 hs9 hT9 F' N'; obtain ⟨a9, he9, hn9⟩ := hr9; subst he9; (simp only [List.cons_append, List.nil_append] at N'); (try dsimp only)))
  (k_with "call ref" => (k_here; (with_reducible show wpAny _ _ (call (Value.ref 609) [_]) _ _ _); k_dflt (refine' ct_use (col_ct 3 (.mk _ .pass [.mk _ .pass [.mk _ (.name (Str.ofString "nocase")) []]]) _ _ three_deep ?q321hT) ?q321lR ?q321lB ?q321lF ?q321lX ?q321lN ?q321lT ?q321lk ?q321ld ?q321lu ?_; (case q321hT => (rename News _ _ _ _ => lN9); (rename NodeIn _ _ _ _ _ => lH9); refine' TreeIn.mono (TreeIn.mk (NodeIn.cast ?q321za ?q321zb) (.cons (TreeIn.mk (un_plus (o := Str.ofString "+") (by decide +kernel) ?q321zc ?q321zd) (.cons (TreeIn.mk (lH9.mono (by repeat (first | exact in_self | refine in_cons ?_))) .nil) .nil)) .nil)) (led_here lN9); (case q321za => k_mem); (case q321zb => k_mem); (case q321zc => k_mem); (case q321zd => k_mem)); (case q321lR => exact fun _ _ h => h.1); (case q321lB => k_asm); (case q321lF => k_asm); (case q321lX => k_asm); (case q321lN => k_asm); (case q321lT => k_asm); (case q321lk => first | exact rfl | assumption); (case q321ld => exact Nat.le_of_ble_eq_true rfl); (case q321lu => exact Nat.le_of_ble_eq_true rfl)); intro r9 h' tk9 hr9 hs9 F' N'; obtain ⟨_, hc9⟩ := hr9; obtain ⟨t9, he9⟩ := col_nocase hc9; subst he9; (try dsimp only)))
  (k_with "compareOp NotEq str str" => (k_here; (with_reducible show wpAny _ _ (compareOp CmpOp.NotEq (Value.str _ _) (Value.str _ _)) _ _ _); k_dflt (refine ne_strs ?_)))
  (k_with "call ref" => (k_here; (with_reducible show wpAny _ _ (call (Value.ref 771) [_]) _ _ _); k_dflt (refine' ct_draw1 (right_ct ?q323ho) ?q323lB ?q323lF ?q323lX ?q323lN ?q323lm ?q323lT ?q323lk ?q323ld ?q323lu ?_; (case q323lB => k_asm); (case q323lF => k_asm); (case q323lX => k_asm); (case q323lN => k_asm); (case q323lm => k_mem); (case q323lT => k_asm); (case q323lk => first | exact rfl | assumption); (case q323ld => exact Nat.le_of_ble_eq_true rfl); (case q323lu => exact Nat.le_of_ble_eq_true rfl); (case q323ho => exact pool_ok)); intro r9 h' tk9 o9 hr9 F' N'; subst hr9; (try dsimp only)))
  refine _root_.Mine.top._proof_1_1002 ?_
  intro said
  refine _root_.Mine.top._proof_1_1001 said ?_
  clear said
  k_go0
  (all_goals try k_fold)
  k_steps
end
end
end Mine
theorem PySem.Challenge.cw_xm0760_01_holds : PySem.Challenge.rw_xm0760_01.Holds :=
  Mine.law_holds
